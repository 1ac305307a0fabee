import PyProof.Rows.All
import Wide.All
import OpenK.AllK
import Wide.FinOn
import HandS.ForMost
import HandS.ForExc
import HandS.IsInst
import HandS.Property
import HandS.ExcIs
import HandS.CallSlots
import HandS.Wide
import KE.KDictKeyed
import HandS.TupAny
import HandS.Style
import HandS.SortInts
import HandS.Defaults
import KE.KOpsOwn
import HandS.MakeKw
import PySem.Challenge.RW_sumsplay_k07_whole_simplest_between
set_option Elab.async false
set_option linter.all false
set_option maxRecDepth 100000
set_option maxHeartbeats 4000000
namespace AL
open PySem PySem.Spec PyProof.Rows L2

/-- data: what a value is, with all that hangs on it; ref: an object that may change, or a class, a def -/
inductive DV where
  | non | bl (b : Bool) | int (i : Int) | str (x : Str) | ty (n : String) | ref (a : Addr)
  | lst (xs : List DV) | tup (xs : List DV) | ins (C : Addr) (ks : List Str) (xs : List DV) | wl (xs : List DV)

/-- objects that change -/
inductive MO where
  | lst (xs : List DV)
  | ins (C dx : Addr) (ks : List Str) (xs : List DV)
  | dK (kvs : List (Key × DV))
  | dT (kvs : List (NestedKey × DV))

abbrev Led := Addr → Option MO
def updL (L : Led) (a : Addr) (m : MO) : Led := fun b => if b = a then some m else L b
def delL (L : Led) (a : Addr) : Led := fun b => if b = a then none else L b
theorem updL_same {L : Led} {a : Addr} {m : MO} : updL L a m a = some m := by unfold updL; rw [if_pos rfl]
theorem updL_ne {L : Led} {a b : Addr} {m : MO} (h : b ≠ a) : updL L a m b = L b := by unfold updL; rw [if_neg h]
theorem updL_updL {L : Led} {a : Addr} {m n : MO} : updL (updL L a m) a n = updL L a n := by
  funext b; unfold updL; split <;> rfl
theorem updL_comm {L : Led} {a b : Addr} {m n : MO} (h : a ≠ b) : updL (updL L a m) b n = updL (updL L b n) a m := by
  funext c; unfold updL
  by_cases h1 : c = b <;> by_cases h2 : c = a <;> simp [h1, h2] <;> intro z <;> first | exact absurd z h | exact absurd z.symm h | (subst h1; exact absurd h2 (Ne.symm h)) | skip
theorem updL_id {L : Led} {a : Addr} {m : MO} (h : L a = some m) : updL L a m = L := by
  funext b; unfold updL; split
  · rename_i e; rw [e, h]
  · rfl
theorem delL_updL {L : Led} {a : Addr} {m : MO} (h : L a = none) : delL (updL L a m) a = L := by
  funext b; unfold delL updL
  by_cases e : b = a
  · rw [if_pos e, e, h]
  · rw [if_neg e, if_neg e]
theorem ne_led {L : Led} {a b : Addr} {m : MO} (h : L a = some m) (h' : L b = none) : a ≠ b := by
  intro e; subst e; rw [h] at h'; cases h'
theorem ne_led2 {L : Led} {a b : Addr} {m n : MO} (h : L a = some m) (h' : L b = some n) (d : m ≠ n) : a ≠ b := by
  intro e; subst e; rw [h] at h'; exact d (Option.some.inj h')
/-- fewer objects are told -/
def Sub (L2 L : Led) : Prop := ∀ a m, L2 a = some m → L a = some m
theorem Sub.refl (L : Led) : Sub L L := fun _ _ h => h
theorem Sub.trans {L1 L2 L3 : Led} (h : Sub L1 L2) (h' : Sub L2 L3) : Sub L1 L3 := fun a m e => h' a m (h a m e)
theorem Sub.new {L : Led} {a : Addr} {m : MO} (h : L a = none) : Sub L (updL L a m) := fun b n e => by
  rw [updL_ne (ne_led e h)]; exact e
theorem Sub.into {L L1 : Led} {a : Addr} {m : MO} (s : Sub L L1) (h : L a = none) : Sub L (updL L1 a m) := fun b n e => by
  rw [updL_ne (ne_led e h)]; exact s b n e
theorem Sub.none {L L1 : Led} {a : Addr} (s : Sub L L1) (h : L1 a = none) : L a = none := by
  cases q : L a with
  | none => rfl
  | some m => rw [s a m q] at h; cases h

/-- one heap holds all of another -/
def Ex (H H' : Hp) : Prop := ∀ a o, H a = some o → H' a = some o
theorem Ex.refl (H : Hp) : Ex H H := fun _ _ h => h
theorem Ex.trans {H H1 H2 : Hp} (a : Ex H H1) (b : Ex H1 H2) : Ex H H2 := fun x o h => b x o (a x o h)
theorem Ex.new {H : Hp} {p : Addr} {o : HO} (h : H p = none) : Ex H (upd H p o) := fun a u e => by
  rw [upd_ne (ne_of_none e h)]; exact e
theorem Ex.rd {H H' : Hp} {a : Addr} {u : HO} (e : Ex H H') (h : Rd H a u) : Rd H' a u := by
  rcases h with h | ⟨o, h⟩
  · exact Or.inl (e a _ h)
  · exact Or.inr ⟨o, e a _ h⟩
theorem Ex.l {K : PySem.W.Frag} {H H' : Hp} {a : Addr} {xs : List V} (e : Ex H H') (h : SqL K H a xs) : SqL K H' a xs := by
  rcases h with h | h
  · exact Or.inl (e.rd h)
  · exact Or.inr h
theorem Ex.t {K : PySem.W.Frag} {H H' : Hp} {a : Addr} {xs : List V} (e : Ex H H') (h : SqT K H a xs) : SqT K H' a xs := by
  rcases h with h | h
  · exact Or.inl (e.rd h)
  · exact Or.inr h
theorem Ex.none {H H' : Hp} {a : Addr} (e : Ex H H') (h : H' a = none) : H a = none := by
  cases q : H a with
  | none => rfl
  | some m => rw [e a m q] at h; cases h

/-- what isinstance asks of a class -/
structure TyC (K : PySem.W.Frag) (C : Addr) : Prop where
  ha : PySem.W.findIn K (.ref C) "__class__" = some (some (.builtin "object.__class__"))
  hn : PySem.W.specialIn K (.builtin "object.__class__") "__get__" = some (some (.builtin "getset_descriptor.__get__"))
  htk : PySem.W.takesIn K (.builtin "object.__class__") = some true
  hm : PySem.W.mroIn K C (.type "object") = some true
/-- what the class says of an instance's attributes -/
structure FOk (K : PySem.W.Frag) (C : Addr) (ks : List Str) : Prop where
  cl : Cls K C
  ty : TyC K C
  no : ∀ f ∈ ks, NoAttr K C f
  nd : ks.Nodup
  few : ks.length < 1000

mutual
/-- the value v is the data d, by what stands in I for ever -/
inductive Rp (K : PySem.W.Frag) (I : Hp) : DV → V → Prop
  | non : Rp K I .non .non
  | bl (b : Bool) : Rp K I (.bl b) (.bl b)
  | int (i : Int) : Rp K I (.int i) (.int i)
  | str (x : Str) : Rp K I (.str x) (.str x)
  | ty (n : String) : Rp K I (.ty n) (.ty n)
  | ref (a : Addr) : Rp K I (.ref a) (.ref a)
  | lst {a : Addr} {vs : List V} {ds : List DV} (h : I a = some (.lst vs)) (r : Rps K I ds vs) : Rp K I (.lst ds) (.ref a)
  | wl {a : Addr} {vs : List V} {ds : List DV} (h : SqL K I a vs) (r : Rps K I ds vs) : Rp K I (.wl ds) (.ref a)
  | tup {a : Addr} {vs : List V} {ds : List DV} (h : SqT K I a vs) (r : Rps K I ds vs) : Rp K I (.tup ds) (.ref a)
  | ins {a C dx : Addr} {fs : List (Str × V)} {ks : List Str} {ds : List DV} (h : I a = some (.ins C dx fs)) (e : fs.map (·.1) = ks) (c : FOk K C ks) (r : Rps K I ds (fs.map (·.2))) : Rp K I (.ins C ks ds) (.ref a)
inductive Rps (K : PySem.W.Frag) (I : Hp) : List DV → List V → Prop
  | nil : Rps K I [] []
  | cons {d : DV} {v : V} {ds : List DV} {vs : List V} (h : Rp K I d v) (r : Rps K I ds vs) : Rps K I (d :: ds) (v :: vs)
end
section
variable {K : PySem.W.Frag} {I I' : Hp}
mutual
theorem Rp.mono (e : Ex I I') : ∀ {d : DV} {v : V}, Rp K I d v → Rp K I' d v
  | _, _, .non => .non
  | _, _, .bl b => .bl b
  | _, _, .int i => .int i
  | _, _, .str x => .str x
  | _, _, .ty n => .ty n
  | _, _, .ref a => .ref a
  | _, _, .lst h r => .lst (e _ _ h) (Rps.mono e r)
  | _, _, .wl h r => .wl (e.l h) (Rps.mono e r)
  | _, _, .tup h r => .tup (e.t h) (Rps.mono e r)
  | _, _, .ins h q c r => .ins (e _ _ h) q c (Rps.mono e r)
theorem Rps.mono (e : Ex I I') : ∀ {ds : List DV} {vs : List V}, Rps K I ds vs → Rps K I' ds vs
  | _, _, .nil => .nil
  | _, _, .cons h r => .cons (Rp.mono e h) (Rps.mono e r)
end
theorem Rps.length : ∀ {ds : List DV} {vs : List V}, Rps K I ds vs → ds.length = vs.length
  | _, _, .nil => rfl
  | _, _, .cons _ r => by rw [List.length_cons, List.length_cons, Rps.length r]
theorem Rps.get : ∀ {ds : List DV} {vs : List V} {i : Nat} {d : DV}, Rps K I ds vs → ds[i]? = some d → ∃ v, vs[i]? = some v ∧ Rp K I d v
  | _, _, _, _, .nil, e => by simp at e
  | _, _, 0, _, .cons h _, e => by simp at e; subst e; exact ⟨_, rfl, h⟩
  | _, _, i + 1, d, .cons _ r, e => by
    obtain ⟨v, h1, h2⟩ := Rps.get (i := i) (d := d) r (by simpa using e)
    exact ⟨v, by simpa using h1, h2⟩
theorem Rps.getV : ∀ {ds : List DV} {vs : List V} {i : Nat} {v : V}, Rps K I ds vs → vs[i]? = some v → ∃ d, ds[i]? = some d ∧ Rp K I d v
  | _, _, _, _, .nil, e => by simp at e
  | _, _, 0, _, .cons h _, e => by simp at e; subst e; exact ⟨_, rfl, h⟩
  | _, _, i + 1, d, .cons _ r, e => by
    obtain ⟨v, h1, h2⟩ := Rps.getV (i := i) (v := d) r (by simpa using e)
    exact ⟨v, by simpa using h1, h2⟩
theorem Rps.append : ∀ {ds es : List DV} {vs us : List V}, Rps K I ds vs → Rps K I es us → Rps K I (ds ++ es) (vs ++ us)
  | _, _, _, _, .nil, s => s
  | _, _, _, _, .cons h r, s => .cons h (Rps.append r s)
theorem Rps.take : ∀ {ds : List DV} {vs : List V} (n : Nat), Rps K I ds vs → Rps K I (ds.take n) (vs.take n)
  | _, _, 0, _ => by simp; exact .nil
  | _, _, _ + 1, .nil => .nil
  | _, _, n + 1, .cons h r => .cons h (Rps.take n r)
theorem Rps.drop : ∀ {ds : List DV} {vs : List V} (n : Nat), Rps K I ds vs → Rps K I (ds.drop n) (vs.drop n)
  | _, _, 0, r => r
  | _, _, _ + 1, .nil => .nil
  | _, _, n + 1, .cons _ r => Rps.drop n r
theorem Rps.set {d : DV} {v : V} (h : Rp K I d v) : ∀ {ds : List DV} {vs : List V} (i : Nat), Rps K I ds vs → Rps K I (ds.set i d) (vs.set i v)
  | _, _, _, .nil => .nil
  | _, _, 0, .cons _ r => .cons h r
  | _, _, i + 1, .cons q r => .cons q (Rps.set h i r)
theorem Rps.reverse : ∀ {ds : List DV} {vs : List V}, Rps K I ds vs → Rps K I ds.reverse vs.reverse
  | _, _, .nil => .nil
  | _, _, .cons h r => by
    rw [List.reverse_cons, List.reverse_cons]
    exact Rps.append (Rps.reverse r) (.cons h .nil)
theorem Rps.dropLast {ds : List DV} {vs : List V} (r : Rps K I ds vs) : Rps K I ds.dropLast vs.dropLast := by
  rw [List.dropLast_eq_take, List.dropLast_eq_take, r.length]; exact r.take _
theorem Rps.ints : ∀ {ns : List Int} {vs : List V}, Rps K I (ns.map DV.int) vs → vs = ns.map V.int
  | [], _, .nil => rfl
  | n :: ns, _, .cons h r => by
    cases h
    rw [Rps.ints r]; rfl
theorem Rps.of_ints : ∀ (ns : List Int), Rps K I (ns.map DV.int) (ns.map V.int)
  | [] => .nil
  | n :: ns => .cons (.int n) (Rps.of_ints ns)
theorem Rps.bls : ∀ {ns : List Bool} {vs : List V}, Rps K I (ns.map DV.bl) vs → vs = ns.map V.bl
  | [], _, .nil => rfl
  | n :: ns, _, .cons h r => by
    cases h
    rw [Rps.bls r]; rfl
theorem Rps.strs : ∀ {ns : List Str} {vs : List V}, Rps K I (ns.map DV.str) vs → vs = ns.map V.str
  | [], _, .nil => rfl
  | n :: ns, _, .cons h r => by
    cases h
    rw [Rps.strs r]; rfl
end

/-- the program, the world, the written part -/
structure Kx where
  P : Program
  w : World
  K : PySem.W.Frag
abbrev _root_.L2.Cx.kx (X : Cx) : Kx := ⟨X.prog, X.w, X.K⟩

mutual
/-- the key that some data are -/
def nk : DV → Option NestedKey
  | .non => some .none
  | .bl b => some (.num (if b = true then 1 else 0))
  | .int i => some (.num i)
  | .str x => some (.text x)
  | .tup ds => (nks ds).map NestedKey.tup
  | .ty _ => none
  | .ref _ => none
  | .lst _ => none
  | .ins _ _ _ => none
  | .wl _ => none
def nks : List DV → Option (List NestedKey)
  | [] => some []
  | d :: ds => match nk d, nks ds with
    | some k, some ks => some (k :: ks)
    | _, _ => none
end
/-- the object at a is a dict with just these entries -/
def RawD (P : Program) (w : World) (a : Addr) (xs : List (NestedKey × Addr × Value)) (h : Heap) : Prop :=
  ∃ o es ep, h.get? a = some o ∧ o.ExactDict ∧ o.data = .dict es ep ∧ es.toList = xs.map (entryOfKey (nestedKind P w))
/-- one entry told: its key's tuple stays for ever -/
structure EntOk (K : PySem.W.Frag) (I : Hp) (p : NestedKey × DV) (x : NestedKey × Addr × Value) : Prop where
  key : p.1 = x.1
  tup : ∃ ds, Rp K I (.tup ds) (.ref x.2.1) ∧ nk (.tup ds) = some x.1
  deep : x.1.depth ≤ 8
  val : ∃ v, RelV v x.2.2 ∧ Rp K I p.2 v
inductive EntsOk (K : PySem.W.Frag) (I : Hp) : List (NestedKey × DV) → List (NestedKey × Addr × Value) → Prop
  | nil : EntsOk K I [] []
  | cons {p x ps xs} (h : EntOk K I p x) (r : EntsOk K I ps xs) : EntsOk K I (p :: ps) (x :: xs)

inductive RpO (k : Kx) (I : Hp) (a : Addr) : MO → HO → Prop
  | lst {ds : List DV} {vs : List V} (r : Rps k.K I ds vs) : RpO k I a (.lst ds) (.lst vs)
  | ins {C dx : Addr} {ks : List Str} {ds : List DV} {fs : List (Str × V)} (e : fs.map (·.1) = ks) (c : FOk k.K C ks) (r : Rps k.K I ds (fs.map (·.2))) : RpO k I a (.ins C dx ks ds) (.ins C dx fs)
  | dK {kvs : List (Key × DV)} {xs : List (Key × V)} (e : kvs.map (·.1) = xs.map (·.1)) (r : Rps k.K I (kvs.map (·.2)) (xs.map (·.2))) : RpO k I a (.dK kvs) (.dK xs)
  | dT {kvs : List (NestedKey × DV)} {xs : List (NestedKey × Addr × Value)} (nd : (xs.map (·.1)).Nodup) (na : (a == sysModules) = false) (few : xs.length ≤ sizeLine) (r : EntsOk k.K I kvs xs) : RpO k I a (.dT kvs) (.ext (RawD k.P k.w a xs))
theorem EntOk.mono {K : PySem.W.Frag} {I I' : Hp} {p x} (e : Ex I I') (h : EntOk K I p x) : EntOk K I' p x :=
  ⟨h.key, let ⟨ds, r, q⟩ := h.tup; ⟨ds, r.mono e, q⟩, h.deep, let ⟨v, r, q⟩ := h.val; ⟨v, r, q.mono e⟩⟩
theorem EntsOk.mono {K : PySem.W.Frag} {I I' : Hp} (e : Ex I I') : ∀ {ps xs}, EntsOk K I ps xs → EntsOk K I' ps xs
  | _, _, .nil => .nil
  | _, _, .cons h r => .cons (h.mono e) (EntsOk.mono e r)
theorem RpO.mono {k : Kx} {I I' : Hp} {a : Addr} {m : MO} {o : HO} (e : Ex I I') (h : RpO k I a m o) : RpO k I' a m o := by
  cases h with
  | lst r => exact .lst (r.mono e)
  | ins q c r => exact .ins q c (r.mono e)
  | dK q r => exact .dK q (r.mono e)
  | dT nd na few r => exact .dT nd na few (r.mono e)

/-- the heap H: what stays for ever (I), what is told by the ledger L, what is hidden and stays (F) -/
structure Ab (k : Kx) (I : Hp) (L : Led) (F H : Hp) : Prop where
  imm : Ex I H
  frm : Ex F H
  led : ∀ a m, L a = some m → I a = none ∧ F a = none ∧ ∃ o, H a = some o ∧ RpO k I a m o
  sep : ∀ a o, F a = some o → I a = none
section
variable {k : Kx} {I F H : Hp} {L : Led} {p : Addr} {o : HO} {m : MO}
theorem Ab.freeI (A : Ab k I L F H) (h : H p = none) : I p = none := A.imm.none h
theorem Ab.freeF (A : Ab k I L F H) (h : H p = none) : F p = none := A.frm.none h
theorem Ab.freeL (A : Ab k I L F H) (h : H p = none) : L p = none := by
  cases q : L p with
  | none => rfl
  | some m =>
    obtain ⟨_, _, o, e, _⟩ := A.led p m q
    rw [h] at e; cases e
/-- a new object for ever -/
theorem Ab.newI (A : Ab k I L F H) (h : H p = none) : Ab k (upd I p o) L F (upd H p o) where
  imm := fun a u e => by
    by_cases q : a = p
    · subst q; rw [upd_same] at e ⊢; exact e
    · rw [upd_ne q] at e ⊢; exact A.imm a u e
  frm := fun a u e => by rw [upd_ne (ne_of_none (A.frm a u e) h)]; exact A.frm a u e
  led := fun a n e => by
    obtain ⟨h1, h2, u, h3, h4⟩ := A.led a n e
    have q : a ≠ p := ne_of_none h3 h
    exact ⟨by rw [upd_ne q]; exact h1, h2, u, by rw [upd_ne q]; exact h3, h4.mono (Ex.new (A.freeI h))⟩
  sep := fun a u e => by rw [upd_ne (ne_of_none (A.frm a u e) h)]; exact A.sep a u e
/-- a new object on the ledger -/
theorem Ab.newL (A : Ab k I L F H) (h : H p = none) (r : RpO k I p m o) : Ab k I (updL L p m) F (upd H p o) where
  imm := fun a u e => by rw [upd_ne (ne_of_none (A.imm a u e) h)]; exact A.imm a u e
  frm := fun a u e => by rw [upd_ne (ne_of_none (A.frm a u e) h)]; exact A.frm a u e
  led := fun a n e => by
    by_cases q : a = p
    · subst q
      rw [updL_same] at e; cases e
      exact ⟨A.freeI h, A.freeF h, o, upd_same, r⟩
    · rw [updL_ne q] at e
      obtain ⟨h1, h2, u, h3, h4⟩ := A.led a n e
      exact ⟨h1, h2, u, by rw [upd_ne q]; exact h3, h4⟩
  sep := A.sep
/-- a new object, hidden -/
theorem Ab.newF (A : Ab k I L F H) (h : H p = none) : Ab k I L (upd F p o) (upd H p o) where
  imm := fun a u e => by rw [upd_ne (ne_of_none (A.imm a u e) h)]; exact A.imm a u e
  frm := fun a u e => by
    by_cases q : a = p
    · subst q; rw [upd_same] at e ⊢; exact e
    · rw [upd_ne q] at e ⊢; exact A.frm a u e
  led := fun a n e => by
    obtain ⟨h1, h2, u, h3, h4⟩ := A.led a n e
    have q : a ≠ p := ne_of_none h3 h
    exact ⟨h1, by rw [upd_ne q]; exact h2, u, by rw [upd_ne q]; exact h3, h4⟩
  sep := fun a u e => by
    by_cases q : a = p
    · subst q; exact A.freeI h
    · rw [upd_ne q] at e; exact A.sep a u e
/-- a new object that nobody tells -/
theorem Ab.lost (A : Ab k I L F H) (h : H p = none) : Ab k I L F (upd H p o) where
  imm := fun a u e => by rw [upd_ne (ne_of_none (A.imm a u e) h)]; exact A.imm a u e
  frm := fun a u e => by rw [upd_ne (ne_of_none (A.frm a u e) h)]; exact A.frm a u e
  led := fun a n e => by
    obtain ⟨h1, h2, u, h3, h4⟩ := A.led a n e
    exact ⟨h1, h2, u, by rw [upd_ne (ne_of_none h3 h)]; exact h3, h4⟩
  sep := A.sep
/-- an object of the ledger changed -/
theorem Ab.write {m' : MO} {o' : HO} (A : Ab k I L F H) (h : L p = some m) (r : RpO k I p m' o') : Ab k I (updL L p m') F (upd H p o') := by
  obtain ⟨h1, h2, o, h3, _⟩ := A.led p m h
  refine ⟨fun a u e => ?_, fun a u e => ?_, fun a n e => ?_, A.sep⟩
  · rw [upd_ne (ne_of_none e h1)]; exact A.imm a u e
  · rw [upd_ne (ne_of_none e h2)]; exact A.frm a u e
  · by_cases q : a = p
    · subst q
      rw [updL_same] at e; cases e
      exact ⟨h1, h2, o', upd_same, r⟩
    · rw [updL_ne q] at e
      obtain ⟨g1, g2, u, g3, g4⟩ := A.led a n e
      exact ⟨g1, g2, u, by rw [upd_ne q]; exact g3, g4⟩
/-- less is told -/
theorem Ab.sub {L2 : Led} (A : Ab k I L F H) (s : Sub L2 L) : Ab k I L2 F H := ⟨A.imm, A.frm, fun a m e => A.led a m (s a m e), A.sep⟩
/-- a list of the ledger stays for ever from now on -/
theorem Ab.freeze {ds : List DV} (A : Ab k I L F H) (h : L p = some (.lst ds)) : ∃ I', Ex I I' ∧ Ab k I' (delL L p) F H ∧ Rp k.K I' (.lst ds) (.ref p) := by
  obtain ⟨h1, h2, o, h3, h4⟩ := A.led p _ h
  cases h4 with
  | @lst _ vs r =>
    have e0 : Ex I (upd I p (.lst vs)) := Ex.new h1
    refine ⟨upd I p (.lst vs), e0, ⟨fun a u e => ?_, A.frm, fun a n e => ?_, fun a u e => ?_⟩, .lst upd_same (r.mono e0)⟩
    · by_cases q : a = p
      · subst q; rw [upd_same] at e; cases e; exact h3
      · rw [upd_ne q] at e; exact A.imm a u e
    · unfold delL at e
      by_cases q : a = p
      · rw [if_pos q] at e; cases e
      · rw [if_neg q] at e
        obtain ⟨g1, g2, u, g3, g4⟩ := A.led a n e
        exact ⟨by rw [upd_ne q]; exact g1, g2, u, g3, g4.mono e0⟩
    · have q : a ≠ p := by intro z; subst z; rw [h2] at e; cases e
      rw [upd_ne q]; exact A.sep a u e
theorem Ab.hold {o : HO} (A : Ab k I L F H) (h1 : I p = none) (h2 : F p = none) (h3 : H p = some o) : Ab k (upd I p o) (delL L p) F H := by
  have e0 : Ex I (upd I p o) := Ex.new h1
  refine ⟨fun a u e => ?_, A.frm, fun a n e => ?_, fun a u e => ?_⟩
  · by_cases q : a = p
    · subst q; rw [upd_same] at e; cases e; exact h3
    · rw [upd_ne q] at e; exact A.imm a u e
  · unfold delL at e
    by_cases q : a = p
    · rw [if_pos q] at e; cases e
    · rw [if_neg q] at e
      obtain ⟨g1, g2, u, g3, g4⟩ := A.led a n e
      exact ⟨by rw [upd_ne q]; exact g1, g2, u, g3, g4.mono e0⟩
  · have q : a ≠ p := by intro z; subst z; rw [h2] at e; cases e
    rw [upd_ne q]; exact A.sep a u e
/-- an instance of the ledger stays for ever from now on -/
theorem Ab.freezeI {C dx : Addr} {ks : List Str} {ds : List DV} (A : Ab k I L F H) (h : L p = some (.ins C dx ks ds)) : ∃ I', Ex I I' ∧ Ab k I' (delL L p) F H ∧ Rp k.K I' (.ins C ks ds) (.ref p) := by
  obtain ⟨h1, h2, o, h3, h4⟩ := A.led p _ h
  cases h4 with
  | ins e c r => exact ⟨_, Ex.new h1, A.hold h1 h2 h3, .ins upd_same e c (r.mono (Ex.new h1))⟩
/-- a hidden list comes to light -/
theorem Ab.unhide {vs : List V} {ds : List DV} (A : Ab k I L (upd F p (.lst vs)) H) (hF : F p = none) (r : Rps k.K I ds vs) : Ab k I (updL L p (.lst ds)) F H := by
  have hp : (upd F p (.lst vs)) p = some (.lst vs) := upd_same
  refine ⟨A.imm, fun a u e => A.frm a u (Ex.new hF a u e), fun a n e => ?_, fun a u e => A.sep a u (Ex.new hF a u e)⟩
  by_cases q : a = p
  · subst q
    rw [updL_same] at e; cases e
    exact ⟨A.sep _ _ hp, hF, .lst vs, A.frm _ _ hp, .lst r⟩
  · rw [updL_ne q] at e
    obtain ⟨g1, g2, u, g3, g4⟩ := A.led a n e
    rw [upd_ne q] at g2
    exact ⟨g1, g2, u, g3, g4⟩
end
end AL
namespace AL
open PySem PySem.Spec PyProof.Rows L2

abbrev Sl := List (Option DV)
abbrev PD := DV → Led → Prop
/-- what is wanted of an exception of a class of the program's own -/
abbrev PX := Addr → Sl → Led → Prop
abbrev AE := Sl → Led → PD → PX → Prop
abbrev AT := Sl → Led → (Bool → Led → Prop) → PX → Prop
abbrev AA := Sl → Led → (List DV → Led → Prop) → PX → Prop
structure AEnds where
  nx : Sl → Led → Prop
  rt : PD
  bk : Sl → Led → Prop
  ct : Sl → Led → Prop
  px : PX
abbrev AS := AEnds → Sl → Led → Prop

/-- the slots -/
def RpS (K : PySem.W.Frag) (I : Hp) (ρ : Sl) (σ : L2.St) : Prop := ρ.length = σ.length ∧ ∀ (i : Nat) (d : DV), ρ[i]? = some (some d) → ∃ v, σ[i]? = some (some v) ∧ Rp K I d v
theorem RpS.mono {K : PySem.W.Frag} {I I' : Hp} {ρ : Sl} {σ : L2.St} (e : Ex I I') (h : RpS K I ρ σ) : RpS K I' ρ σ :=
  ⟨h.1, fun i d q => let ⟨v, a, b⟩ := h.2 i d q; ⟨v, a, b.mono e⟩⟩
theorem RpS.set {K : PySem.W.Frag} {I : Hp} {ρ : Sl} {σ : L2.St} {d : DV} {v : V} (h : RpS K I ρ σ) (r : Rp K I d v) (i : Nat) : RpS K I (ρ.set i (some d)) (σ.set i (some v)) := by
  refine ⟨by rw [List.length_set, List.length_set]; exact h.1, fun j e q => ?_⟩
  by_cases hj : j = i
  · subst hj
    by_cases hl : j < ρ.length
    · rw [List.getElem?_set_self hl] at q
      cases q
      exact ⟨v, List.getElem?_set_self (by rw [← h.1]; exact hl), r⟩
    · rw [List.getElem?_eq_none (by rw [List.length_set]; omega)] at q; cases q
  · rw [List.getElem?_set_ne (Ne.symm hj)] at q
    rw [List.getElem?_set_ne (Ne.symm hj)]
    exact h.2 j e q
theorem RpS.setNone {K : PySem.W.Frag} {I : Hp} {ρ : Sl} {σ : L2.St} {w : Option V} (h : RpS K I ρ σ) (i : Nat) : RpS K I (ρ.set i none) (σ.set i w) := by
  refine ⟨by rw [List.length_set, List.length_set]; exact h.1, fun j e q => ?_⟩
  by_cases hj : j = i
  · subst hj
    by_cases hl : j < ρ.length
    · rw [List.getElem?_set_self hl] at q; cases q
    · rw [List.getElem?_eq_none (by rw [List.length_set]; omega)] at q; cases q
  · rw [List.getElem?_set_ne (Ne.symm hj)] at q
    rw [List.getElem?_set_ne (Ne.symm hj)]
    exact h.2 j e q
/-- the slot i made to hold other data for the same value -/
theorem RpS.re {K : PySem.W.Frag} {I : Hp} {ρ : Sl} {σ : L2.St} {d d' : DV} {i : Nat} (h : RpS K I ρ σ) (q : ρ[i]? = some (some d)) (r : ∀ v, Rp K I d v → Rp K I d' v) : RpS K I (ρ.set i (some d')) σ := by
  obtain ⟨v, e, x⟩ := h.2 i d q
  have := h.set (r v x) i
  have es : σ.set i (some v) = σ := by
    apply List.ext_getElem?
    intro j
    by_cases hj : j = i
    · subst hj
      rw [List.getElem?_set_self ((List.getElem?_eq_some_iff.mp e).1), e]
    · rw [List.getElem?_set_ne (Ne.symm hj)]
  rw [es] at this
  exact this

def Q2 (k : Kx) (I F : Hp) (P : PD) (Q : VK) : Prop := ∀ d L' v I' H', P d L' → Ab k I' L' F H' → Ex I I' → Rp k.K I' d v → Q v H'
def Q2b (k : Kx) (I F : Hp) (P : Bool → Led → Prop) (Q : Bool → Hp → Prop) : Prop := ∀ b L' I' H', P b L' → Ab k I' L' F H' → Ex I I' → Q b H'
def Q2a (k : Kx) (I F : Hp) (P : List DV → Led → Prop) (Q : List V → Hp → Prop) : Prop := ∀ ds L' vs I' H', P ds L' → Ab k I' L' F H' → Ex I I' → Rps k.K I' ds vs → Q vs H'
def X2 (k : Kx) (I F : Hp) (px : PX) (W : WX) : Prop := ∀ c ρ' σ' L' I' H', px c ρ' L' → Ab k I' L' F H' → Ex I I' → RpS k.K I' ρ' σ' → W (.ref c) none σ' H'
def S2 (k : Kx) (I F : Hp) (P : Sl → Led → Prop) (Q : L2.St → Hp → Prop) : Prop := ∀ ρ' L' σ' I' H', P ρ' L' → Ab k I' L' F H' → Ex I I' → RpS k.K I' ρ' σ' → Q σ' H'
theorem Q2.mono {k : Kx} {I I' F : Hp} {P : PD} {Q : VK} (h : Q2 k I F P Q) (e : Ex I I') : Q2 k I' F P Q := fun d L v J H p a x r => h d L v J H p a (e.trans x) r
theorem Q2b.mono {k : Kx} {I I' F : Hp} {P Q} (h : Q2b k I F P Q) (e : Ex I I') : Q2b k I' F P Q := fun d L J H p a x => h d L J H p a (e.trans x)
theorem Q2a.mono {k : Kx} {I I' F : Hp} {P Q} (h : Q2a k I F P Q) (e : Ex I I') : Q2a k I' F P Q := fun d L v J H p a x r => h d L v J H p a (e.trans x) r
theorem X2.mono {k : Kx} {I I' F : Hp} {px W} (h : X2 k I F px W) (e : Ex I I') : X2 k I' F px W := fun c ρ σ L J H p a x r => h c ρ σ L J H p a (e.trans x) r
theorem S2.mono {k : Kx} {I I' F : Hp} {P Q} (h : S2 k I F P Q) (e : Ex I I') : S2 k I' F P Q := fun ρ L σ J H p a x r => h ρ L σ J H p a (e.trans x) r
structure D2 (k : Kx) (I F : Hp) (AD : AEnds) (D : Ends) : Prop where
  nx : S2 k I F AD.nx D.nx
  rt : Q2 k I F AD.rt D.rt
  bk : S2 k I F AD.bk D.bk
  ct : S2 k I F AD.ct D.ct
theorem D2.mono {k : Kx} {I I' F : Hp} {AD D} (h : D2 k I F AD D) (e : Ex I I') : D2 k I' F AD D := ⟨h.nx.mono e, h.rt.mono e, h.bk.mono e, h.ct.mono e⟩

structure Stt (k : Kx) (W : WX) (σ : L2.St) (H I : Hp) (L : Led) (F : Hp) (ρ : Sl) (px : PX) : Prop where
  ab : Ab k I L F H
  rs : RpS k.K I ρ σ
  xx : X2 k I F px W
theorem Stt.go {k : Kx} {W : WX} {σ : L2.St} {H I : Hp} {L : Led} {F : Hp} {ρ : Sl} {px : PX} {H' I' : Hp} {L' : Led} (S : Stt k W σ H I L F ρ px) (A : Ab k I' L' F H') (e : Ex I I') : Stt k W σ H' I' L' F ρ px :=
  ⟨A, S.rs.mono e, S.xx.mono e⟩
theorem Stt.go2 {k : Kx} {W : WX} {σ : L2.St} {H I : Hp} {L : Led} {F : Hp} {ρ : Sl} {px : PX} {H' I' : Hp} {L' : Led} {σ' : L2.St} {ρ' : Sl} (S : Stt k W σ H I L F ρ px) (A : Ab k I' L' F H') (e : Ex I I') (r : RpS k.K I' ρ' σ') : Stt k W σ' H' I' L' F ρ' px :=
  ⟨A, r, S.xx.mono e⟩

def cE (k : Kx) (W : WX) (t : AE) : TE := fun σ H Q => ∃ I L F ρ P px, Stt k W σ H I L F ρ px ∧ t ρ L P px ∧ Q2 k I F P Q
def cT (k : Kx) (W : WX) (t : AT) : TT := fun σ H Q => ∃ I L F ρ P px, Stt k W σ H I L F ρ px ∧ t ρ L P px ∧ Q2b k I F P Q
def cA (k : Kx) (W : WX) (t : AA) : TA := fun σ H Q => ∃ I L F ρ P px, Stt k W σ H I L F ρ px ∧ t ρ L P px ∧ Q2a k I F P Q
def cS (k : Kx) (W : WX) (t : AS) : TS := fun D σ H => ∃ I L F ρ AD, Stt k W σ H I L F ρ AD.px ∧ t AD ρ L ∧ D2 k I F AD D

section
variable {X : Cx} {e : Expr} {es : List Expr} {st : Stmt} {sts : List Stmt}
theorem _root_.L2.PE.imp {t t' : TE} (h : PE X e t) (i : ∀ σ H Q, t' σ H Q → t σ H Q) : PE X e t' := ⟨fun pins s σ H Q I q => h.run pins s σ H Q I (i _ _ _ q)⟩
theorem _root_.L2.PT.imp {t t' : TT} (h : PT X e t) (i : ∀ σ H Q, t' σ H Q → t σ H Q) : PT X e t' := ⟨fun pins s σ H Q I q => h.run pins s σ H Q I (i _ _ _ q)⟩
theorem _root_.L2.PW.imp {t t' : TT} (h : PW X e t) (i : ∀ σ H Q, t' σ H Q → t σ H Q) : PW X e t' := ⟨fun w pins s σ H Q I q => h.run w pins s σ H Q I (i _ _ _ q)⟩
theorem _root_.L2.PA.imp {t t' : TA} (h : PA X es t) (i : ∀ σ H Q, t' σ H Q → t σ H Q) : PA X es t' := ⟨fun p pins s σ H Q I q => h.run p pins s σ H Q I (i _ _ _ q)⟩
theorem _root_.L2.PS.imp {t t' : TS} (h : PS X st t) (i : ∀ D σ H, t' D σ H → t D σ H) : PS X st t' := ⟨fun pins s σ H D I q => h.run pins s σ H D I (i _ _ _ q)⟩
theorem _root_.L2.PSs.imp {t t' : TS} (h : PSs X sts t) (i : ∀ D σ H, t' D σ H → t D σ H) : PSs X sts t' := ⟨fun pins s σ H D I q => h.run pins s σ H D I (i _ _ _ q)⟩
theorem _root_.L2.PT.or {t t' : TT} (h : PT X e t) (h' : PT X e t') : PT X e (fun σ H Q => t σ H Q ∨ t' σ H Q) := ⟨fun pins s σ H Q I q => q.elim (h.run pins s σ H Q I) (h'.run pins s σ H Q I)⟩
theorem _root_.L2.PE.or {t t' : TE} (h : PE X e t) (h' : PE X e t') : PE X e (fun σ H Q => t σ H Q ∨ t' σ H Q) := ⟨fun pins s σ H Q I q => q.elim (h.run pins s σ H Q I) (h'.run pins s σ H Q I)⟩
theorem _root_.L2.PI.imp {tg : Expr} {t t' : TI} (h : PI X tg e t) (i : ∀ σ H Q, t' σ H Q → t σ H Q) : PI X tg e t' := ⟨fun pins s σ H Q I q => h.run pins s σ H Q I (i _ _ _ q)⟩
theorem _root_.L2.PI.or {tg : Expr} {t t' : TI} (h : PI X tg e t) (h' : PI X tg e t') : PI X tg e (fun σ H Q => t σ H Q ∨ t' σ H Q) := ⟨fun pins s σ H Q I q => q.elim (h.run pins s σ H Q I) (h'.run pins s σ H Q I)⟩
end

/-! ### names, constants -/
def aVar (i : Nat) : AE := fun ρ L P _ => match ρ[i]? with
  | some (some d) => P d L
  | _ => False
def aC (d : DV) : AE := fun _ L P _ => P d L
section
variable {X : Cx} {W : WX} {x : Str} {pos : Pos}
theorem cvar {k : Kx} {i : Nat} (σ : L2.St) (H : Hp) (Q : VK) (h : cE k W (aVar i) σ H Q) : tVar i σ H Q := by
  obtain ⟨I, L, F, ρ, P, px, S, h, q⟩ := h
  unfold aVar at h
  split at h
  · rename_i d e
    obtain ⟨v, e1, r⟩ := S.rs.2 i d e
    exact ⟨v, e1, q d L v I H h S.ab (Ex.refl I) r⟩
  · exact h.elim
/-- the name in slot i -/
theorem av (i : Nat) (hN : X.N[i]? = some x := by rfl) (hv : Vis X.env.scope x := by first | exact Or.inl rfl | exact Or.inr (Or.inl rfl) | exact Or.inr (Or.inr rfl)) (hd : (x == ("__debug__" : Str)) = false := by decide)
    (hcd : (x == ("__classdict__" : Str)) = false := by decide) : PE X (.Name x pos) (cE X.kx W (aVar i)) := (pv i hN hv hd hcd).imp cvar
theorem cconst {k : Kx} {d : DV} {v : V} (r : ∀ I, Rp k.K I d v) (σ : L2.St) (H : Hp) (Q : VK) (h : cE k W (aC d) σ H Q) : tC v σ H Q := by
  obtain ⟨I, L, F, ρ, P, px, S, h, q⟩ := h
  exact q d L v I H h S.ab (Ex.refl I) (r I)
theorem a_int {i j} : PE X (.Constant (.int i) j pos) (cE X.kx W (aC (.int i))) := pe_int.imp (cconst fun _ => .int i)
theorem a_bl {b j} : PE X (.Constant (.bool b) j pos) (cE X.kx W (aC (.bl b))) := pe_bl.imp (cconst fun _ => .bl b)
theorem a_non {j} : PE X (.Constant .none j pos) (cE X.kx W (aC .non)) := pe_non.imp (cconst fun _ => .non)
theorem a_str {y j} : PE X (.Constant (.str y) j pos) (cE X.kx W (aC (.str y))) := pe_str.imp (cconst fun _ => .str y)
/-- a module's constant, class, def; a built-in as a value -/
theorem a_glob {d : DV} {v : V} {u : Value} (hg : Gl X x) (hm : X.mg x = some u) (r : RelV v u) (rd : ∀ I, Rp X.K I d v) (hd : (x == ("__debug__" : Str)) = false := by decide) : PE X (.Name x pos) (cE X.kx W (aC d)) := (pe_glob hg hm r hd).imp (cconst (k := X.kx) rd)
theorem a_bltn {n : String} (hg : Gl X x) (hm : X.mg x = none) (hv : bootBuiltins x = some (.type n)) (hn : x ≠ "__name__" := by decide) (hd : (x == ("__debug__" : Str)) = false := by decide) : PE X (.Name x pos) (cE X.kx W (aC (.ty n))) :=
  (pe_bltn (v := .ty n) hg hm hv rfl hn hd).imp (cconst fun _ => .ty n)
end

/-! ### two-place operations by values -/
abbrev AR2 := DV → DV → Led → PD → Prop
def AOp (k : Kx) (r : R2) (ro : AR2) : Prop := ∀ {I F H : Hp} {L : Led} {x y : DV} {xv yv : V} {P : PD} {Q : VK}, Ab k I L F H → Rp k.K I x xv → Rp k.K I y yv → ro x y L P → Q2 k I F P Q → r xv yv H Q
def aBin (ro : AR2) (ta tb : AE) : AE := fun ρ L P px => ta ρ L (fun x L1 => tb ρ L1 (fun y L2 => ro x y L2 P) px) px
section
variable {k : Kx} {W : WX} {r : R2} {ro : AR2} {ta tb : AE}
theorem cbin (hr : AOp k r ro) (σ : L2.St) (H : Hp) (Q : VK) (h : cE k W (aBin ro ta tb) σ H Q) : tOp r (cE k W ta) (cE k W tb) σ H Q := by
  obtain ⟨I, L, F, ρ, P, px, S, h, q⟩ := h
  exact ⟨I, L, F, ρ, _, px, S, h, fun x L1 xv I1 H1 h1 A1 e1 r1 => ⟨I1, L1, F, ρ, _, px, S.go A1 e1, h1, fun y L2 yv I2 H2 h2 A2 e2 r2 => hr A2 (r1.mono e2) r2 h2 (q.mono (e1.trans e2))⟩⟩
theorem AOp.or {r r' : R2} {ro ro' : AR2} (h : AOp k r ro) (h' : AOp k r' ro') : AOp k (fun x y H Q => r x y H Q ∨ r' x y H Q) (fun x y L P => ro x y L P ∨ ro' x y L P) :=
  fun A rx ry o q => o.elim (fun z => .inl (h A rx ry z q)) fun z => .inr (h' A rx ry z q)
end
section
variable {X : Cx} {W : WX} {a b c : Expr} {ta tb tc : AE} {pos : Pos} {r r' : R2} {ro ro' : AR2}
theorem a_bin {op : Operator} (ho : OpR X (binaryOp op) r) (hr : AOp X.kx r ro) (ha : PE X a (cE X.kx W ta)) (hb : PE X b (cE X.kx W tb)) : PE X (.BinOp a op b pos) (cE X.kx W (aBin ro ta tb)) := (pe_op ho ha hb).imp (cbin hr)
theorem a_ix (ho : IxR X r) (hr : AOp X.kx r ro) (ha : PE X a (cE X.kx W ta)) (hb : PE X b (cE X.kx W tb)) (hs : PlainIx b := by intro _ _; rfl) : PE X (.Subscript a b pos) (cE X.kx W (aBin ro ta tb)) := (pe_ix ho ha hb hs).imp (cbin hr)
theorem a_cmp {op : CmpOp} (ho : OpR X (compareOp op) r) (hr : AOp X.kx r ro) (ha : PE X a (cE X.kx W ta)) (hb : PE X b (cE X.kx W tb)) (hm : behindInMarks op b = false := by first | exact nomark _ | rfl) : PE X (.Compare a [op] [b] pos) (cE X.kx W (aBin ro ta tb)) := (pe_cmpR ho ha hb hm).imp (cbin hr)
/-- a test whose value is a bool -/
def aTest (te : AE) : AT := fun ρ L P px => te ρ L (fun d L' => match d with
  | .bl b => P b L'
  | _ => False) px
theorem ctest {k : Kx} {t : TE} {te : AE} (h : ∀ σ H Q, cE k W te σ H Q → t σ H Q) (σ : L2.St) (H : Hp) (Q : Bool → Hp → Prop) (q : cT k W (aTest te) σ H Q) : tTest t σ H Q := by
  obtain ⟨I, L, F, ρ, P, px, S, q, z⟩ := q
  refine h _ _ _ ⟨I, L, F, ρ, _, px, S, q, fun d L1 v I1 H1 h1 A1 e1 r1 => ?_⟩
  cases d <;> first | exact h1.elim | skip
  cases r1
  exact ⟨_, rfl, z _ L1 I1 H1 h1 A1 e1⟩
theorem t_cmp {op : CmpOp} (ho : OpR X (compareOp op) r) (hr : AOp X.kx r ro) (ha : PE X a (cE X.kx W ta)) (hb : PE X b (cE X.kx W tb)) (hm : behindInMarks op b = false := by first | exact nomark _ | rfl) : PT X (.Compare a [op] [b] pos) (cT X.kx W (aTest (aBin ro ta tb))) := (pt_cmpR ho ha hb hm).imp (ctest (cbin hr))
theorem t_val {e : Expr} {te : AE} (h : PE X e (cE X.kx W te)) (he : ∀ whole, isTrue e X.env whole = (do let v ← whole; standAt e.pos; holding [v] (truthy v)) := by intro _; rfl) : PT X e (cT X.kx W (aTest te)) :=
  (pt_val h he).imp (ctest fun _ _ _ z => z)
/-- a op b op' c -/
def aChain (ro ro' : AR2) (ta tb tc : AE) : AE := fun ρ L P px => ta ρ L (fun x L1 => tb ρ L1 (fun y L2 => ro x y L2 (fun z L3 => match z with
  | .bl b => (b = true → tc ρ L3 (fun w L4 => ro' y w L4 P) px) ∧ (b = false → P (.bl false) L3)
  | _ => False)) px) px
theorem cchain {k : Kx} (hr : AOp k r ro) (hr' : AOp k r' ro') (σ : L2.St) (H : Hp) (Q : VK) (h : cE k W (aChain ro ro' ta tb tc) σ H Q) : tChain r r' (cE k W ta) (cE k W tb) (cE k W tc) σ H Q := by
  obtain ⟨I, L, F, ρ, P, px, S, h, q⟩ := h
  refine ⟨I, L, F, ρ, _, px, S, h, fun x L1 xv I1 H1 h1 A1 e1 r1 => ⟨I1, L1, F, ρ, _, px, S.go A1 e1, h1, fun y L2 yv I2 H2 h2 A2 e2 r2 => hr A2 (r1.mono e2) r2 h2 fun z L3 zv I3 H3 h3 A3 e3 r3 => ?_⟩⟩
  cases z <;> first | exact h3.elim | skip
  rename_i b
  cases r3
  have e03 := (e1.trans e2).trans e3
  cases b with
  | true => exact ⟨true, rfl, ⟨I3, L3, F, ρ, _, px, S.go A3 e03, h3.1 rfl, fun w L4 wv I4 H4 h4 A4 e4 r4 => hr' A4 (r2.mono (e3.trans e4)) r4 h4 (q.mono (e03.trans e4))⟩⟩
  | false => exact ⟨false, rfl, q _ _ _ _ _ (h3.2 rfl) A3 e03 (.bl false)⟩
theorem a_chain {op op' : CmpOp} (ho : OpR X (compareOp op) r) (ho' : OpR X (compareOp op') r') (hr : AOp X.kx r ro) (hr' : AOp X.kx r' ro') (ha : PE X a (cE X.kx W ta)) (hb : PE X b (cE X.kx W tb)) (hc : PE X c (cE X.kx W tc)) (hm : lastMarks [op, op'] [b, c] = false := by rfl) : PE X (.Compare a [op, op'] [b, c] pos) (cE X.kx W (aChain ro ro' ta tb tc)) :=
  (pe_chain ho ho' ha hb hc hm).imp (cchain hr hr')
theorem t_chain {op op' : CmpOp} (ho : OpR X (compareOp op) r) (ho' : OpR X (compareOp op') r') (hr : AOp X.kx r ro) (hr' : AOp X.kx r' ro') (ha : PE X a (cE X.kx W ta)) (hb : PE X b (cE X.kx W tb)) (hc : PE X c (cE X.kx W tc)) (hm : lastMarks [op, op'] [b, c] = false := by rfl) : PT X (.Compare a [op, op'] [b, c] pos) (cT X.kx W (aTest (aChain ro ro' ta tb tc))) :=
  (pt_chain ho ho' ha hb hc hm).imp (ctest (cchain hr hr'))
end

/-! ### and, or, not; conditional expressions -/
def aAnd (t u : AT) : AT := fun ρ L P px => t ρ L (fun c L1 => (c = true → u ρ L1 P px) ∧ (c = false → P false L1)) px
def aOr (t u : AT) : AT := fun ρ L P px => t ρ L (fun c L1 => (c = true → P true L1) ∧ (c = false → u ρ L1 P px)) px
def aNot (t : AT) : AT := fun ρ L P px => t ρ L (fun c L1 => P (!c) L1) px
def aIfE (t : AT) (ta tb : AE) : AE := fun ρ L P px => t ρ L (fun c L1 => (c = true → ta ρ L1 P px) ∧ (c = false → tb ρ L1 P px)) px
/-- .. of bools as values -/
def aAndV (ta tb : AE) : AE := fun ρ L P px => ta ρ L (fun d L1 => match d with
  | .bl c => (c = true → tb ρ L1 P px) ∧ (c = false → P (.bl false) L1)
  | _ => False) px
def aOrV (ta tb : AE) : AE := fun ρ L P px => ta ρ L (fun d L1 => match d with
  | .bl c => (c = true → P (.bl true) L1) ∧ (c = false → tb ρ L1 P px)
  | _ => False) px
def aNotV (t : AT) : AE := fun ρ L P px => t ρ L (fun c L1 => P (.bl (!c)) L1) px
section
variable {X : Cx} {W : WX} {a b c : Expr} {t u : AT} {ta tb : AE} {pos : Pos} {rest : List Expr}
theorem w_and1 (ha : PT X a (cT X.kx W t)) : PW X (.BoolOp .And [a] pos) (cT X.kx W t) := pw_and1 ha
theorem w_or1 (ha : PT X a (cT X.kx W t)) : PW X (.BoolOp .Or [a] pos) (cT X.kx W t) := pw_or1 ha
theorem w_and (ha : PT X a (cT X.kx W t)) (hb : PW X (.BoolOp .And (b :: rest) pos) (cT X.kx W u)) : PW X (.BoolOp .And (a :: b :: rest) pos) (cT X.kx W (aAnd t u)) :=
  (pw_and ha hb).imp fun σ H Q ⟨I, L, F, ρ, P, px, S, h, q⟩ => ⟨I, L, F, ρ, _, px, S, h, fun c L1 I1 H1 h1 A1 e1 => by
    cases c with
    | true => exact iteT ⟨I1, L1, F, ρ, _, px, S.go A1 e1, h1.1 rfl, q.mono e1⟩
    | false => exact iteF (q _ _ _ _ (h1.2 rfl) A1 e1)⟩
theorem w_or (ha : PT X a (cT X.kx W t)) (hb : PW X (.BoolOp .Or (b :: rest) pos) (cT X.kx W u)) : PW X (.BoolOp .Or (a :: b :: rest) pos) (cT X.kx W (aOr t u)) :=
  (pw_or ha hb).imp fun σ H Q ⟨I, L, F, ρ, P, px, S, h, q⟩ => ⟨I, L, F, ρ, _, px, S, h, fun c L1 I1 H1 h1 A1 e1 => by
    cases c with
    | true => exact iteT (q _ _ _ _ (h1.1 rfl) A1 e1)
    | false => exact iteF ⟨I1, L1, F, ρ, _, px, S.go A1 e1, h1.2 rfl, q.mono e1⟩⟩
theorem t_not (ha : PT X a (cT X.kx W t)) : PT X (.UnaryOp .Not a pos) (cT X.kx W (aNot t)) :=
  (pt_not ha).imp fun σ H Q ⟨I, L, F, ρ, P, px, S, h, q⟩ => ⟨I, L, F, ρ, _, px, S, h, fun c L1 I1 H1 h1 A1 e1 => q _ _ _ _ h1 A1 e1⟩
theorem a_ifE (hc : PT X c (cT X.kx W t)) (ha : PE X a (cE X.kx W ta)) (hb : PE X b (cE X.kx W tb)) : PE X (.IfExp c a b pos) (cE X.kx W (aIfE t ta tb)) :=
  (pe_ifExp hc ha hb).imp fun σ H Q ⟨I, L, F, ρ, P, px, S, h, q⟩ => ⟨I, L, F, ρ, _, px, S, h, fun c L1 I1 H1 h1 A1 e1 => by
    cases c with
    | true => exact iteT ⟨I1, L1, F, ρ, _, px, S.go A1 e1, h1.1 rfl, q.mono e1⟩
    | false => exact iteF ⟨I1, L1, F, ρ, _, px, S.go A1 e1, h1.2 rfl, q.mono e1⟩⟩
theorem a_one {op} (h : PE X a (cE X.kx W ta)) : PE X (.BoolOp op [a] pos) (cE X.kx W ta) := pe_one h
theorem a_and (ha : PE X a (cE X.kx W ta)) (hb : PE X (.BoolOp .And (b :: rest) pos) (cE X.kx W tb)) : PE X (.BoolOp .And (a :: b :: rest) pos) (cE X.kx W (aAndV ta tb)) :=
  (pe_and ha hb).imp fun σ H Q ⟨I, L, F, ρ, P, px, S, h, q⟩ => ⟨I, L, F, ρ, _, px, S, h, fun d L1 v I1 H1 h1 A1 e1 r1 => by
    cases d <;> first | exact h1.elim | skip
    rename_i c
    cases r1
    refine ⟨c, rfl, ?_⟩
    cases c with
    | true => exact iteT ⟨I1, L1, F, ρ, _, px, S.go A1 e1, h1.1 rfl, q.mono e1⟩
    | false => exact iteF (q _ _ _ _ _ (h1.2 rfl) A1 e1 (.bl false))⟩
theorem a_or (ha : PE X a (cE X.kx W ta)) (hb : PE X (.BoolOp .Or (b :: rest) pos) (cE X.kx W tb)) : PE X (.BoolOp .Or (a :: b :: rest) pos) (cE X.kx W (aOrV ta tb)) :=
  (pe_or ha hb).imp fun σ H Q ⟨I, L, F, ρ, P, px, S, h, q⟩ => ⟨I, L, F, ρ, _, px, S, h, fun d L1 v I1 H1 h1 A1 e1 r1 => by
    cases d <;> first | exact h1.elim | skip
    rename_i c
    cases r1
    refine ⟨c, rfl, ?_⟩
    cases c with
    | true => exact iteT (q _ _ _ _ _ (h1.1 rfl) A1 e1 (.bl true))
    | false => exact iteF ⟨I1, L1, F, ρ, _, px, S.go A1 e1, h1.2 rfl, q.mono e1⟩⟩
end
end AL
namespace AL
open PySem PySem.Spec PyProof.Rows L2

/-! ### lists as they are met: data, or of the ledger -/
def withL (L : Led) (x : DV) (q : List DV → Prop) : Prop := match x with
  | .lst xs => q xs
  | .ref a => ∃ ds, L a = some (.lst ds) ∧ q ds
  | _ => False
/-- list or tuple -/
def withSq (L : Led) (x : DV) (q : List DV → Prop) : Prop := match x with
  | .lst xs => q xs
  | .tup xs => q xs
  | .wl xs => q xs
  | .ref a => ∃ ds, L a = some (.lst ds) ∧ q ds
  | _ => False
/-- a new list: one that may change, or (what is the weaker word) data -/
def newL (ds : List DV) (L : Led) (P : PD) : Prop := (∀ a, L a = none → P (.ref a) (updL L a (.lst ds))) ∨ P (.lst ds) L
section
variable {k : Kx} {I F H : Hp} {L : Led} {x : DV} {xv : V} {P : PD} {Q : VK}
theorem withL_ok {q : List DV → Prop} (A : Ab k I L F H) (r : Rp k.K I x xv) (h : withL L x q) : ∃ a vs ds, xv = .ref a ∧ H a = some (.lst vs) ∧ Rps k.K I ds vs ∧ q ds := by
  cases r <;> try exact h.elim
  case ref a =>
    obtain ⟨ds, e, h⟩ := h
    obtain ⟨_, _, o, e2, r2⟩ := A.led a _ e
    cases r2 with
    | lst r => exact ⟨a, _, ds, rfl, e2, r, h⟩
  case lst a vs ds e r => exact ⟨a, vs, ds, rfl, A.imm _ _ e, r, h⟩
theorem withSq_ok {q : List DV → Prop} (A : Ab k I L F H) (r : Rp k.K I x xv) (h : withSq L x q) : ∃ a vs ds, xv = .ref a ∧ (SqL k.K H a vs ∨ SqT k.K H a vs) ∧ Rps k.K I ds vs ∧ q ds := by
  cases r <;> try exact h.elim
  case ref a =>
    obtain ⟨ds, e, h⟩ := h
    obtain ⟨_, _, o, e2, r2⟩ := A.led a _ e
    cases r2 with
    | lst r => exact ⟨a, _, ds, rfl, .inl (SqL.of e2), r, h⟩
  case lst a vs ds e r => exact ⟨a, vs, ds, rfl, .inl (SqL.of (A.imm _ _ e)), r, h⟩
  case wl a vs ds e r => exact ⟨a, vs, ds, rfl, .inl (A.imm.l e), r, h⟩
  case tup a vs ds e r => exact ⟨a, vs, ds, rfl, .inr (A.imm.t e), r, h⟩
theorem newL_ok {ds : List DV} {vs : List V} (A : Ab k I L F H) (r : Rps k.K I ds vs) (h : newL ds L P) (q : Q2 k I F P Q) : ∀ p, H p = none → Q (.ref p) (upd H p (.lst vs)) := fun p hp => by
  rcases h with h | h
  · exact q _ _ _ _ _ (h p (A.freeL hp)) (A.newL hp (.lst r)) (Ex.refl I) (.ref p)
  · exact q _ _ _ _ _ h (A.newI hp) (Ex.new (A.freeI hp)) (.lst upd_same (r.mono (Ex.new (A.freeI hp))))
theorem newT_ok {ds : List DV} {vs : List V} (A : Ab k I L F H) (r : Rps k.K I ds vs) (h : P (.tup ds) L) (q : Q2 k I F P Q) : ∀ p, H p = none → Q (.ref p) (upd H p (.tup vs)) := fun p hp =>
  q _ _ _ _ _ h (A.newI hp) (Ex.new (A.freeI hp)) (.tup (SqT.of upd_same) (r.mono (Ex.new (A.freeI hp))))
theorem here (A : Ab k I L F H) (r : Rp k.K I x xv) (h : P x L) (q : Q2 k I F P Q) : Q xv H := q _ _ _ _ _ h A (Ex.refl I) r
end

/-! ### arithmetic -/
def oI (C : Int → Int → Prop) (g : Int → Int → DV) : AR2 := fun x y L P => match x, y with
  | .int i, .int j => C i j ∧ P (g i j) L
  | _, _ => False
def oI0 (g : Int → Int → DV) : AR2 := fun x y L P => match x, y with
  | .int i, .int j => P (g i j) L
  | _, _ => False
section
variable {k : Kx}
theorem oI_ok {C : Int → Int → Prop} {g : Int → Int → DV} {g' : Int → Int → V} (hg : ∀ i j I, Rp k.K I (g i j) (g' i j)) : AOp k (rI C g') (oI C g) := by
  intro I F H L x y xv yv P Q A rx ry h q
  cases rx <;> try exact h.elim
  cases ry <;> try exact h.elim
  exact ⟨_, _, rfl, rfl, h.1, here A (hg _ _ _) h.2 q⟩
theorem oI0_ok {g : Int → Int → DV} {g' : Int → Int → V} (hg : ∀ i j I, Rp k.K I (g i j) (g' i j)) : AOp k (rI0 g') (oI0 g) := by
  intro I F H L x y xv yv P Q A rx ry h q
  cases rx <;> try exact h.elim
  cases ry <;> try exact h.elim
  exact ⟨_, _, rfl, rfl, here A (hg _ _ _) h q⟩
end
abbrev oSub : AR2 := oI0 fun i j => .int (i - j)
abbrev oMul : AR2 := oI CMul fun i j => .int (i * j)
abbrev oMod : AR2 := oI (fun _ j => 0 < j) fun i j => .int (i % j)
abbrev oDiv : AR2 := oI CDivW fun i j => .int (i / j)
abbrev oPow : AR2 := oI CPow fun i j => .int (i ^ j.toNat)
abbrev oShl : AR2 := oI CPow fun i j => .int (i * 2 ^ j.toNat)
abbrev oShr : AR2 := oI (fun _ j => 0 ≤ j) fun i j => .int (i / 2 ^ j.toNat)
abbrev oAnd : AR2 := oI0 fun i j => .int (Builtin.bitAnd i j)
abbrev oXor : AR2 := oI0 fun i j => .int (Builtin.bitXor i j)
abbrev oLt : AR2 := oI0 fun i j => .bl (decide (i < j))
abbrev oLe : AR2 := oI0 fun i j => .bl (decide (i ≤ j))
abbrev oGt : AR2 := oI0 fun i j => .bl (decide (j < i))
abbrev oGe : AR2 := oI0 fun i j => .bl (decide (j ≤ i))
/-- + of ints, texts, tuples, lists -/
def oAdd : AR2 := fun x y L P => match x, y with
  | .int i, .int j => P (.int (i + j)) L
  | .str a, .str b => a.length + b.length ≤ sizeLine ∧ P (.str (a ++ b)) L
  | .tup a, .tup b => a.length + b.length ≤ sizeLine ∧ P (.tup (a ++ b)) L
  | x, y => withL L x fun a => withL L y fun b => a.length + b.length ≤ sizeLine ∧ newL (a ++ b) L P
abbrev rAdd4 (K : PySem.W.Frag) : R2 := fun x y H Q => rI0 (fun i j => .int (i + j)) x y H Q ∨ (∃ i j, x = .str i ∧ y = .str j ∧ i.length + j.length ≤ sizeLine ∧ Q (.str (i ++ j)) H) ∨ rCatA K x y H Q ∨ rCat x y H Q
theorem opAdd {X : Cx} : OpR X (binaryOp .Add) (rAdd4 X.K) := op_add.or (op_add_str.or (op_catA.or op_cat))
theorem oAdd_ok {k : Kx} : AOp k (rAdd4 k.K) oAdd := by
  intro I F H L x y xv yv P Q A rx ry h q
  unfold oAdd at h
  split at h
  · cases rx; cases ry
    exact .inl ⟨_, _, rfl, rfl, here A (.int _) h q⟩
  · cases rx; cases ry
    exact .inr (.inl ⟨_, _, rfl, rfl, h.1, here A (.str _) h.2 q⟩)
  · cases rx with | tup hx r => ?_
    cases ry with | tup hy s => ?_
    rw [r.length, s.length] at h
    refine .inr (.inr (.inl ⟨_, _, _, _, rfl, rfl, A.imm.t hx, A.imm.t hy, h.1, fun e => ?_, fun e1 e2 => ?_, fun e1 e2 p hp => newT_ok A (r.append s) h.2 q p hp⟩))
    · subst e; cases r
      exact here A (.tup hy s) h.2 q
    · subst e2; cases s
      have h2 := h.2
      rw [List.append_nil] at h2
      exact here A (.tup hx r) h2 q
  · obtain ⟨a, vs, ds, rfl, ha, r, h⟩ := withL_ok A rx h
    obtain ⟨b, us, es, rfl, hb, s, hz, h⟩ := withL_ok A ry h
    rw [r.length, s.length] at hz
    exact .inr (.inr (.inr ⟨_, _, _, _, rfl, rfl, ha, hb, hz, newL_ok A (r.append s) h q⟩))
/-- list * int beside int * int -/
def oMulL : AR2 := fun x y L P => match x, y with
  | .int i, .int j => CMul i j ∧ P (.int (i * j)) L
  | x, .int j => withL L x fun a => -(2 ^ 63) ≤ j ∧ j < 2 ^ 63 ∧ a.length * j.toNat ≤ sizeLine ∧ newL (List.replicate j.toNat a).flatten L P
  | _, _ => False
theorem Rps.rep {K : PySem.W.Frag} {I : Hp} {ds : List DV} {vs : List V} (h : Rps K I ds vs) : ∀ n : Nat, Rps K I (List.replicate n ds).flatten (List.replicate n vs).flatten
  | 0 => .nil
  | n + 1 => by rw [List.replicate_succ, List.replicate_succ, List.flatten_cons, List.flatten_cons]; exact h.append (Rps.rep h n)
theorem oMulL_ok {k : Kx} : AOp k (fun x y H Q => rI CMul (fun i j => .int (i * j)) x y H Q ∨ rRep x y H Q) oMulL := by
  intro I F H L x y xv yv P Q A rx ry h q
  unfold oMulL at h
  split at h
  · cases rx; cases ry
    exact .inl ⟨_, _, rfl, rfl, h.1, here A (.int _) h.2 q⟩
  · cases ry
    obtain ⟨a, vs, ds, rfl, ha, r, h1, h2, hz, h⟩ := withL_ok A rx h
    rw [r.length] at hz
    exact .inr ⟨_, _, _, rfl, rfl, ha, h1, h2, hz, newL_ok A (r.rep _) h q⟩
  · exact h.elim
theorem opMulL {X : Cx} : OpR X (binaryOp .Mult) (fun x y H Q => rI CMul (fun i j => .int (i * j)) x y H Q ∨ rRep x y H Q) := op_mul.or op_rep
section
variable {X : Cx} {W : WX} {a b : Expr} {ta tb : AE} {pos : Pos}
theorem a_add (ha : PE X a (cE X.kx W ta)) (hb : PE X b (cE X.kx W tb)) : PE X (.BinOp a .Add b pos) (cE X.kx W (aBin oAdd ta tb)) := a_bin opAdd oAdd_ok ha hb
theorem a_sub (ha : PE X a (cE X.kx W ta)) (hb : PE X b (cE X.kx W tb)) : PE X (.BinOp a .Sub b pos) (cE X.kx W (aBin oSub ta tb)) := a_bin op_sub (oI0_ok fun _ _ _ => .int _) ha hb
theorem a_mul (ha : PE X a (cE X.kx W ta)) (hb : PE X b (cE X.kx W tb)) : PE X (.BinOp a .Mult b pos) (cE X.kx W (aBin oMulL ta tb)) := a_bin opMulL oMulL_ok ha hb
theorem a_mod (ha : PE X a (cE X.kx W ta)) (hb : PE X b (cE X.kx W tb)) : PE X (.BinOp a .Mod b pos) (cE X.kx W (aBin oMod ta tb)) := a_bin op_mod (oI_ok fun _ _ _ => .int _) ha hb
theorem a_div (ha : PE X a (cE X.kx W ta)) (hb : PE X b (cE X.kx W tb)) : PE X (.BinOp a .FloorDiv b pos) (cE X.kx W (aBin oDiv ta tb)) := a_bin op_fdivW (oI_ok fun _ _ _ => .int _) ha hb
theorem a_pow (ha : PE X a (cE X.kx W ta)) (hb : PE X b (cE X.kx W tb)) : PE X (.BinOp a .Pow b pos) (cE X.kx W (aBin oPow ta tb)) := a_bin op_pow (oI_ok fun _ _ _ => .int _) ha hb
theorem a_shl (ha : PE X a (cE X.kx W ta)) (hb : PE X b (cE X.kx W tb)) : PE X (.BinOp a .LShift b pos) (cE X.kx W (aBin oShl ta tb)) := a_bin op_shl (oI_ok fun _ _ _ => .int _) ha hb
theorem a_shr (ha : PE X a (cE X.kx W ta)) (hb : PE X b (cE X.kx W tb)) : PE X (.BinOp a .RShift b pos) (cE X.kx W (aBin oShr ta tb)) := a_bin op_shr (oI_ok fun _ _ _ => .int _) ha hb
theorem a_band (ha : PE X a (cE X.kx W ta)) (hb : PE X b (cE X.kx W tb)) : PE X (.BinOp a .BitAnd b pos) (cE X.kx W (aBin oAnd ta tb)) := a_bin op_and (oI0_ok fun _ _ _ => .int _) ha hb
theorem a_xor (ha : PE X a (cE X.kx W ta)) (hb : PE X b (cE X.kx W tb)) : PE X (.BinOp a .BitXor b pos) (cE X.kx W (aBin oXor ta tb)) := a_bin op_xor (oI0_ok fun _ _ _ => .int _) ha hb
/-- -a -/
def aNeg (ta : AE) : AE := fun ρ L P px => ta ρ L (fun x L1 => match x with
  | .int i => P (.int (-i)) L1
  | _ => False) px
theorem a_neg (ha : PE X a (cE X.kx W ta)) : PE X (.UnaryOp .USub a pos) (cE X.kx W (aNeg ta)) :=
  (pe_un un_neg ha).imp fun σ H Q ⟨I, L, F, ρ, P, px, S, h, q⟩ => ⟨I, L, F, ρ, _, px, S, h, fun d L1 v I1 H1 h1 A1 e1 r1 => by
    cases r1 <;> try exact h1.elim
    exact ⟨_, rfl, here A1 (.int _) h1 (q.mono e1)⟩⟩
end

/-! ### comparisons -/
def oScal (neg : Bool) : AR2 := fun x y L P => match x, y with
  | .int i, .int j => P (.bl (neg ^^ decide (i = j))) L
  | .str i, .str j => P (.bl (neg ^^ decide (i = j))) L
  | .bl i, .bl j => P (.bl (neg ^^ decide (i = j))) L
  | .non, .non => P (.bl (neg ^^ true)) L
  | .non, .int _ => P (.bl (neg ^^ false)) L
  | .int _, .non => P (.bl (neg ^^ false)) L
  | .non, .str _ => P (.bl (neg ^^ false)) L
  | .str _, .non => P (.bl (neg ^^ false)) L
  | .int _, .str _ => P (.bl (neg ^^ false)) L
  | .str _, .int _ => P (.bl (neg ^^ false)) L
  | _, _ => False
mutual
/-- nested data as the model's == knows them; lists of the ledger as they stand -/
inductive PyOf (L : Led) : DV → PyData → Prop
  | non : PyOf L .non .none
  | bl (b : Bool) : PyOf L (.bl b) (.bool b)
  | int (i : Int) : PyOf L (.int i) (.int i)
  | str (x : Str) : PyOf L (.str x) (.str x)
  | lst {ds : List DV} {ps : List PyData} (h : PyOfs L ds ps) : PyOf L (.lst ds) (.list ps)
  | tup {ds : List DV} {ps : List PyData} (h : PyOfs L ds ps) : PyOf L (.tup ds) (.tuple ps)
  | ref {a : Addr} {ds : List DV} {ps : List PyData} (e : L a = some (.lst ds)) (h : PyOfs L ds ps) : PyOf L (.ref a) (.list ps)
inductive PyOfs (L : Led) : List DV → List PyData → Prop
  | nil : PyOfs L [] []
  | cons {d : DV} {p : PyData} {ds : List DV} {ps : List PyData} (h : PyOf L d p) (r : PyOfs L ds ps) : PyOfs L (d :: ds) (p :: ps)
end
section
variable {k : Kx} {I F H : Hp} {L : Led}
mutual
theorem PyOf.dp (A : Ab k I L F H) : ∀ {d : DV} {p : PyData} {v : V}, PyOf L d p → Rp k.K I d v → Dp k.K H v p
  | _, _, _, .non, r => by cases r; exact .non
  | _, _, _, .bl b, r => by cases r; exact .bl b
  | _, _, _, .int b, r => by cases r; exact .int b
  | _, _, _, .str b, r => by cases r; exact .str b
  | _, _, _, .lst h, r => by
    cases r with
    | lst e r => exact .lst (SqL.of (A.imm _ _ e)) (PyOfs.dp A h r)
  | _, _, _, .tup h, r => by
    cases r with
    | tup e r => exact .tup (A.imm.t e) (PyOfs.dp A h r)
  | _, _, _, .ref e h, r => by
    cases r
    obtain ⟨_, _, o, e2, r2⟩ := A.led _ _ e
    cases r2 with
    | lst r => exact .lst (SqL.of e2) (PyOfs.dp A h r)
theorem PyOfs.dp (A : Ab k I L F H) : ∀ {ds : List DV} {ps : List PyData} {vs : List V}, PyOfs L ds ps → Rps k.K I ds vs → DpAll k.K H vs ps
  | _, _, _, .nil, r => by cases r; exact .nil
  | _, _, _, .cons h t, r => by
    cases r with
    | cons r1 r2 => exact .cons (PyOf.dp A h r1) (PyOfs.dp A t r2)
end
end
/-- == of nested data -/
def oDeep (neg : Bool) : AR2 := fun x y L P => ∃ d e, PyOf L x d ∧ PyOf L y e ∧ SeqAt.shaped d = true ∧ SeqAt.shaped e = true ∧ P (.bl (neg ^^ PyData.eqv d e)) L
def oEqN (neg : Bool) : AR2 := fun x y L P => match x, y with
  | .lst a, y => oDeep neg (.lst a) y L P
  | .tup a, y => oDeep neg (.tup a) y L P
  | .ref a, y => oDeep neg (.ref a) y L P
  | x, .lst a => oDeep neg x (.lst a) L P
  | x, .tup a => oDeep neg x (.tup a) L P
  | x, .ref a => oDeep neg x (.ref a) L P
  | x, y => oScal neg x y L P
abbrev oEq : AR2 := oEqN false
abbrev oNe : AR2 := oEqN true
section
variable {k : Kx}
theorem oScal_ok : AOp k rEq (oScal false) := by
  intro I F H L x y xv yv P Q A rx ry h q
  unfold oScal at h
  split at h <;> first | exact h.elim | (cases rx; cases ry; refine ⟨rfl, ?_⟩; simp only [Bool.false_bne, Bool.false_xor] at h; first | (rw [dec_int, Int.beq_eq_decide_eq] ; exact here A (.bl _) h q) | (rw [dec_str]; refine here A (.bl _) ?_ q; simpa using h) | (rw [dec_bl]; refine here A (.bl _) ?_ q; simpa using h) | (refine here A (.bl _) ?_ q; simpa using h))
theorem oScalN_ok : AOp k rNe (oScal true) := by
  intro I F H L x y xv yv P Q A rx ry h q
  unfold oScal at h
  split at h <;> first | exact h.elim | (cases rx; cases ry; refine ⟨rfl, here A (.bl _) ?_ q⟩; simpa using h)
theorem oDeep_ok : AOp k (rEqD k.K) (oDeep false) := by
  intro I F H L x y xv yv P Q A rx ry h q
  obtain ⟨d, e, hd, he, sd, se, h⟩ := h
  rw [Bool.false_xor] at h
  exact ⟨d, e, hd.dp A rx, he.dp A ry, sd, se, here A (.bl _) h q⟩
theorem oDeepN_ok : AOp k (rNeD k.K) (oDeep true) := by
  intro I F H L x y xv yv P Q A rx ry h q
  obtain ⟨d, e, hd, he, sd, se, h⟩ := h
  rw [Bool.true_xor] at h
  exact ⟨d, e, hd.dp A rx, he.dp A ry, sd, se, here A (.bl _) h q⟩
theorem oEq_ok : AOp k (fun x y H Q => rEq x y H Q ∨ rEqD k.K x y H Q) oEq := by
  intro I F H L x y xv yv P Q A rx ry h q
  unfold oEq oEqN at h
  split at h <;> first | exact .inr (oDeep_ok A rx ry h q) | exact .inl (oScal_ok A rx ry h q)
theorem oNe_ok : AOp k (fun x y H Q => rNe x y H Q ∨ rNeD k.K x y H Q) oNe := by
  intro I F H L x y xv yv P Q A rx ry h q
  unfold oNe oEqN at h
  split at h <;> first | exact .inr (oDeepN_ok A rx ry h q) | exact .inl (oScalN_ok A rx ry h q)
end
section
variable {X : Cx} {W : WX} {a b c : Expr} {ta tb tc : AE} {pos : Pos}
theorem opEq (hu : X.A.units + 64 < cLine) : OpR X (compareOp .Eq) (fun x y H Q => rEq x y H Q ∨ rEqD X.K x y H Q) := op_eq.or (op_eqD hu)
theorem opNe (hu : X.A.units + 64 < cLine) : OpR X (compareOp .NotEq) (fun x y H Q => rNe x y H Q ∨ rNeD X.K x y H Q) := op_ne.or (op_neD hu)
theorem a_eq (hu : X.A.units + 64 < cLine) (ha : PE X a (cE X.kx W ta)) (hb : PE X b (cE X.kx W tb)) : PE X (.Compare a [.Eq] [b] pos) (cE X.kx W (aBin oEq ta tb)) := a_cmp (opEq hu) oEq_ok ha hb
theorem a_ne (hu : X.A.units + 64 < cLine) (ha : PE X a (cE X.kx W ta)) (hb : PE X b (cE X.kx W tb)) : PE X (.Compare a [.NotEq] [b] pos) (cE X.kx W (aBin oNe ta tb)) := a_cmp (opNe hu) oNe_ok ha hb
theorem t_eq (hu : X.A.units + 64 < cLine) (ha : PE X a (cE X.kx W ta)) (hb : PE X b (cE X.kx W tb)) : PT X (.Compare a [.Eq] [b] pos) (cT X.kx W (aTest (aBin oEq ta tb))) := t_cmp (opEq hu) oEq_ok ha hb
theorem t_ne (hu : X.A.units + 64 < cLine) (ha : PE X a (cE X.kx W ta)) (hb : PE X b (cE X.kx W tb)) : PT X (.Compare a [.NotEq] [b] pos) (cT X.kx W (aTest (aBin oNe ta tb))) := t_cmp (opNe hu) oNe_ok ha hb
theorem a_lt (ha : PE X a (cE X.kx W ta)) (hb : PE X b (cE X.kx W tb)) : PE X (.Compare a [.Lt] [b] pos) (cE X.kx W (aBin oLt ta tb)) := a_cmp op_lt (oI0_ok fun _ _ _ => .bl _) ha hb
theorem a_le (ha : PE X a (cE X.kx W ta)) (hb : PE X b (cE X.kx W tb)) : PE X (.Compare a [.LtE] [b] pos) (cE X.kx W (aBin oLe ta tb)) := a_cmp op_le (oI0_ok fun _ _ _ => .bl _) ha hb
theorem a_gt (ha : PE X a (cE X.kx W ta)) (hb : PE X b (cE X.kx W tb)) : PE X (.Compare a [.Gt] [b] pos) (cE X.kx W (aBin oGt ta tb)) := a_cmp op_gt (oI0_ok fun _ _ _ => .bl _) ha hb
theorem a_ge (ha : PE X a (cE X.kx W ta)) (hb : PE X b (cE X.kx W tb)) : PE X (.Compare a [.GtE] [b] pos) (cE X.kx W (aBin oGe ta tb)) := a_cmp op_ge (oI0_ok fun _ _ _ => .bl _) ha hb
theorem t_lt (ha : PE X a (cE X.kx W ta)) (hb : PE X b (cE X.kx W tb)) : PT X (.Compare a [.Lt] [b] pos) (cT X.kx W (aTest (aBin oLt ta tb))) := t_cmp op_lt (oI0_ok fun _ _ _ => .bl _) ha hb
theorem t_le (ha : PE X a (cE X.kx W ta)) (hb : PE X b (cE X.kx W tb)) : PT X (.Compare a [.LtE] [b] pos) (cT X.kx W (aTest (aBin oLe ta tb))) := t_cmp op_le (oI0_ok fun _ _ _ => .bl _) ha hb
theorem t_gt (ha : PE X a (cE X.kx W ta)) (hb : PE X b (cE X.kx W tb)) : PT X (.Compare a [.Gt] [b] pos) (cT X.kx W (aTest (aBin oGt ta tb))) := t_cmp op_gt (oI0_ok fun _ _ _ => .bl _) ha hb
theorem t_ge (ha : PE X a (cE X.kx W ta)) (hb : PE X b (cE X.kx W tb)) : PT X (.Compare a [.GtE] [b] pos) (cT X.kx W (aTest (aBin oGe ta tb))) := t_cmp op_ge (oI0_ok fun _ _ _ => .bl _) ha hb
/-- a <= b <= c, a <= b < c -/
theorem t_leLe (ha : PE X a (cE X.kx W ta)) (hb : PE X b (cE X.kx W tb)) (hc : PE X c (cE X.kx W tc)) (hm : lastMarks [.LtE, .LtE] [b, c] = false := by rfl) : PT X (.Compare a [.LtE, .LtE] [b, c] pos) (cT X.kx W (aTest (aChain oLe oLe ta tb tc))) := t_chain op_le op_le (oI0_ok fun _ _ _ => .bl _) (oI0_ok fun _ _ _ => .bl _) ha hb hc hm
theorem t_leLt (ha : PE X a (cE X.kx W ta)) (hb : PE X b (cE X.kx W tb)) (hc : PE X c (cE X.kx W tc)) (hm : lastMarks [.LtE, .Lt] [b, c] = false := by rfl) : PT X (.Compare a [.LtE, .Lt] [b, c] pos) (cT X.kx W (aTest (aChain oLe oLt ta tb tc))) := t_chain op_le op_lt (oI0_ok fun _ _ _ => .bl _) (oI0_ok fun _ _ _ => .bl _) ha hb hc hm
theorem a_leLe (ha : PE X a (cE X.kx W ta)) (hb : PE X b (cE X.kx W tb)) (hc : PE X c (cE X.kx W tc)) (hm : lastMarks [.LtE, .LtE] [b, c] = false := by rfl) : PE X (.Compare a [.LtE, .LtE] [b, c] pos) (cE X.kx W (aChain oLe oLe ta tb tc)) := a_chain op_le op_le (oI0_ok fun _ _ _ => .bl _) (oI0_ok fun _ _ _ => .bl _) ha hb hc hm
theorem a_leLt (ha : PE X a (cE X.kx W ta)) (hb : PE X b (cE X.kx W tb)) (hc : PE X c (cE X.kx W tc)) (hm : lastMarks [.LtE, .Lt] [b, c] = false := by rfl) : PE X (.Compare a [.LtE, .Lt] [b, c] pos) (cE X.kx W (aChain oLe oLt ta tb tc)) := a_chain op_le op_lt (oI0_ok fun _ _ _ => .bl _) (oI0_ok fun _ _ _ => .bl _) ha hb hc hm
/-- is None -/
def isN : DV → Bool
  | .non => true
  | _ => false
theorem isN_of {K : PySem.W.Frag} {I : Hp} {d : DV} {v : V} (r : Rp K I d v) : decide (v = V.non) = isN d := by
  cases r <;> rfl
def oIsN (neg : Bool) : AR2 := fun x y L P => match y with
  | .non => P (.bl (neg ^^ isN x)) L
  | _ => False
theorem oIsN_ok {k : Kx} : AOp k (fun x y H Q => y = .non ∧ Q (.bl (decide (x = .non))) H) (oIsN false) := by
  intro I F H L x y xv yv P Q A rx ry h q
  cases ry <;> try exact h.elim
  have h' : P (.bl (false ^^ isN x)) L := h
  rw [Bool.false_xor] at h'
  exact ⟨rfl, by rw [isN_of rx]; exact here A (.bl _) h' q⟩
theorem oIsNN_ok {k : Kx} : AOp k (fun x y H Q => y = .non ∧ Q (.bl (!decide (x = .non))) H) (oIsN true) := by
  intro I F H L x y xv yv P Q A rx ry h q
  cases ry <;> try exact h.elim
  have h' : P (.bl (true ^^ isN x)) L := h
  rw [Bool.true_xor] at h'
  exact ⟨rfl, by rw [isN_of rx]; exact here A (.bl _) h' q⟩
theorem a_isN (ha : PE X a (cE X.kx W ta)) (hb : PE X b (cE X.kx W tb)) : PE X (.Compare a [.Is] [b] pos) (cE X.kx W (aBin (oIsN false) ta tb)) := a_cmp op_isN oIsN_ok ha hb
theorem t_isN (ha : PE X a (cE X.kx W ta)) (hb : PE X b (cE X.kx W tb)) : PT X (.Compare a [.Is] [b] pos) (cT X.kx W (aTest (aBin (oIsN false) ta tb))) := t_cmp op_isN oIsN_ok ha hb
theorem a_isNN (ha : PE X a (cE X.kx W ta)) (hb : PE X b (cE X.kx W tb)) : PE X (.Compare a [.IsNot] [b] pos) (cE X.kx W (aBin (oIsN true) ta tb)) := a_cmp op_notN oIsNN_ok ha hb
theorem t_isNN (ha : PE X a (cE X.kx W ta)) (hb : PE X b (cE X.kx W tb)) : PT X (.Compare a [.IsNot] [b] pos) (cT X.kx W (aTest (aBin (oIsN true) ta tb))) := t_cmp op_notN oIsNN_ok ha hb
end
end AL
namespace AL
open PySem PySem.Spec PyProof.Rows L2

/-! ### items -/
theorem atI_rp {K : PySem.W.Frag} {I : Hp} {ds : List DV} {vs : List V} {i : Int} {d : DV} (r : Rps K I ds vs) (h : atI ds i = some d) : ∃ v, atI vs i = some v ∧ Rp K I d v := by
  unfold atI at h ⊢
  rw [r.length] at h
  cases e : ixN vs.length i with
  | none => rw [e] at h; cases h
  | some j =>
    rw [e] at h
    obtain ⟨v, h1, h2⟩ := r.get (i := j) (d := d) h
    exact ⟨v, h1, h2⟩
def oIx : AR2 := fun x y L P => match x, y with
  | .str z, .int i => z.length ≤ sizeLine ∧ ∃ c, atI z.cps.toList i = some c ∧ P (.str ⟨#[c]⟩) L
  | x, .int i => withSq L x fun ds => ∃ d, atI ds i = some d ∧ P d L
  | _, _ => False
theorem oIx_ok {k : Kx} : AOp k (rIx k.K) oIx := by
  intro I F H L x y xv yv P Q A rx ry h q
  unfold oIx at h
  split at h
  · cases rx; cases ry
    obtain ⟨hz, c, e, h⟩ := h
    exact .inr (.inr ⟨_, _, _, rfl, rfl, hz, e, here A (.str _) h q⟩)
  · cases ry
    obtain ⟨a, vs, ds, rfl, hs, r, d, e, h⟩ := withSq_ok A rx h
    obtain ⟨v, e2, r2⟩ := atI_rp r e
    rcases hs with hs | hs
    · exact .inl ⟨_, _, _, _, rfl, rfl, hs, e2, here A r2 h q⟩
    · exact .inr (.inl ⟨_, _, _, _, rfl, rfl, hs, e2, here A r2 h q⟩)
  · exact h.elim
section
variable {X : Cx} {W : WX} {a b : Expr} {ta tb : AE} {pos : Pos}
theorem a_item (ha : PE X a (cE X.kx W ta)) (hb : PE X b (cE X.kx W tb)) (hs : PlainIx b := by intro _ _; rfl) : PE X (.Subscript a b pos) (cE X.kx W (aBin oIx ta tb)) := a_ix ix_seq oIx_ok ha hb hs
end

/-! ### slices -/
abbrev AO := Sl → Led → (Option Int → Led → Prop) → PX → Prop
def cO (k : Kx) (W : WX) (t : AO) : TO := fun σ H Q => ∃ I L F ρ P px, Stt k W σ H I L F ρ px ∧ t ρ L P px ∧ ∀ o L' I' H', P o L' → Ab k I' L' F H' → Ex I I' → Q o H'
def aNoPart : AO := fun _ L P _ => P none L
def aPart (t : AE) : AO := fun ρ L P px => t ρ L (fun x L1 => match x with
  | .int i => P (some i) L1
  | _ => False) px
def cut {α : Type} (xs : List α) (lo hi : Option Int) : List α := (xs.drop (HT.sIx xs.length 0 lo)).take (HT.sIx xs.length xs.length hi - HT.sIx xs.length 0 lo)
theorem cut_rp {K : PySem.W.Frag} {I : Hp} {ds : List DV} {vs : List V} (r : Rps K I ds vs) (lo hi : Option Int) : Rps K I (cut ds lo hi) (cutV vs lo hi) := by
  unfold cut cutV
  rw [r.length]
  exact (r.drop _).take _
def oSl (x : DV) (lo hi : Option Int) (L : Led) (P : PD) : Prop := match x with
  | .str z => z.length ≤ sizeLine ∧ P (.str (cutS z lo hi)) L
  | .tup xs => P (.tup (cut xs lo hi)) L
  | x => withL L x fun ds => newL (cut ds lo hi) L P
def aSl (te : AE) (tl th : AO) : AE := fun ρ L P px => te ρ L (fun x L1 => tl ρ L1 (fun lo L2 => th ρ L2 (fun hi L3 => oSl x lo hi L3 P) px) px) px
abbrev rSlAll (K : PySem.W.Frag) : V → Option Int → Option Int → Hp → VK → Prop := fun x lo hi H Q => rSlS x lo hi H Q ∨ rSlA K x lo hi H Q ∨ rSlL K x lo hi H Q
theorem oSl_ok {k : Kx} {I F H : Hp} {L : Led} {x : DV} {xv : V} {lo hi : Option Int} {P : PD} {Q : VK} (A : Ab k I L F H) (rx : Rp k.K I x xv) (h : oSl x lo hi L P) (q : Q2 k I F P Q) : rSlAll k.K xv lo hi H Q := by
  unfold oSl at h
  split at h
  · cases rx
    exact .inl ⟨_, rfl, h.1, here A (.str _) h.2 q⟩
  · cases rx with | tup hx r => ?_
    refine .inr (.inl ⟨_, _, rfl, A.imm.t hx, fun e => ?_, fun _ p hp => newT_ok A (cut_rp r lo hi) h q p hp⟩)
    rename_i xs _ vs
    have ec : cut xs lo hi = xs := by
      unfold cut
      rw [r.length, e.1, e.2, List.drop_zero, Nat.sub_zero, ← r.length, List.take_length]
    rw [ec] at h
    exact here A (.tup hx r) h q
  · obtain ⟨a, vs, ds, rfl, ha, r, h⟩ := withL_ok A rx h
    exact .inr (.inr ⟨_, _, rfl, SqL.of ha, newL_ok A (cut_rp r lo hi) h q⟩)
section
variable {X : Cx} {W : WX} {e : Expr} {lo hi : Option Expr} {te : AE} {tl th : AO} {pos p2 : Pos}
theorem o_none : PO X none (cO X.kx W aNoPart) := by
  refine ⟨fun pins s σ H Q I h => ?_⟩
  obtain ⟨I0, L, F, ρ, P, px, S, h, q⟩ := h
  exact po_none.run pins s σ H Q I (q _ _ _ _ h S.ab (Ex.refl _))
theorem o_some (h : PE X e (cE X.kx W te)) : PO X (some e) (cO X.kx W (aPart te)) := by
  refine ⟨fun pins s σ H Q I hq => ?_⟩
  obtain ⟨I0, L, F, ρ, P, px, S, hq, q⟩ := hq
  refine (po_some h).run pins s σ H Q I ⟨I0, L, F, ρ, _, px, S, hq, fun d L1 v I1 H1 h1 A1 e1 r1 => ?_⟩
  cases r1 <;> try exact h1.elim
  exact ⟨_, rfl, q _ _ _ _ h1 A1 e1⟩
theorem a_slice (he : PE X e (cE X.kx W te)) (hl : PO X lo (cO X.kx W tl)) (hu : PO X hi (cO X.kx W th)) : PE X (.Subscript e (.Slice lo hi none p2) pos) (cE X.kx W (aSl te tl th)) :=
  (pe_slice (sl_str.or (sl_tupA.or sl_list)) he hl hu).imp fun σ H Q ⟨I, L, F, ρ, P, px, S, h, q⟩ => ⟨I, L, F, ρ, _, px, S, h, fun x L1 xv I1 H1 h1 A1 e1 r1 => ⟨I1, L1, F, ρ, _, px, S.go A1 e1, h1, fun l L2 I2 H2 h2 A2 e2 =>
    ⟨I2, L2, F, ρ, _, px, S.go A2 (e1.trans e2), h2, fun u L3 I3 H3 h3 A3 e3 => oSl_ok A3 (r1.mono (e2.trans e3)) h3 (q.mono ((e1.trans e2).trans e3))⟩⟩⟩
/-- xs[::-1] -/
def aRev (te : AE) : AE := fun ρ L P px => te ρ L (fun x L1 => withL L1 x fun ds => newL ds.reverse L1 P) px
theorem a_rev {k : Nat} {p1 p3 p4 : Pos} (he : PE X e (cE X.kx W te)) : PE X (.Subscript e (.Slice none none (some (.UnaryOp .USub (.Constant (.int 1) k p1) p3)) p4) pos) (cE X.kx W (aRev te)) :=
  (pe_revL he).imp fun σ H Q ⟨I, L, F, ρ, P, px, S, h, q⟩ => ⟨I, L, F, ρ, _, px, S, h, fun x L1 xv I1 H1 h1 A1 e1 r1 => by
    obtain ⟨a, vs, ds, rfl, ha, r, h⟩ := withL_ok A1 r1 h1
    exact ⟨_, _, rfl, SqL.of ha, newL_ok A1 r.reverse h (q.mono e1)⟩⟩
end

/-! ### arguments, displays -/
def aNil : AA := fun _ L P _ => P [] L
def aCons (ta : AE) (tr : AA) : AA := fun ρ L P px => ta ρ L (fun x L1 => tr ρ L1 (fun xs L2 => P (x :: xs) L2) px) px
/-- few items -/
def few : List DV → Nat → Prop → Prop
  | [], _, q => q
  | _ :: _, 0, _ => False
  | _ :: r, n + 1, q => few r n q
theorem few_ok : ∀ {ds : List DV} {n : Nat} {q : Prop}, few ds n q → ds.length ≤ n ∧ q
  | [], _, _, h => ⟨Nat.zero_le _, h⟩
  | _ :: _, 0, _, h => h.elim
  | _ :: r, n + 1, q, h => ⟨Nat.succ_le_succ (few_ok (ds := r) h).1, (few_ok (ds := r) h).2⟩
def aTup (ta : AA) : AE := fun ρ L P px => ta ρ L (fun ds L1 => few ds 200 (P (.tup ds) L1)) px
def aLst (ta : AA) : AE := fun ρ L P px => ta ρ L (fun ds L1 => few ds 200 (newL ds L1 P)) px
theorem z200 {n : Nat} (h : n ≤ 200) : n ≤ sizeLine := Nat.le_trans h (by decide)
section
variable {X : Cx} {W : WX} {e : Expr} {es : List Expr} {te : AE} {t : AA} {pos : Pos}
theorem g_nil : PA X [] (cA X.kx W aNil) := pa_nil.imp fun σ H Q ⟨I, L, F, ρ, P, px, S, h, q⟩ => q _ _ _ _ _ h S.ab (Ex.refl _) .nil
theorem g_cons (ha : PE X e (cE X.kx W te)) (hr : PA X es (cA X.kx W t)) (hs : starEach (e :: es) X.env = (false, eval e X.env) :: starEach es X.env := by rfl) : PA X (e :: es) (cA X.kx W (aCons te t)) :=
  (pa_cons ha hr hs).imp fun σ H Q ⟨I, L, F, ρ, P, px, S, h, q⟩ => ⟨I, L, F, ρ, _, px, S, h, fun x L1 xv I1 H1 h1 A1 e1 r1 => ⟨I1, L1, F, ρ, _, px, S.go A1 e1, h1, fun xs L2 vs I2 H2 h2 A2 e2 r2 => q _ _ _ _ _ h2 A2 (e1.trans e2) (.cons (r1.mono e2) r2)⟩⟩
theorem a_tup {x1} (h : PA X es (cA X.kx W t)) : PE X (.Tuple es x1 pos) (cE X.kx W (aTup t)) :=
  (pe_tup h).imp fun σ H Q ⟨I, L, F, ρ, P, px, S, h, q⟩ => ⟨I, L, F, ρ, _, px, S, h, fun ds L1 vs I1 H1 h1 A1 e1 r1 => ⟨by rw [← r1.length]; exact z200 (few_ok h1).1, newT_ok A1 r1 (few_ok h1).2 (q.mono e1)⟩⟩
theorem a_lst (h : PA X es (cA X.kx W t)) : PE X (.List es pos) (cE X.kx W (aLst t)) :=
  (pe_lst h).imp fun σ H Q ⟨I, L, F, ρ, P, px, S, h, q⟩ => ⟨I, L, F, ρ, _, px, S, h, fun ds L1 vs I1 H1 h1 A1 e1 r1 => ⟨by rw [← r1.length]; exact z200 (few_ok h1).1, newL_ok A1 r1 (few_ok h1).2 (q.mono e1)⟩⟩
end

/-! ### built-in calls by values -/
abbrev AC := List DV → Led → PD → Prop
def ACl (k : Kx) (r : List V → Hp → VK → Prop) (ro : AC) : Prop := ∀ {I F H : Hp} {L : Led} {ds : List DV} {vs : List V} {P : PD} {Q : VK}, Ab k I L F H → Rps k.K I ds vs → ro ds L P → Q2 k I F P Q → r vs H Q
def aCB (ro : AC) (t : AA) : AE := fun ρ L P px => t ρ L (fun ds L1 => ro ds L1 P) px
section
variable {X : Cx} {W : WX} {e : Expr} {es : List Expr} {t : AA} {p pos : Pos} {x : Str} {id T : String} {r : List V → Hp → VK → Prop} {ro : AC}
theorem a_callB (hc : CallR X (.builtin id) r) (hr : ACl X.kx r ro) (hg : Gl X x) (hm : X.mg x = none) (hv : bootBuiltins x = some (.builtin id)) (ha : PA X (e :: es) (cA X.kx W t)) (hn : x ≠ "__name__" := by decide) (hdb : (x == ("__debug__" : Str)) = false := by decide)
    (he : starEach (e :: es) X.env = (false, eval e X.env) :: starEach es X.env := by rfl) (hpl : (backTo pos (starEach es X.env)).any (·.1) = false := by rfl) : PE X (.Call (.Name x p) (e :: es) [] pos) (cE X.kx W (aCB ro t)) :=
  (pe_callB hc hg hm hv ha hn hdb he hpl).imp fun σ H Q ⟨I, L, F, ρ, P, px, S, h, q⟩ => ⟨I, L, F, ρ, _, px, S, h, fun ds L1 vs I1 H1 h1 A1 e1 r1 => hr A1 r1 h1 (q.mono e1)⟩
theorem a_callTy (hc : CallR X (.type T) r) (hr : ACl X.kx r ro) (hg : Gl X x) (hm : X.mg x = none) (hv : bootBuiltins x = some (.type T)) (ha : PA X (e :: es) (cA X.kx W t)) (hn : x ≠ "__name__" := by decide) (hdb : (x == ("__debug__" : Str)) = false := by decide)
    (he : starEach (e :: es) X.env = (false, eval e X.env) :: starEach es X.env := by rfl) (hpl : (backTo pos (starEach es X.env)).any (·.1) = false := by rfl) : PE X (.Call (.Name x p) (e :: es) [] pos) (cE X.kx W (aCB ro t)) :=
  (pe_callTy hc hg hm hv ha hn hdb he hpl).imp fun σ H Q ⟨I, L, F, ρ, P, px, S, h, q⟩ => ⟨I, L, F, ρ, _, px, S, h, fun ds L1 vs I1 H1 h1 A1 e1 r1 => hr A1 r1 h1 (q.mono e1)⟩
end
/-- int(x) of an int, a bool -/
def bInt : AC := fun ds L P => match ds with
  | [.int i] => P (.int i) L
  | [.bl b] => P (.int (if b then 1 else 0)) L
  | _ => False
def bAbs : AC := fun ds L P => match ds with
  | [.int i] => P (.int (if i < 0 then -i else i)) L
  | _ => False
def bMax2 : AC := fun ds L P => match ds with
  | [.int i, .int j] => P (.int (if j > i then j else i)) L
  | _ => False
def bMin2 : AC := fun ds L P => match ds with
  | [.int i, .int j] => P (.int (if j < i then j else i)) L
  | _ => False
def bLen : AC := fun ds L P => match ds with
  | [.str z] => z.length ≤ sizeLine ∧ P (.int (z.length : Nat)) L
  | [x] => withSq L x fun ds => P (.int (ds.length : Nat)) L
  | _ => False
def bList : AC := fun ds L P => match ds with
  | [x] => withSq L x fun ds => newL ds L P
  | _ => False
def bTuple : AC := fun ds L P => match ds with
  | [.tup xs] => P (.tup xs) L
  | [x] => withL L x fun ds => P (.tup ds) L
  | _ => False
def bStr : AC := fun ds L P => match ds with
  | [.int i] => i.natAbs.log2 < 1920 ∧ P (.str (toString i)) L
  | _ => False
section
variable {k : Kx}
theorem one_rp {I : Hp} {x : DV} {vs : List V} (r : Rps k.K I [x] vs) : ∃ v, vs = [v] ∧ Rp k.K I x v := by
  cases r with | cons h t => cases t; exact ⟨_, rfl, h⟩
theorem two_rp {I : Hp} {x y : DV} {vs : List V} (r : Rps k.K I [x, y] vs) : ∃ v w, vs = [v, w] ∧ Rp k.K I x v ∧ Rp k.K I y w := by
  cases r with | cons h t => cases t with | cons h' t => cases t; exact ⟨_, _, rfl, h, h'⟩
theorem bInt_ok : ACl k (fun xs H Q => (∃ i, xs = [.int i] ∧ Q (.int i) H) ∨ ∃ k, xs = [.bl k] ∧ Q (.int (if k then 1 else 0)) H) bInt := by
  intro I F H L ds vs P Q A r h q
  unfold bInt at h
  split at h
  · obtain ⟨v, rfl, r1⟩ := one_rp r; cases r1
    exact .inl ⟨_, rfl, here A (.int _) h q⟩
  · obtain ⟨v, rfl, r1⟩ := one_rp r; cases r1
    exact .inr ⟨_, rfl, here A (.int _) h q⟩
  · exact h.elim
theorem bAbs_ok : ACl k (fun xs H Q => ∃ i, xs = [.int i] ∧ Q (.int (if i < 0 then -i else i)) H) bAbs := by
  intro I F H L ds vs P Q A r h q
  unfold bAbs at h
  split at h
  · obtain ⟨v, rfl, r1⟩ := one_rp r; cases r1
    exact ⟨_, rfl, here A (.int _) h q⟩
  · exact h.elim
theorem bMax2_ok : ACl k (fun xs H Q => ∃ i j, xs = [.int i, .int j] ∧ Q (.int (if j > i then j else i)) H) bMax2 := by
  intro I F H L ds vs P Q A r h q
  unfold bMax2 at h
  split at h
  · obtain ⟨v, w, rfl, r1, r2⟩ := two_rp r; cases r1; cases r2
    exact ⟨_, _, rfl, here A (.int _) h q⟩
  · exact h.elim
theorem bMin2_ok : ACl k (fun xs H Q => ∃ i j, xs = [.int i, .int j] ∧ Q (.int (if j < i then j else i)) H) bMin2 := by
  intro I F H L ds vs P Q A r h q
  unfold bMin2 at h
  split at h
  · obtain ⟨v, w, rfl, r1, r2⟩ := two_rp r; cases r1; cases r2
    exact ⟨_, _, rfl, here A (.int _) h q⟩
  · exact h.elim
theorem bLen_ok : ACl k (fun xs H Q => ∃ x n, xs = [x] ∧ LenV k.K x H n ∧ Q (.int n) H) bLen := by
  intro I F H L ds vs P Q A r h q
  unfold bLen at h
  split at h
  · obtain ⟨v, rfl, r1⟩ := one_rp r; cases r1
    exact ⟨_, _, rfl, ⟨h.1, rfl⟩, here A (.int _) h.2 q⟩
  · obtain ⟨v, rfl, r1⟩ := one_rp r
    obtain ⟨a, vs, ds, rfl, hs, r, h⟩ := withSq_ok A r1 h
    refine ⟨_, ds.length, rfl, ?_, here A (.int _) h q⟩
    rcases hs with hs | hs
    · exact .inl ⟨_, hs, r.length⟩
    · exact .inr ⟨_, hs, r.length⟩
  · exact h.elim
theorem bList_ok : ACl k (fun xs H Q => ∃ p ys, xs = [.ref p] ∧ (SqL k.K H p ys ∨ SqT k.K H p ys) ∧ ∀ l, H l = none → Q (.ref l) (upd H l (.lst ys))) bList := by
  intro I F H L ds vs P Q A r h q
  unfold bList at h
  split at h
  · obtain ⟨v, rfl, r1⟩ := one_rp r
    obtain ⟨a, vs, ds, rfl, hs, r, h⟩ := withSq_ok A r1 h
    exact ⟨_, _, rfl, hs, newL_ok A r h q⟩
  · exact h.elim
theorem bTuple_ok : ACl k (fun xs H Q => ∃ p ys, xs = [.ref p] ∧ ((SqL k.K H p ys ∧ ∀ l, H l = none → Q (.ref l) (upd H l (.tup ys))) ∨ (SqT k.K H p ys ∧ Q (.ref p) H))) bTuple := by
  intro I F H L ds vs P Q A r h q
  unfold bTuple at h
  split at h
  · obtain ⟨v, rfl, r1⟩ := one_rp r
    cases r1 with | tup hx rr => exact ⟨_, _, rfl, .inr ⟨A.imm.t hx, here A (.tup hx (by assumption)) h q⟩⟩
  · obtain ⟨v, rfl, r1⟩ := one_rp r
    obtain ⟨a, vs, ds, rfl, ha, r, h⟩ := withL_ok A r1 h
    exact ⟨_, _, rfl, .inl ⟨SqL.of ha, newT_ok A r h q⟩⟩
  · exact h.elim
theorem bStr_ok : ACl k (fun xs H Q => ∃ i, xs = [.int i] ∧ i.natAbs.log2 < 1920 ∧ Q (.str (toString i)) H) bStr := by
  intro I F H L ds vs P Q A r h q
  unfold bStr at h
  split at h
  · obtain ⟨v, rfl, r1⟩ := one_rp r; cases r1
    exact ⟨_, rfl, h.1, here A (.str _) h.2 q⟩
  · exact h.elim
end
section
variable {X : Cx} {W : WX} {e : Expr} {es : List Expr} {t : AA} {p pos : Pos}
theorem a_intc (hg : Gl X "int") (hm : X.mg "int" = none) (ha : PA X [e] (cA X.kx W t)) (he : starEach [e] X.env = (false, eval e X.env) :: starEach [] X.env := by rfl) : PE X (.Call (.Name "int" p) [e] [] pos) (cE X.kx W (aCB bInt t)) := a_callTy call_int1 bInt_ok hg hm (by decide +kernel) ha (he := he)
theorem a_abs (hg : Gl X "abs") (hm : X.mg "abs" = none) (ha : PA X [e] (cA X.kx W t)) (he : starEach [e] X.env = (false, eval e X.env) :: starEach [] X.env := by rfl) : PE X (.Call (.Name "abs" p) [e] [] pos) (cE X.kx W (aCB bAbs t)) := a_callB call_abs bAbs_ok hg hm (by decide +kernel) ha (he := he)
theorem a_max2 (hc : X.calm = true) {e2 : Expr} (hg : Gl X "max") (hm : X.mg "max" = none) (ha : PA X [e, e2] (cA X.kx W t)) (he : starEach [e, e2] X.env = (false, eval e X.env) :: starEach [e2] X.env := by rfl) (hpl : (backTo pos (starEach [e2] X.env)).any (·.1) = false := by rfl) :
    PE X (.Call (.Name "max" p) [e, e2] [] pos) (cE X.kx W (aCB bMax2 t)) := a_callB (call_max2 hc) bMax2_ok hg hm (by decide +kernel) ha (he := he) (hpl := hpl)
theorem a_min2 (hc : X.calm = true) {e2 : Expr} (hg : Gl X "min") (hm : X.mg "min" = none) (ha : PA X [e, e2] (cA X.kx W t)) (he : starEach [e, e2] X.env = (false, eval e X.env) :: starEach [e2] X.env := by rfl) (hpl : (backTo pos (starEach [e2] X.env)).any (·.1) = false := by rfl) :
    PE X (.Call (.Name "min" p) [e, e2] [] pos) (cE X.kx W (aCB bMin2 t)) := a_callB (call_min2 hc) bMin2_ok hg hm (by decide +kernel) ha (he := he) (hpl := hpl)
theorem a_len (hg : Gl X "len") (hm : X.mg "len" = none) (ha : PA X [e] (cA X.kx W t)) (he : starEach [e] X.env = (false, eval e X.env) :: starEach [] X.env := by rfl) : PE X (.Call (.Name "len" p) [e] [] pos) (cE X.kx W (aCB bLen t)) := a_callB call_len bLen_ok hg hm (by decide +kernel) ha (he := he)
theorem a_list (hg : Gl X "list") (hm : X.mg "list" = none) (ha : PA X [e] (cA X.kx W t)) (he : starEach [e] X.env = (false, eval e X.env) :: starEach [] X.env := by rfl) : PE X (.Call (.Name "list" p) [e] [] pos) (cE X.kx W (aCB bList t)) := a_callTy call_list_of bList_ok hg hm (by decide +kernel) ha (he := he)
theorem a_tuple (hg : Gl X "tuple") (hm : X.mg "tuple" = none) (ha : PA X [e] (cA X.kx W t)) (he : starEach [e] X.env = (false, eval e X.env) :: starEach [] X.env := by rfl) : PE X (.Call (.Name "tuple" p) [e] [] pos) (cE X.kx W (aCB bTuple t)) := a_callTy call_tuple_of bTuple_ok hg hm (by decide +kernel) ha (he := he)
theorem a_strc (hg : Gl X "str") (hm : X.mg "str" = none) (ha : PA X [e] (cA X.kx W t)) (he : starEach [e] X.env = (false, eval e X.env) :: starEach [] X.env := by rfl) : PE X (.Call (.Name "str" p) [e] [] pos) (cE X.kx W (aCB bStr t)) := a_callTy call_str_int bStr_ok hg hm (by decide +kernel) ha (he := he)
end

/-! ### truth -/
def truD (d : DV) (L : Led) (q : Bool → Prop) : Prop := match d with
  | .bl b => q b
  | .non => q false
  | .int i => q (i != 0)
  | .str s => s.length ≤ sizeLine ∧ q ((s.length : Int) != 0)
  | .lst ds => q (!ds.isEmpty)
  | .tup ds => q (!ds.isEmpty)
  | .ref a => ∃ ds, L a = some (.lst ds) ∧ q (!ds.isEmpty)
  | _ => False
def aTru (te : AE) : AT := fun ρ L P px => te ρ L (fun d L' => truD d L' fun b => P b L') px
theorem Rps.isEmpty {K : PySem.W.Frag} {I : Hp} {ds : List DV} {vs : List V} (r : Rps K I ds vs) : ds.isEmpty = vs.isEmpty := by cases r <;> rfl
theorem truD_ok {k : Kx} {I F H : Hp} {L : Led} {d : DV} {v : V} {q : Bool → Prop} (A : Ab k I L F H) (r : Rp k.K I d v) (h : truD d L q) : ∃ b, TruV k.K v H b ∧ q b := by
  cases r <;> try exact h.elim
  case non => exact ⟨_, rfl, h⟩
  case bl b => exact ⟨_, rfl, h⟩
  case int b => exact ⟨_, rfl, h⟩
  case str b => exact ⟨_, ⟨h.1, rfl⟩, h.2⟩
  case ref a =>
    obtain ⟨ds, e, h⟩ := h
    obtain ⟨_, _, o, e2, r2⟩ := A.led _ _ e
    cases r2 with
    | lst r => exact ⟨_, .inl ⟨_, SqL.of e2, by rw [r.isEmpty]⟩, h⟩
  case lst a vs ds e r => exact ⟨_, .inl ⟨_, SqL.of (A.imm _ _ e), by rw [r.isEmpty]⟩, h⟩
  case tup a vs ds e r => exact ⟨_, .inr (.inl ⟨_, A.imm.t e, by rw [r.isEmpty]⟩), h⟩
section
variable {X : Cx} {W : WX} {a : Expr} {ta : AE}
theorem t_tru (ha : PE X a (cE X.kx W ta)) (he : ∀ whole, isTrue a X.env whole = (do let v ← whole; standAt a.pos; holding [v] (truthy v)) := by intro _; rfl) : PT X a (cT X.kx W (aTru ta)) :=
  (pt_truth ha he).imp fun σ H Q ⟨I, L, F, ρ, P, px, S, h, q⟩ => ⟨I, L, F, ρ, _, px, S, h, fun d L1 v I1 H1 h1 A1 e1 r1 => by
    obtain ⟨b, hb, h⟩ := truD_ok A1 r1 h1
    exact ⟨b, hb, q _ _ _ _ h A1 e1⟩⟩
end
end AL
namespace AL
open PySem PySem.Spec PyProof.Rows L2

/-! ### attributes -/
theorem lookup_at {f : Str} {v : V} : ∀ {fs : List (Str × V)} {j : Nat}, (fs.map (·.1)).Nodup → (fs.map (·.1))[j]? = some f → (fs.map (·.2))[j]? = some v → fs.lookup f = some v
  | [], j, _, h, _ => by simp at h
  | (g, w) :: fs, 0, _, h1, h2 => by
    simp only [List.map_cons, List.getElem?_cons_zero, Option.some.injEq] at h1 h2
    subst h1; subst h2
    simp [List.lookup_cons]
  | (g, w) :: fs, j + 1, nd, h1, h2 => by
    simp only [List.map_cons, List.getElem?_cons_succ, List.nodup_cons] at h1 h2 nd
    have hm : f ∈ fs.map (·.1) := List.mem_of_getElem? h1
    have hne : f ≠ g := fun e => nd.1 (e ▸ hm)
    rw [List.lookup_cons]
    have : (f == g) = false := by simpa using hne
    rw [this]
    exact lookup_at nd.2 h1 h2
theorem lookup_no {f : Str} : ∀ {fs : List (Str × V)}, f ∉ fs.map (·.1) → fs.lookup f = none
  | [], _ => rfl
  | (g, w) :: fs, h => by
    simp only [List.map_cons, List.mem_cons, not_or] at h
    rw [List.lookup_cons]
    have : (f == g) = false := by simpa using h.1
    rw [this]
    exact lookup_no h.2
theorem putF_new {f : Str} {v : V} : ∀ {fs : List (Str × V)}, f ∉ fs.map (·.1) → putF f v fs = fs ++ [(f, v)]
  | [], _ => rfl
  | (g, w) :: fs, h => by
    simp only [List.map_cons, List.mem_cons, not_or] at h
    unfold putF
    rw [if_neg (fun e => h.1 e.symm), putF_new h.2]
    rfl
theorem putF_old {f : Str} {v : V} : ∀ {fs : List (Str × V)} {j : Nat}, (fs.map (·.1)).Nodup → (fs.map (·.1))[j]? = some f → (putF f v fs).map (·.1) = fs.map (·.1) ∧ (putF f v fs).map (·.2) = (fs.map (·.2)).set j v
  | [], j, _, h => by simp at h
  | (g, w) :: fs, 0, _, h1 => by
    simp only [List.map_cons, List.getElem?_cons_zero, Option.some.injEq] at h1
    subst h1
    unfold putF
    rw [if_pos rfl]
    exact ⟨rfl, rfl⟩
  | (g, w) :: fs, j + 1, nd, h1 => by
    simp only [List.map_cons, List.getElem?_cons_succ, List.nodup_cons] at h1 nd
    have hm : f ∈ fs.map (·.1) := List.mem_of_getElem? h1
    have hne : ¬ g = f := fun e => nd.1 (e ▸ hm)
    unfold putF
    rw [if_neg hne]
    obtain ⟨e1, e2⟩ := putF_old (v := v) nd.2 h1
    simp [e1, e2]
/-- an instance: its class, names, values -/
def withI (L : Led) (x : DV) (q : Addr → List Str → List DV → Prop) : Prop := match x with
  | .ins C ks ds => q C ks ds
  | .ref a => ∃ C dx ks ds, L a = some (.ins C dx ks ds) ∧ q C ks ds
  | _ => False
theorem withI_ok {k : Kx} {I F H : Hp} {L : Led} {x : DV} {xv : V} {q : Addr → List Str → List DV → Prop} (A : Ab k I L F H) (r : Rp k.K I x xv) (h : withI L x q) :
    ∃ a C dx fs ks ds, xv = .ref a ∧ H a = some (.ins C dx fs) ∧ fs.map (·.1) = ks ∧ FOk k.K C ks ∧ Rps k.K I ds (fs.map (·.2)) ∧ q C ks ds := by
  cases r <;> try exact h.elim
  case ref a =>
    obtain ⟨C, dx, ks, ds, e, h⟩ := h
    obtain ⟨_, _, o, e2, r2⟩ := A.led a _ e
    cases r2 with
    | ins q c r => exact ⟨a, C, dx, _, ks, ds, rfl, e2, q, c, r, h⟩
  case ins a C dx fs ks ds e q c r => exact ⟨a, C, dx, fs, ks, ds, rfl, A.imm _ _ e, q, c, r, h⟩
def aFld (f : Str) (j : Nat) (te : AE) : AE := fun ρ L P px => te ρ L (fun x L1 => withI L1 x fun _ ks ds => ks[j]? = some f ∧ ∃ d, ds[j]? = some d ∧ P d L1) px
section
variable {X : Cx} {W : WX} {e : Expr} {te tv : AE} {f : Str} {pos pos' : Pos}
theorem a_fld (j : Nat) (he : PE X e (cE X.kx W te)) (hb : attributeBase e f X.env (eval e X.env) = eval e X.env := by rfl) : PE X (.Attribute e f pos) (cE X.kx W (aFld f j te)) :=
  (pe_fld he hb).imp fun σ H Q ⟨I, L, F, ρ, P, px, S, h, q⟩ => ⟨I, L, F, ρ, _, px, S, h, fun x L1 xv I1 H1 h1 A1 e1 r1 => by
    obtain ⟨a, C, dx, fs, ks, ds, rfl, ha, ek, c, r, hk, d, hd, h⟩ := withI_ok A1 r1 h1
    obtain ⟨v, hv, rv⟩ := r.get hd
    subst ek
    exact ⟨a, C, dx, fs, v, rfl, ha, c.cl, c.no f (List.mem_of_getElem? hk), lookup_at c.nd hk hv, here A1 rv h (q.mono e1)⟩⟩
/-- o.f = value, f new (in __init__, of the class at C) -/
def aFNew (C : Addr) (f : Str) (te tv : AE) : AS := fun AD ρ L => tv ρ L (fun d L1 => te ρ L1 (fun x L2 => match x with
  | .ref a => ∃ dx ks ds, L2 a = some (.ins C dx ks ds) ∧ (!ks.contains f && decide (ks.length < 900)) = true ∧ AD.nx ρ (updL L2 a (.ins C dx (ks ++ [f]) (ds ++ [d])))
  | _ => False) AD.px) AD.px
/-- .. f there, at j -/
def aFUpd (f : Str) (j : Nat) (te tv : AE) : AS := fun AD ρ L => tv ρ L (fun d L1 => te ρ L1 (fun x L2 => match x with
  | .ref a => ∃ C dx ks ds, L2 a = some (.ins C dx ks ds) ∧ ks[j]? = some f ∧ AD.nx ρ (updL L2 a (.ins C dx ks (ds.set j d)))
  | _ => False) AD.px) AD.px
theorem s_fnew {C : Addr} {o value : Expr} (ha : PE X o (cE X.kx W te)) (hv : PE X value (cE X.kx W tv)) (hn : NoAttr X.K C f) (hs : swapsWith value (some (.Attribute o f pos')) pos.line X.env = pure false := by rfl) :
    PS X (.Assign [.Attribute o f pos'] value pos) (cS X.kx W (aFNew C f te tv)) :=
  (ps_fld ha hv hs).imp fun D σ H ⟨I, L, F, ρ, AD, S, h, q⟩ => ⟨I, L, F, ρ, _, AD.px, S, h, fun d L1 v I1 H1 h1 A1 e1 r1 => ⟨I1, L1, F, ρ, _, AD.px, S.go A1 e1, h1, fun x L2 xv I2 H2 h2 A2 e2 r2 => by
    cases r2 <;> try exact h2.elim
    obtain ⟨dx, ks, ds, e, c, h⟩ := h2
    obtain ⟨_, _, ob, e3, r3⟩ := A2.led _ _ e
    cases r3 with
    | @ins _ _ _ _ fs ek cc r =>
    simp only [Bool.and_eq_true, Bool.not_eq_true', decide_eq_true_eq] at c
    have hf : f ∉ ks := by
      intro z
      have := List.contains_iff_mem.mpr z
      rw [this] at c
      exact absurd c.1 (by simp)
    have el : fs.length = ks.length := by rw [← ek, List.length_map]
    refine ⟨_, C, dx, fs, rfl, e3, cc.cl, hn, by omega, ?_⟩
    have ef : f ∉ fs.map (·.1) := by rw [ek]; exact hf
    rw [putF_new ef]
    refine q.nx ρ _ σ I2 _ h (A2.write e (.ins (by rw [List.map_append, ek]; rfl) ⟨cc.cl, cc.ty, fun g hg => ?_, ?_, ?_⟩ (by rw [List.map_append]; exact r.append (.cons (r1.mono e2) .nil)))) (e1.trans e2) (S.rs.mono (e1.trans e2))
    · rcases List.mem_append.mp hg with hg | hg
      · exact cc.no g hg
      · rw [List.mem_singleton.mp hg]; exact hn
    · exact List.nodup_append.mpr ⟨cc.nd, by simp, fun a ha b hb => by rw [List.mem_singleton.mp hb]; rintro rfl; exact hf ha⟩
    · rw [List.length_append]; simp; omega⟩⟩
theorem s_fupd {o value : Expr} (j : Nat) (ha : PE X o (cE X.kx W te)) (hv : PE X value (cE X.kx W tv)) (hs : swapsWith value (some (.Attribute o f pos')) pos.line X.env = pure false := by rfl) :
    PS X (.Assign [.Attribute o f pos'] value pos) (cS X.kx W (aFUpd f j te tv)) :=
  (ps_fld ha hv hs).imp fun D σ H ⟨I, L, F, ρ, AD, S, h, q⟩ => ⟨I, L, F, ρ, _, AD.px, S, h, fun d L1 v I1 H1 h1 A1 e1 r1 => ⟨I1, L1, F, ρ, _, AD.px, S.go A1 e1, h1, fun x L2 xv I2 H2 h2 A2 e2 r2 => by
    cases r2 <;> try exact h2.elim
    obtain ⟨C, dx, ks, ds, e, hk, h⟩ := h2
    obtain ⟨_, _, ob, e3, r3⟩ := A2.led _ _ e
    cases r3 with
    | @ins _ _ _ _ fs ek cc r =>
    have el : fs.length = ks.length := by rw [← ek, List.length_map]
    have hl := cc.few
    subst ek
    obtain ⟨p1, p2⟩ := putF_old (v := v) cc.nd hk
    refine ⟨_, C, dx, fs, rfl, e3, cc.cl, cc.no f (List.mem_of_getElem? hk), by omega, ?_⟩
    exact q.nx ρ _ σ I2 _ h (A2.write e (.ins p1 cc (by rw [p2]; exact Rps.set (r1.mono e2) j r))) (e1.trans e2) (S.rs.mono (e1.trans e2))⟩⟩
end

/-! ### isinstance -/
def withTy (L : Led) (x : DV) (q : Value → Prop) : Prop := match x with
  | .non => q (.type "NoneType")
  | .bl _ => q (.type "bool")
  | .int _ => q (.type "int")
  | .str _ => q (.type "str")
  | .lst _ => q (.type "list")
  | .tup _ => q (.type "tuple")
  | .ins C _ _ => q (.ref C)
  | .ref a => (∃ C dx ks ds, L a = some (.ins C dx ks ds) ∧ q (.ref C)) ∨ (∃ ds, L a = some (.lst ds) ∧ q (.type "list")) ∨ ∃ kvs, L a = some (.dK kvs) ∧ q (.type "dict")
  | _ => False
theorem withTy_ok {k : Kx} {I F H : Hp} {L : Led} {x : DV} {xv : V} {q : Value → Prop} (A : Ab k I L F H) (r : Rp k.K I x xv) (h : withTy L x q) : ∃ t, TyX k.K H xv t ∧ q t := by
  cases r <;> try exact h.elim
  case non => exact ⟨_, .base .non, h⟩
  case bl b => exact ⟨_, .base (.bl b), h⟩
  case int b => exact ⟨_, .base (.int b), h⟩
  case str b => exact ⟨_, .base (.str b), h⟩
  case lst a vs ds e r => exact ⟨_, .base (.lst (A.imm _ _ e)), h⟩
  case tup a vs ds e r =>
    rcases A.imm.t e with (e | ⟨o, e⟩) | ⟨o, its, n, e, hc, _⟩
    · exact ⟨_, .base (.tup e), h⟩
    · exact ⟨_, .fTuple e, h⟩
    · exact ⟨_, .kTuple e hc, h⟩
  case ins a C dx fs ks ds e q c r => exact ⟨_, .base (.ins (A.imm _ _ e) c.cl c.ty.ha c.ty.hn c.ty.htk c.ty.hm), h⟩
  case ref a =>
    rcases h with ⟨C, dx, ks, ds, e, h⟩ | ⟨ds, e, h⟩ | ⟨kvs, e, h⟩
    · obtain ⟨_, _, o, e2, r2⟩ := A.led _ _ e
      cases r2 with
      | ins q c r => exact ⟨_, .base (.ins e2 c.cl c.ty.ha c.ty.hn c.ty.htk c.ty.hm), h⟩
    · obtain ⟨_, _, o, e2, r2⟩ := A.led _ _ e
      cases r2 with
      | lst r => exact ⟨_, .base (.lst e2), h⟩
    · obtain ⟨_, _, o, e2, r2⟩ := A.led _ _ e
      cases r2 with
      | dK q r => exact ⟨_, .base (.dK e2), h⟩
def withCl (c : DV) (q : Value → Prop) : Prop := match c with
  | .ty n => q (.type n)
  | .ref C => q (.ref C)
  | _ => False
def bIsi (K : PySem.W.Frag) : AC := fun ds L P => match ds with
  | [x, c] => withTy L x fun t => withCl c fun u => ∃ b, PySem.W.kitOne K t u = some b ∧ P (.bl b) L
  | _ => False
theorem bIsi_ok {k : Kx} : ACl k (rIsi k.K) (bIsi k.K) := by
  intro I F H L ds vs P Q A r h q
  unfold bIsi at h
  split at h
  · obtain ⟨v, w, rfl, r1, r2⟩ := two_rp r
    obtain ⟨t, ht, h⟩ := withTy_ok A r1 h
    cases r2 <;> try exact h.elim
    case ty n =>
      obtain ⟨b, hb, h⟩ := h
      exact ⟨_, _, _, _, _, rfl, .ty _, ht, hb, here A (.bl _) h q⟩
    case ref C =>
      obtain ⟨b, hb, h⟩ := h
      exact ⟨_, _, _, _, _, rfl, .own _, ht, hb, here A (.bl _) h q⟩
  · exact h.elim
section
variable {X : Cx} {W : WX} {e e2 : Expr} {t : AA} {p pos : Pos}
theorem a_isi (hg : Gl X "isinstance") (hm : X.mg "isinstance" = none) (ha : PA X [e, e2] (cA X.kx W t)) (he : starEach [e, e2] X.env = (false, eval e X.env) :: starEach [e2] X.env := by rfl) (hpl : (backTo pos (starEach [e2] X.env)).any (·.1) = false := by rfl) :
    PE X (.Call (.Name "isinstance" p) [e, e2] [] pos) (cE X.kx W (aCB (bIsi X.K) t)) := a_callB call_isi bIsi_ok hg hm (by decide +kernel) ha (he := he) (hpl := hpl)
end

/-! ### statements -/
def aNext : AS := fun AD ρ L => AD.nx ρ L
def aSeq (t u : AS) : AS := fun AD ρ L => t { AD with nx := fun ρ1 L1 => u AD ρ1 L1 } ρ L
def aBrk : AS := fun AD ρ L => AD.bk ρ L
def aCnt : AS := fun AD ρ L => AD.ct ρ L
def aDrop (te : AE) : AS := fun AD ρ L => te ρ L (fun _ L1 => AD.nx ρ L1) AD.px
def aRet (te : AE) : AS := fun AD ρ L => te ρ L AD.rt AD.px
def aRetN : AS := fun AD _ L => AD.rt .non L
def aIf (c : AT) (t u : AS) : AS := fun AD ρ L => c ρ L (fun b L1 => (b = true → t AD ρ L1) ∧ (b = false → u AD ρ L1)) AD.px
def aSet (i : Nat) (te : AE) : AS := fun AD ρ L => te ρ L (fun d L1 => AD.nx (ρ.set i (some d)) L1) AD.px
/-- the data d are told otherwise from now on -/
def FrzD (k : Kx) (d : DV) (L : Led) (d2 : DV) (L2 : Led) : Prop := ∀ I F H v, Ab k I L F H → Rp k.K I d v → ∃ I2, Ex I I2 ∧ Ab k I2 L2 F H ∧ Rp k.K I2 d2 v
theorem FrzD.refl (k : Kx) (d : DV) (L : Led) : FrzD k d L d L := fun I F H v A r => ⟨I, Ex.refl I, A, r⟩
theorem FrzD.sub {k : Kx} {d : DV} {L L2 : Led} (s : Sub L2 L) : FrzD k d L d L2 := fun I F H v A r => ⟨I, Ex.refl I, A.sub s, r⟩
theorem FrzD.trans {k : Kx} {d1 d2 d3 : DV} {L1 L2 L3 : Led} (a : FrzD k d1 L1 d2 L2) (b : FrzD k d2 L2 d3 L3) : FrzD k d1 L1 d3 L3 := fun I F H v A r => by
  obtain ⟨I2, e2, A2, r2⟩ := a I F H v A r
  obtain ⟨I3, e3, A3, r3⟩ := b I2 F H v A2 r2
  exact ⟨I3, e2.trans e3, A3, r3⟩
theorem FrzD.lst {k : Kx} {a : Addr} {ds : List DV} {L : Led} (h : L a = some (.lst ds)) : FrzD k (.ref a) L (.lst ds) (delL L a) := fun I F H v A r => by
  cases r
  exact A.freeze h
theorem FrzD.ins {k : Kx} {a C dx : Addr} {ks : List Str} {ds : List DV} {L : Led} (h : L a = some (.ins C dx ks ds)) : FrzD k (.ref a) L (.ins C ks ds) (delL L a) := fun I F H v A r => by
  cases r
  exact A.freezeI h
/-- what came is told otherwise -/
def FrzP (k : Kx) (d : DV) (L : Led) (P : PD) : Prop := ∃ d2 L2, FrzD k d L d2 L2 ∧ P d2 L2
theorem FrzP.ok {k : Kx} {I F H : Hp} {L : Led} {d : DV} {v : V} {P : PD} {Q : VK} (A : Ab k I L F H) (r : Rp k.K I d v) (h : FrzP k d L P) (q : Q2 k I F P Q) : Q v H := by
  obtain ⟨d2, L2, z, h⟩ := h
  obtain ⟨I2, e2, A2, r2⟩ := z I F H v A r
  exact q _ _ _ _ _ h A2 e2 r2
def aFrz (k : Kx) (te : AE) : AE := fun ρ L P px => te ρ L (fun d L1 => FrzP k d L1 P) px
/-- the slots are told otherwise -/
def FrzS (k : Kx) (ρ : Sl) (L : Led) (ρ2 : Sl) (L2 : Led) : Prop := ∀ I F H σ, Ab k I L F H → RpS k.K I ρ σ → ∃ I2, Ex I I2 ∧ Ab k I2 L2 F H ∧ RpS k.K I2 ρ2 σ
theorem FrzS.refl (k : Kx) (ρ : Sl) (L : Led) : FrzS k ρ L ρ L := fun I F H σ A r => ⟨I, Ex.refl I, A, r⟩
theorem FrzS.sub {k : Kx} {ρ : Sl} {L L2 : Led} (s : Sub L2 L) : FrzS k ρ L ρ L2 := fun I F H σ A r => ⟨I, Ex.refl I, A.sub s, r⟩
theorem FrzS.trans {k : Kx} {d1 d2 d3 : Sl} {L1 L2 L3 : Led} (a : FrzS k d1 L1 d2 L2) (b : FrzS k d2 L2 d3 L3) : FrzS k d1 L1 d3 L3 := fun I F H v A r => by
  obtain ⟨I2, e2, A2, r2⟩ := a I F H v A r
  obtain ⟨I3, e3, A3, r3⟩ := b I2 F H v A2 r2
  exact ⟨I3, e2.trans e3, A3, r3⟩
theorem FrzS.lst {k : Kx} {a : Addr} {ds : List DV} {L : Led} {ρ : Sl} {i : Nat} (q : ρ[i]? = some (some (.ref a))) (h : L a = some (.lst ds)) : FrzS k ρ L (ρ.set i (some (.lst ds))) (delL L a) := fun I F H σ A r => by
  obtain ⟨I2, e2, A2, r2⟩ := A.freeze h
  refine ⟨I2, e2, A2, (r.mono e2).re q fun v z => ?_⟩
  cases z
  exact r2
theorem FrzS.forget {k : Kx} {L : Led} {ρ : Sl} (i : Nat) : FrzS k ρ L (ρ.set i none) L := fun I F H σ A r => by
  refine ⟨I, Ex.refl I, A, by rw [List.length_set]; exact r.1, fun j d q => ?_⟩
  by_cases hj : j = i
  · subst hj
    by_cases hl : j < ρ.length
    · rw [List.getElem?_set_self hl] at q; cases q
    · rw [List.getElem?_eq_none (by rw [List.length_set]; omega)] at q; cases q
  · rw [List.getElem?_set_ne (Ne.symm hj)] at q
    exact r.2 j d q
def aGh (k : Kx) (u : AS) : AS := fun AD ρ L => ∃ ρ2 L2, FrzS k ρ L ρ2 L2 ∧ u AD ρ2 L2
section
variable {X : Cx} {W : WX} {e : Expr} {te : AE} {t u : AS} {st : Stmt} {rest body orelse : List Stmt} {pos pos' : Pos} {c : Expr} {tc : AT}
theorem a_frz (h : PE X e (cE X.kx W te)) : PE X e (cE X.kx W (aFrz X.kx te)) := h.imp fun σ H Q ⟨I, L, F, ρ, P, px, S, h, q⟩ => ⟨I, L, F, ρ, _, px, S, h, fun d L1 v I1 H1 h1 A1 e1 r1 => h1.ok A1 r1 (q.mono e1)⟩
theorem b_gh (h : PSs X rest (cS X.kx W u)) : PSs X rest (cS X.kx W (aGh X.kx u)) := h.imp fun D σ H ⟨I, L, F, ρ, AD, S, ⟨ρ2, L2, z, h⟩, q⟩ => by
  obtain ⟨I2, e2, A2, r2⟩ := z I F H σ S.ab S.rs
  exact ⟨I2, L2, F, ρ2, AD, S.go2 A2 e2 r2, h, q.mono e2⟩
theorem b_nil : PSs X [] (cS X.kx W aNext) := pss_nil.imp fun D σ H ⟨I, L, F, ρ, AD, S, h, q⟩ => q.nx _ _ _ _ _ h S.ab (Ex.refl _) S.rs
theorem b_cons (h1 : PS X st (cS X.kx W t)) (h2 : PSs X rest (cS X.kx W u)) : PSs X (st :: rest) (cS X.kx W (aSeq t u)) :=
  (pss_cons h1 h2).imp fun D σ H ⟨I, L, F, ρ, AD, S, h, q⟩ => ⟨I, L, F, ρ, { AD with nx := fun ρ1 L1 => u AD ρ1 L1 }, ⟨S.ab, S.rs, S.xx⟩, h, ⟨fun ρ' L' σ' I' H' h' A' e' r' => ⟨I', L', F, ρ', AD, S.go2 A' e' r', h', q.mono e'⟩, q.rt, q.bk, q.ct⟩⟩
theorem b_one (h1 : PS X st (cS X.kx W t)) : PSs X [st] (cS X.kx W t) := pss_one h1
theorem s_pass : PS X (.Pass pos) (cS X.kx W aNext) := ps_pass.imp fun D σ H ⟨I, L, F, ρ, AD, S, h, q⟩ => q.nx _ _ _ _ _ h S.ab (Ex.refl _) S.rs
theorem s_break : PS X (.Break pos) (cS X.kx W aBrk) := ps_break.imp fun D σ H ⟨I, L, F, ρ, AD, S, h, q⟩ => q.bk _ _ _ _ _ h S.ab (Ex.refl _) S.rs
theorem s_continue : PS X (.Continue pos) (cS X.kx W aCnt) := ps_continue.imp fun D σ H ⟨I, L, F, ρ, AD, S, h, q⟩ => q.ct _ _ _ _ _ h S.ab (Ex.refl _) S.rs
theorem s_expr (he : PE X e (cE X.kx W te)) (hs : swapsWith e none pos.line X.env = pure false := by rfl) : PS X (.Expr e pos) (cS X.kx W (aDrop te)) :=
  (ps_expr he hs).imp fun D σ H ⟨I, L, F, ρ, AD, S, h, q⟩ => ⟨I, L, F, ρ, _, AD.px, S, h, fun d L1 v I1 H1 h1 A1 e1 r1 => q.nx _ _ _ _ _ h1 A1 e1 (S.rs.mono e1)⟩
theorem s_ret (he : PE X e (cE X.kx W te)) : PS X (.Return (some e) pos) (cS X.kx W (aRet te)) :=
  (ps_ret he).imp fun D σ H ⟨I, L, F, ρ, AD, S, h, q⟩ => ⟨I, L, F, ρ, _, AD.px, S, h, q.rt⟩
theorem s_retN : PS X (.Return none pos) (cS X.kx W aRetN) := ps_retN.imp fun D σ H ⟨I, L, F, ρ, AD, S, h, q⟩ => q.rt _ _ _ _ _ h S.ab (Ex.refl _) .non
theorem s_if (hc : PT X c (cT X.kx W tc)) (ha : PSs X body (cS X.kx W t)) (hb : PSs X orelse (cS X.kx W u)) : PS X (.If c body orelse pos) (cS X.kx W (aIf tc t u)) :=
  (ps_if hc ha hb).imp fun D σ H ⟨I, L, F, ρ, AD, S, h, q⟩ => ⟨I, L, F, ρ, _, AD.px, S, h, fun b L1 I1 H1 h1 A1 e1 => by
    cases b with
    | true => exact iteT ⟨I1, L1, F, ρ, AD, S.go A1 e1, h1.1 rfl, q.mono e1⟩
    | false => exact iteF ⟨I1, L1, F, ρ, AD, S.go A1 e1, h1.2 rfl, q.mono e1⟩⟩
theorem s_set {i : Nat} {x : Str} (hN : X.N.Nodup) (he : PE X e (cE X.kx W te)) (hi : X.N[i]? = some x := by rfl) (hx : Loc X.env.scope x := by first | exact Or.inl rfl | exact Or.inr rfl) (hs : swapsWith e (some (.Name x pos')) pos.line X.env = pure false := by rfl)
    (hf : X.fn x = true ∨ X.env.scope.names.lookup x = some .local := by first | exact .inl rfl | exact .inr rfl | assumption) : PS X (.Assign [.Name x pos'] e pos) (cS X.kx W (aSet i te)) :=
  (ps_set hN hi hx he hs hf).imp fun D σ H ⟨I, L, F, ρ, AD, S, h, q⟩ => ⟨I, L, F, ρ, _, AD.px, S, h, fun d L1 v I1 H1 h1 A1 e1 r1 => q.nx _ _ _ _ _ h1 A1 e1 ((S.rs.mono e1).set r1 i)⟩
/-- xs[i] = e -/
def oSetL (x y : DV) (d : DV) (L : Led) (q : Led → Prop) : Prop := match x, y with
  | .ref a, .int i => ∃ ds j, L a = some (.lst ds) ∧ ixN ds.length i = some j ∧ q (updL L a (.lst (ds.set j d)))
  | _, _ => False
def aSetIx (to ti tv : AE) : AS := fun AD ρ L => tv ρ L (fun d L1 => to ρ L1 (fun x L2 => ti ρ L2 (fun y L3 => oSetL x y d L3 (AD.nx ρ)) AD.px) AD.px) AD.px
theorem s_setIx {o i v : Expr} {to ti tv : AE} {p2 : Pos} (ho : PE X o (cE X.kx W to)) (hi : PE X i (cE X.kx W ti)) (hv : PE X v (cE X.kx W tv))
    (ha : ∀ w, assign (.Subscript o i p2) X.env w = (do
      let ov ← holding [w] (eval o X.env)
      let iv ← holding [w, ov] (eval i X.env)
      standAt p2
      holding [w, ov, iv] (setItem ov iv w)
      release [w, ov, iv] []) := by intro _; rfl) (hs : swapsWithSole [.Subscript o i p2] v pos.line X.env = pure false := by rfl) (hw : swappedStores [.Subscript o i p2] v X.env = pure none := by rfl)
    (h1 : (assignEach [.Subscript o i p2] X.env).map (·.2) = [assign (.Subscript o i p2) X.env] := by rfl) : PS X (.Assign [.Subscript o i p2] v pos) (cS X.kx W (aSetIx to ti tv)) :=
  (ps_asg hv (pg_sub ho hi set_list ha) hs hw h1).imp fun D σ H ⟨I, L, F, ρ, AD, S, h, q⟩ => ⟨I, L, F, ρ, _, AD.px, S, h, fun d L1 v I1 H1 h1 A1 e1 r1 => ⟨I1, L1, F, ρ, _, AD.px, S.go A1 e1, h1, fun x L2 xv I2 H2 h2 A2 e2 r2 => ⟨I2, L2, F, ρ, _, AD.px, S.go A2 (e1.trans e2), h2, fun y L3 yv I3 H3 h3 A3 e3 r3 => by
    unfold oSetL at h3
    split at h3
    · cases r2; cases r3
      obtain ⟨ds, j, e, hj, h3⟩ := h3
      obtain ⟨_, _, ob, e4, r4⟩ := A3.led _ _ e
      cases r4 with
      | lst r =>
      rw [r.length] at hj
      exact ⟨_, _, _, j, rfl, rfl, e4, hj, q.nx _ _ _ _ _ h3 (A3.write e (.lst (Rps.set (r1.mono (e2.trans e3)) j r))) ((e1.trans e2).trans e3) (S.rs.mono ((e1.trans e2).trans e3))⟩
    · exact h3.elim⟩⟩⟩
end
end AL
namespace AL
open PySem PySem.Spec PyProof.Rows L2

/-! ### promises over data and the ledger -/
/-- arguments, ledger; what is wanted of the value and ledger behind; of an exception's class and ledger -/
abbrev ASp := List DV → Led → PD → (Addr → Led → Prop) → Prop
def liftSp (k : Kx) (asp : ASp) : Sp := fun vs H Q E => ∃ ds I L F P R, Ab k I L F H ∧ Rps k.K I ds vs ∧ asp ds L P R ∧ Q2 k I F P Q ∧ ∀ c L' I' H', R c L' → Ab k I' L' F H' → Ex I I' → E (.ref c) none H'
/-- the slots at a def's entry -/
def startA (n : Nat) (ds : List DV) : Sl := ds.map some ++ List.replicate (n - ds.length) none
theorem startA_rp {K : PySem.W.Frag} {I : Hp} {N : List Str} {ds : List DV} {vs : List V} (r : Rps K I ds vs) : RpS K I (startA N.length ds) (L2.start N vs) := by
  unfold startA L2.start
  refine ⟨by simp [r.length], fun i d h => ?_⟩
  by_cases hi : i < ds.length
  · rw [List.getElem?_append_left (by simpa using hi), List.getElem?_map] at h
    cases e : ds[i]? with
    | none => rw [e] at h; cases h
    | some d0 =>
      rw [e] at h
      cases h
      obtain ⟨v, h1, h2⟩ := r.get e
      refine ⟨v, ?_, h2⟩
      rw [List.getElem?_append_left (by rw [List.length_map, ← r.length]; exact hi), List.getElem?_map, h1]
      rfl
  · rw [List.getElem?_append_right (by simpa using Nat.le_of_not_lt hi), List.getElem?_replicate] at h
    split at h <;> cases h
/-- a def by its body's derivation and its reading -/
theorem fun_ok {P : Program} {w : World} {K : PySem.W.Frag} {mg : Str → Option Value} {base : Heap} {x qual : Str} {st : Stmt} {f : Addr} {fd : FuncData} {N ps : List Str} {k : Nat} {asp : ASp} {tb : AS} (F : Fun K x qual st f fd) (S : FnScope N ps (defScope st))
    (len : ∀ ds L P R, asp ds L P R → ds.length = ps.length)
    (der : ∀ (cdv : Value) (A : Around) (outer : List Env) (s : Shared) (H : Hp) (E : XK), Room k (A.deeper (envOfC qual (defScope st) s.heap.objs.size f cdv)) →
      PSs (cxOf (L2.CX P w) P w K mg base N qual (defScope st) f cdv A outer s H E) (defBody st) (cS ⟨P, w, K⟩ (fun cls d _ H => E cls d H) tb))
    (read : ∀ ds L P R, asp ds L P R → tb ⟨fun _ L => P .non L, P, fun _ _ => False, fun _ _ => False, fun c _ L => R c L⟩ (startA N.length ds) L) : FnOk P w K mg base (L2.CX P w) (k + 1) f fd ps (liftSp ⟨P, w, K⟩ asp) := by
  refine F.okX S (fun vs H Q E ⟨ds, I, L, F, P, R, A, r, h, _, _⟩ => by rw [← r.length]; exact len ds L P R h) (fun cdv A outer s H vs Q E hr h => ?_)
  obtain ⟨ds, I, L, F0, P0, R, Ab0, r, h, q, qx⟩ := h
  refine ⟨_, der cdv A outer s H E hr, ⟨I, L, F0, _, _, ⟨Ab0, startA_rp r, fun c ρ' σ' L' I' H' h' A' e' _ => qx c L' I' H' h' A' e'⟩, read ds L P0 R h, ⟨fun ρ' L' σ' I' H' h' A' e' _ => q _ _ _ _ _ h' A' e' .non, q, fun _ _ _ _ _ z => z.elim, fun _ _ _ _ _ z => z.elim⟩⟩⟩

/-! ### calls -/
/-- arguments ahead of a call of g -/
def GoArgs (X : Cx) (es : List Expr) (t : TA) : Prop := ∀ (pos : Pos) (g : Addr) (first : List Value) (pins : List (Addr × Obj)) (s : Shared) (σ : L2.St) (H : Hp) (Q : Value → Shared → Prop), PySem.W.keepIn X.K (.ref g) = true → Inv X pins σ H s →
  t σ H (fun vs H1 => ∀ s1 us, Inv X pins σ H1 s1 → Vals vs us → wpAny (model X.prog X.w) X.A (call (.ref g) (first ++ us)) Q X.xe s1) →
  wpAny (model X.prog X.w) X.A (callWith pos (.ref g) first (backTo pos (starEach es X.env)) []) Q X.xe s
section
variable {X : Cx} {W : WX} {e o : Expr} {es : List Expr} {t : AA} {te : AE}
theorem args0 : GoArgs X [] (cA X.kx W aNil) := fun pos g first pins s σ H Q hk I h => by
  obtain ⟨I0, L, F, ρ, P, px, S, h, q⟩ := h
  exact PySem.W.callWith_K0 I.kIn hk (q _ _ _ _ _ h S.ab (Ex.refl _) .nil s [] I .nil)
theorem args1 (ha : PA X (e :: es) (cA X.kx W t)) (he : starEach (e :: es) X.env = (false, eval e X.env) :: starEach es X.env := by rfl) (hpl : ∀ pos, (backTo pos (starEach es X.env)).any (·.1) = false := by intro _; rfl) : GoArgs X (e :: es) (cA X.kx W t) := fun pos g first pins s σ H Q hk I h =>
  PySem.W.callWith_K (h₀ := X.base) I.ok.mod.kin hk (thn (ha.run pos pins s σ H _ I h) fun us s1 ⟨vs, H1, I1, r, q⟩ => ⟨I1.kIn, q s1 us I1 r⟩) he (hpl pos)

variable {k : Nat} {f C : Addr} {fd : FuncData} {ps : List Str} {asp : ASp} {x m : Str} {p pos apos : Pos} {ds0 : List Value} {dvs : List V} {dds : List DV}
theorem goes {pins : List (Addr × Obj)} {σ : L2.St} {H : Hp} {s : Shared} {Q : VK} {us : List Value} {vs : List V} {sp : Sp} {E : XK} (F : FnOk X.prog X.w X.K X.mg X.base (L2.CX X.prog X.w) k f fd ps sp) (hr : Room k X.A) (hb : Binds X.K fd ps ds0) (hd : Vals dvs ds0)
    (hx : PassesAt (L2.CX X.prog X.w) X σ E) (I : Inv X pins σ H s) (r : Vals vs us) (h : sp (vs ++ dvs) H Q E) : wpAny (model X.prog X.w) X.A (call (.ref f) us) (EP X pins σ Q) X.xe s :=
  run_fnSD (E := fun _ => E) F hr hb hd hx I r h
/-- the promise asked at the caller's state -/
theorem lift_at {k : Kx} {σ : L2.St} {H I : Hp} {L : Led} {F : Hp} {ρ : Sl} {px : PX} {P : PD} {Q : VK} {ds : List DV} {vs : List V} (S : Stt k W σ H I L F ρ px) (r : Rps k.K I ds vs) (h : asp ds L P fun c L' => px c ρ L') (q : Q2 k I F P Q) :
    liftSp k asp vs H Q (fun cls d H' => W cls d σ H') := ⟨ds, I, L, F, P, _, S.ab, r, h, q, fun c L' I' H' h' A' e' => S.xx c ρ σ L' I' H' h' A' e' (S.rs.mono e')⟩
def aCall (asp : ASp) (dds : List DV) (t : AA) : AE := fun ρ L P px => t ρ L (fun ds L1 => asp (ds ++ dds) L1 P fun c L' => px c ρ L') px
theorem a_call (F : FnOk X.prog X.w X.K X.mg X.base (L2.CX X.prog X.w) k f fd ps (liftSp X.kx asp)) (hr : Room k X.A) (hg : Gl X x) (hm : X.mg x = some (.ref f)) (hk : PySem.W.keepIn X.K (.ref f) = true) (hb : Binds X.K fd ps ds0) (hd : Vals dvs ds0) (hdd : ∀ I, Rps X.K I dds dvs) (tk : Takes X W) (ga : GoArgs X es (cA X.kx W t))
    (hdb : (x == ("__debug__" : Str)) = false := by decide) : PE X (.Call (.Name x p) es [] pos) (cE X.kx W (aCall asp dds t)) := by
  refine ⟨fun pins s σ H Q I h => ?_⟩
  obtain ⟨I0, L, F0, ρ, P, px, S, h, q⟩ := h
  refine wpAny_Call_Name_kw (ld_glob I hg hm ?_ hdb)
  refine ga pos f [] pins s σ H _ hk I ⟨I0, L, F0, ρ, _, px, S, h, fun ds L1 vs I1 H1 h1 A1 e1 r1 s1 us J r => ?_⟩
  exact goes F hr hb hd (passAt tk σ) J r (lift_at (S.go A1 e1) (r1.append (hdd _)) h1 (q.mono e1))

def isC (L : Led) (x : DV) (C : Addr) (q : Prop) : Prop := match x with
  | .ins D _ _ => D = C ∧ q
  | .ref a => ∃ dx ks ds, L a = some (.ins C dx ks ds) ∧ q
  | _ => False
theorem isC_ok {k : Kx} {I F H : Hp} {L : Led} {x : DV} {xv : V} {q : Prop} (A : Ab k I L F H) (r : Rp k.K I x xv) (h : isC L x C q) : ∃ a dx fs, xv = .ref a ∧ H a = some (.ins C dx fs) ∧ FOk k.K C (fs.map (·.1)) ∧ q := by
  cases r <;> try exact h.elim
  case ref a =>
    obtain ⟨dx, ks, ds, e, h⟩ := h
    obtain ⟨_, _, o, e2, r2⟩ := A.led a _ e
    cases r2 with
    | ins q c r => subst q; exact ⟨a, dx, _, rfl, e2, c, h⟩
  case ins a D dx fs ks ds e q c r =>
    obtain ⟨rfl, h⟩ := h
    subst q
    exact ⟨a, dx, fs, rfl, A.imm _ _ e, c, h⟩
theorem meth_no {K : PySem.W.Frag} {fs : List (Str × V)} (c : FOk K C (fs.map (·.1))) (hm : Meth K C m f) : fs.lookup m = none := by
  refine lookup_no fun z => ?_
  have h1 : PySem.W.findIn K (.ref C) m = some none := c.no m z
  rw [hm.at_] at h1
  cases h1
/-- o.m(..) -/
def aMeth (C : Addr) (asp : ASp) (dds : List DV) (te : AE) (t : AA) : AE := fun ρ L P px => te ρ L (fun x L1 => isC L1 x C (t ρ L1 (fun ds L2 => asp (x :: (ds ++ dds)) L2 P fun c L' => px c ρ L') px)) px
theorem a_meth {pl : Sem Bool} (he : PE X o (cE X.kx W te)) (c : Cls X.K C) (hm : Meth X.K C m f) (F : FnOk X.prog X.w X.K X.mg X.base (L2.CX X.prog X.w) k f fd ps (liftSp X.kx asp)) (hr : Room k X.A) (hb : Binds X.K fd ps ds0) (hd : Vals dvs ds0) (hdd : ∀ I, Rps X.K I dds dvs) (tk : Takes X W) (ga : GoArgs X es (cA X.kx W t))
    (ht : eval (.Call (.Attribute o m apos) es [] pos) X.env = (do
      let ov ← eval o X.env
      standAt apos.atName
      let (f, first) ← holding [ov] (getMethod ov m pl)
      callWith pos f first (backTo pos (starEach es X.env)) (backToKw pos (keywordEach [] X.env))) := by rfl) : PE X (.Call (.Attribute o m apos) es [] pos) (cE X.kx W (aMeth C asp dds te t)) := by
  refine ⟨fun pins s σ H Q I h => ?_⟩
  obtain ⟨I0, L, F0, ρ, P, px, S, h, q⟩ := h
  refine methcall_of he I ⟨I0, L, F0, ρ, _, px, S, h, fun xd L1 xv I1 H1 h1 A1 e1 r1 => ?_⟩ ht
  obtain ⟨a, dx, fs, rfl, ha, cc, h1⟩ := isC_ok A1 r1 h1
  refine ⟨a, C, dx, fs, f, rfl, ha, c, hm, meth_no cc hm, fun s1 J => ?_⟩
  refine ga pos f [.ref a] pins s1 σ H1 _ hm.kp J ⟨I1, L1, F0, ρ, _, px, S.go A1 e1, h1, fun ds L2 vs I2 H2 h2 A2 e2 r2 s2 us J2 r => ?_⟩
  exact goes (us := .ref a :: us) (vs := .ref a :: vs) F hr hb hd (passAt tk σ) J2 (.cons rfl r) (lift_at (S.go A2 (e1.trans e2)) (.cons (r1.mono e2) (r2.append (hdd _))) h2 (q.mono (e1.trans e2)))
/-- o.p, a property -/
def aProp (C : Addr) (asp : ASp) (te : AE) : AE := fun ρ L P px => te ρ L (fun x L1 => isC L1 x C (asp [x] L1 P fun _ _ => False)) px
theorem passN {X : Cx} : Passes (L2.CX X.prog X.w) X.nox (fun _ _ _ => False) := fun _ _ _ _ _ _ _ h => by
  obtain ⟨_, _, _, _, _, _, _, _, _, _, _, _, z⟩ := h
  exact z
theorem a_prop {pa g : Addr} (he : PE X e (cE X.kx W te)) (c : Cls X.K C) (hp : PropOf X.K C m pa g) (F : FnOk X.prog X.w X.K X.mg X.base (L2.CX X.prog X.w) k g fd ps (liftSp X.kx asp)) (hr : Room (k + 1) X.A) (hb : Binds X.K fd ps [])
    (hab : attributeBase e m X.env (eval e X.env) = eval e X.env := by rfl) : PE X (.Attribute e m pos) (cE X.kx W (aProp C asp te)) :=
  (pe_prop he c hp F hr hb .nil passN hab).imp fun σ H Q ⟨I, L, F, ρ, P, px, S, h, q⟩ => ⟨I, L, F, ρ, _, px, S, h, fun x L1 xv I1 H1 h1 A1 e1 r1 => by
    obtain ⟨a, dx, fs, rfl, ha, cc, h1⟩ := isC_ok A1 r1 h1
    exact ⟨a, dx, fs, rfl, ha, ⟨_, I1, L1, F, P, _, A1, .cons r1 .nil, h1, q.mono e1, fun c L' I' H' h' A' e' => h'.elim⟩⟩⟩
/-- C(..): mk tells of the arguments what the made instance is -/
def aMake (mk : ASp) (t : AA) : AE := fun ρ L P px => t ρ L (fun ds L1 => mk ds L1 P fun c L' => px c ρ L') px
/-- what __init__ promises makes what mk tells -/
def MkOk (k : Kx) (C : Addr) (asp mk : ASp) (dds : List DV) : Prop := ∀ ds L P R, mk ds L P R → ∀ x dx, L x = none → asp (.ref x :: (ds ++ dds)) (updL L x (.ins C dx [] [])) (fun v L2 => v = .non ∧ FrzP k (.ref x) L2 P) R
theorem made_ab {k : Kx} {I F H : Hp} {L : Led} {x dx : Addr} (A : Ab k I L F H) (c : FOk k.K C []) (hx : H x = none) (hd : H dx = none) (ne : dx ≠ x) : Ab k I (updL L x (.ins C dx [] [])) F (upd (upd H dx (.own x)) x (.ins C dx [])) := by
  have A1 : Ab k I L F (upd H dx (.own x)) := A.lost hd
  exact A1.newL (by rw [upd_ne (Ne.symm ne)]; exact hx) (.ins rfl c .nil)
theorem run_mk {pins : List (Addr × Obj)} {σ : L2.St} {H : Hp} {s : Shared} {Q : VK} {us : List Value} {vs : List V} {sp : Sp} {E : XK} (M : Mk X.K C f) (F : FnOk X.prog X.w X.K X.mg X.base (L2.CX X.prog X.w) k f fd ps sp) (hr : Room (k + 1) X.A) (hb : Binds X.K fd ps ds0) (hd : Vals dvs ds0)
    (hx : PassesAt (L2.CX X.prog X.w) X σ E) (I : Inv X pins σ H s) (r : Vals vs us)
    (h : ∀ x dx, H x = none → H dx = none → dx ≠ x → sp (.ref x :: (vs ++ dvs)) (upd (upd H dx (.own x)) x (.ins C dx [])) (fun v H2 => v = .non ∧ Q (.ref x) H2) E) : wpAny (model X.prog X.w) X.A (call (.ref C) us) (EP X pins σ Q) X.xe s := by
  obtain ⟨n, hn⟩ : ∃ n, n = s.heap.objs.size := ⟨_, rfl⟩
  have f0 : H n = none := I.hok.fresh (by rw [hn]; exact Nat.le_refl _)
  have f1 : H (n + 1) = none := I.hok.fresh (by rw [hn]; exact Nat.le_succ _)
  have hq := h (n + 1) n f1 f0 (Nat.ne_of_lt (Nat.lt_succ_self n))
  have J := Inv.made (C := C) I
  rw [← hn] at J
  have rr : Vals (V.ref (n + 1) :: (vs ++ dvs)) (Value.ref (n + 1) :: (us ++ ds0)) := .cons rfl (r.append hd)
  have hl : (Value.ref (n + 1) :: us ++ ds0).length = ps.length := by
    have e := F.len _ _ _ _ hq
    rw [rr.length] at e
    exact e
  subst hn
  refine wpAny_call (make_map (f := f) I.kIn M.makes M.init (beq_iff_eq.mp M.fn) (codeAny_mono (F.run _ X.stack _ _ ⟨Value.ref (s.heap.objs.size + 1) :: us, []⟩ _ _ _ E (hr.make C us []) (J.env0.make C us []) (hb _ (Value.ref (s.heap.objs.size + 1) :: us) J.kIn hl) rr hq) fun r s' z => ?_))
  cases r with
  | error e => exact hx pins _ _ e s' J z
  | ok fl =>
    cases fl with
    | ret u =>
      obtain ⟨v, H', J3, rv, ev, q3⟩ := J.after z
      subst ev
      exact ⟨rv, V.ref (s.heap.objs.size + 1), H', J3, (rfl : Value.ref _ = Value.ref _), q3⟩
    | next => exact z.elim
    | brk => exact z.elim
    | cont => exact z.elim
theorem a_make {mk : ASp} (M : Mk X.K C f) (c : FOk X.K C []) (F : FnOk X.prog X.w X.K X.mg X.base (L2.CX X.prog X.w) k f fd ps (liftSp X.kx asp)) (hmk : MkOk X.kx C asp mk dds) (hr : Room (k + 1) X.A) (hg : Gl X x) (hm : X.mg x = some (.ref C)) (hb : Binds X.K fd ps ds0) (hd : Vals dvs ds0) (hdd : ∀ I, Rps X.K I dds dvs) (tk : Takes X W) (ga : GoArgs X es (cA X.kx W t))
    (hdb : (x == ("__debug__" : Str)) = false := by decide) : PE X (.Call (.Name x p) es [] pos) (cE X.kx W (aMake mk t)) := by
  refine ⟨fun pins s σ H Q I h => ?_⟩
  obtain ⟨I0, L, F0, ρ, P, px, S, h, q⟩ := h
  refine wpAny_Call_Name_kw (ld_glob I hg hm ?_ hdb)
  refine ga pos C [] pins s σ H _ M.kp I ⟨I0, L, F0, ρ, _, px, S, h, fun ds L1 vs I1 H1 h1 A1 e1 r1 s1 us J r => ?_⟩
  refine run_mk M F hr hb hd (E := fun cls d H' => W cls d σ H') (passAt tk σ) J r fun x dx hx hdx ne => ?_
  have S1 : Stt X.kx W σ _ I1 (updL L1 x (.ins C dx [] [])) F0 ρ px := S.go (made_ab A1 c hx hdx ne) e1
  refine lift_at S1 (.cons (.ref x) (r1.append (hdd _))) (hmk ds L1 P _ h1 x dx (A1.freeL hx)) fun d L2 v I2 H2 z A2 e2 r2 => ?_
  obtain ⟨rfl, z⟩ := z
  cases r2
  exact ⟨rfl, z.ok A2 (.ref x) (q.mono (e1.trans e2))⟩
end

/-! ### raise -/
def aRaise (C : Addr) : AS := fun AD ρ L => ∃ L2, Sub L2 L ∧ AD.px C ρ L2
section
variable {X : Cx} {W : WX} {C : Addr} {x m : Str} {j : Nat} {p p2 pos pos' : Pos}
theorem s_raise {bmB : List Value} {B newId initId : String} (hc : X.calm = true) (tk : Takes X W) (F : ExcBaseFacts B newId initId bmB) (q : PySem.W.excIn X.K C bmB newId = true) (gC : X.mg x = some (.ref C)) (kC : PySem.W.keepIn X.K (.ref C) = true) (r : Raises X (.ref C)) (hg : Gl X x)
    (hdb : (x == ("__debug__" : Str)) = false := by decide) : PS X (.Raise (some (.Call (.Name x p) [.Constant (.str m) j p2] [] pos')) none pos) (cS X.kx W (aRaise C)) :=
  (ps_raise hc tk (pmk_own F q gC kC r hg hdb)).imp fun D σ H ⟨I, L, F, ρ, AD, S, ⟨L2, s, h⟩, q⟩ => S.xx C ρ σ L2 I H h (S.ab.sub s) (Ex.refl _) S.rs
end
end AL
namespace AL
open PySem PySem.Spec PyProof.Rows L2

/-! ### what a for walks: its items; what must stay -/
abbrev AI := Sl → Led → (List DV → (Led → Prop) → Led → Prop) → PX → Prop
structure ItOk (k : Kx) (J : It) (I0 : Hp) (items : List DV) (stay : Led → Prop) : Prop where
  stop : ∀ {I F H : Hp} {L : Led} (i : Nat), Ab k I L F H → Ex I0 I → stay L → items.length ≤ i → J.stop i H
  go : ∀ {I F H : Hp} {L : Led} (i : Nat) (d : DV), Ab k I L F H → Ex I0 I → stay L → items[i]? = some d → J.go i H
  yld : ∀ {I F H : Hp} {L : Led} (i : Nat) (d : DV) (x : V) (H' : Hp), Ab k I L F H → Ex I0 I → stay L → items[i]? = some d → J.yld i H x H' → ∃ I', Ab k I' L F H' ∧ Ex I I' ∧ Rp k.K I' d x
def cI (k : Kx) (W : WX) (t : AI) : TI := fun σ H R => ∃ I L F ρ P px, Stt k W σ H I L F ρ px ∧ t ρ L P px ∧ ∀ items stay L' J I' H', P items stay L' → Ab k I' L' F H' → Ex I I' → ItOk k J I' items stay → R J H'
def seqI (x : DV) (L : Led) (P : List DV → (Led → Prop) → Led → Prop) : Prop := match x with
  | .lst xs => P xs (fun _ => True) L
  | .tup xs => P xs (fun _ => True) L
  | .wl xs => P xs (fun _ => True) L
  | .ref a => ∃ ds, L a = some (.lst ds) ∧ P ds (fun L' => L' a = some (.lst ds)) L
  | _ => False
def iSeq (te : AE) : AI := fun ρ L P px => te ρ L (fun x L1 => seqI x L1 P) px
def rangeD (lo : Int) (n : Nat) : List DV := (List.range n).map fun i => DV.int (lo + (i : Nat))
def rng1 (ds : List DV) (L : Led) (P : List DV → (Led → Prop) → Led → Prop) : Prop := match ds with
  | [.int j] => (-(2 ^ 62) ≤ j ∧ j < 2 ^ 62) ∧ P (rangeD 0 j.toNat) (fun _ => True) L
  | _ => False
def rng2 (ds : List DV) (L : Led) (P : List DV → (Led → Prop) → Led → Prop) : Prop := match ds with
  | [.int i, .int j] => (-(2 ^ 62) ≤ i ∧ i < 2 ^ 62 ∧ -(2 ^ 62) ≤ j ∧ j < 2 ^ 62) ∧ P (rangeD i (j - i).toNat) (fun _ => True) L
  | _ => False
/-- range(i, j, -1) -/
def downD (lo : Int) (n : Nat) : List DV := (List.range n).map fun i => DV.int (lo - (i : Nat))
def rng3 (ds : List DV) (L : Led) (P : List DV → (Led → Prop) → Led → Prop) : Prop := match ds with
  | [.int i, .int j, .int (.negSucc 0)] => (-(2 ^ 62) ≤ i ∧ i < 2 ^ 62 ∧ -(2 ^ 62) ≤ j ∧ j < 2 ^ 62) ∧ P (downD i (i - j).toNat) (fun _ => True) L
  | _ => False
def iRng (r : List DV → Led → (List DV → (Led → Prop) → Led → Prop) → Prop) (ta : AA) : AI := fun ρ L P px => ta ρ L (fun ds L1 => r ds L1 P) px
def signs (z : Str) : List DV := z.cps.toList.map fun c => DV.str ⟨#[c]⟩
def iSig (te : AE) : AI := fun ρ L P px => te ρ L (fun x L1 => match x with
  | .str z => P (signs z) (fun _ => True) L1
  | _ => False) px
section
variable {k : Kx} {I0 : Hp} {a : Addr} {vs : List V} {ds : List DV}
theorem it_list (h : SqL k.K I0 a vs) (r : Rps k.K I0 ds vs) : ItOk k (Itl k.K a) I0 ds (fun _ => True) where
  stop i A e _ hi := ⟨vs, A.imm.l (e.l h), by rw [← r.length]; exact hi⟩
  go i d A e _ hd := let ⟨v, hv, _⟩ := r.get hd; ⟨vs, v, A.imm.l (e.l h), hv⟩
  yld i d x H' A e _ hd y := by
    obtain ⟨rfl, y⟩ := y
    obtain ⟨v, hv, rv⟩ := r.get hd
    have := y vs (A.imm.l (e.l h))
    rw [hv] at this; cases this
    exact ⟨_, A, Ex.refl _, rv.mono e⟩
theorem it_tup (h : SqT k.K I0 a vs) (r : Rps k.K I0 ds vs) : ItOk k (Itt k.K a) I0 ds (fun _ => True) where
  stop i A e _ hi := ⟨vs, A.imm.t (e.t h), by rw [← r.length]; exact hi⟩
  go i d A e _ hd := let ⟨v, hv, _⟩ := r.get hd; ⟨vs, v, A.imm.t (e.t h), hv⟩
  yld i d x H' A e _ hd y := by
    obtain ⟨rfl, y⟩ := y
    obtain ⟨v, hv, rv⟩ := r.get hd
    have := y vs (A.imm.t (e.t h))
    rw [hv] at this; cases this
    exact ⟨_, A, Ex.refl _, rv.mono e⟩
theorem it_led : ItOk k (Itl k.K a) I0 ds (fun L' => L' a = some (.lst ds)) where
  stop i A e st hi := by
    obtain ⟨_, _, o, e2, r2⟩ := A.led _ _ st
    cases r2 with
    | lst r => exact ⟨_, SqL.of e2, by rw [← r.length]; exact hi⟩
  go i d A e st hd := by
    obtain ⟨_, _, o, e2, r2⟩ := A.led _ _ st
    cases r2 with
    | lst r =>
      obtain ⟨v, hv, _⟩ := r.get hd
      exact ⟨_, v, SqL.of e2, hv⟩
  yld i d x H' A e st hd y := by
    obtain ⟨rfl, y⟩ := y
    obtain ⟨_, _, o, e2, r2⟩ := A.led _ _ st
    cases r2 with
    | lst r =>
      obtain ⟨v, hv, rv⟩ := r.get hd
      have := y _ (SqL.of e2)
      rw [hv] at this; cases this
      exact ⟨_, A, Ex.refl _, rv⟩
theorem rangeD_get {lo : Int} {n i : Nat} {d : DV} (h : (rangeD lo n)[i]? = some d) : i < n ∧ d = .int (lo + (i : Nat)) := by
  unfold rangeD at h
  rw [List.getElem?_map] at h
  by_cases hi : i < n
  · rw [List.getElem?_range hi] at h
    exact ⟨hi, (Option.some.inj h).symm⟩
  · rw [List.getElem?_eq_none (by simpa using Nat.le_of_not_lt hi)] at h; cases h
theorem rangeD_length (lo : Int) (n : Nat) : (rangeD lo n).length = n := by simp [rangeD]
theorem it_range {lo : Int} {n : Nat} : ItOk k (Itr lo n) I0 (rangeD lo n) (fun _ => True) where
  stop i A e _ hi := by rw [rangeD_length] at hi; exact hi
  go i d A e _ hd := (rangeD_get hd).1
  yld i d x H' A e _ hd y := by
    obtain ⟨rfl, rfl⟩ := y
    rw [(rangeD_get hd).2]
    exact ⟨_, A, Ex.refl _, .int _⟩
theorem it_signs {z : Str} : ItOk k (Its z) I0 (signs z) (fun _ => True) where
  stop i A e _ hi := by
    show z.cps.size ≤ i
    simpa [signs] using hi
  go i d A e _ hd := by
    have := (List.getElem?_eq_some_iff.mp hd).1
    show i < z.cps.size
    simpa [signs] using this
  yld i d x H' A e _ hd y := by
    obtain ⟨rfl, c, hc, rfl⟩ := y
    unfold signs at hd
    rw [List.getElem?_map, Array.getElem?_toList, hc] at hd
    cases hd
    exact ⟨_, A, Ex.refl _, .str _⟩
end
section
variable {X : Cx} {W : WX} {tg e a b : Expr} {te : AE} {ta : AA} {p pos : Pos}
/-- list or tuple, known when it has come -/
theorem pi_both {t : TE} (h : PE X e t) : PI X tg e (fun σ H R => t σ H fun x H1 => ∃ l, x = .ref l ∧ (((∃ xs, SqL X.K H1 l xs) ∧ R (Itl X.K l) H1) ∨ ((∃ xs, SqT X.K H1 l xs) ∧ R (Itt X.K l) H1))) := by
  refine ⟨fun pins s σ H R I hh => ?_⟩
  refine thn (h.run pins s σ H _ I hh) fun v s1 ⟨x, H1, I1, r1, l, ex, q⟩ => ?_
  subst ex
  cases r1
  have fresh : ∀ b ∈ [s1.heap.objs.size], FpOk X pins H1 b := fun b hb => by
    rw [List.mem_singleton.mp hb]
    exact I1.fpOk (Nat.le_refl _) (I1.hok.fresh (Nat.le_refl _))
  rcases q with ⟨⟨xs, hq⟩, q⟩ | ⟨⟨xs, hq⟩, q⟩
  · obtain ⟨its, rv, pl, hz⟩ := I1.list hq
    refine wpAny_pyIter_list pl.isList ⟨s1.heap.objs.size, [s1.heap.objs.size], _, _, H1, rfl, ?_, turn_list l _, ⟨_, Heap.get?_push_size _ rfl, rfl, rfl⟩, fresh, q⟩
    exact I1.kept (t' := s1.toks) fun b o z => Heap.get?_push_of_some _ z
  · obtain ⟨its, rv, pl, hz⟩ := I1.tuple hq
    refine wpAny_pyIter_tuple (show s1.heap.IsTuple l its.toArray from pl) ⟨s1.heap.objs.size, [s1.heap.objs.size], _, _, H1, rfl, ?_, turn_tuple l _, ⟨_, Heap.get?_push_size _ rfl, rfl, rfl⟩, fresh, q⟩
    exact I1.kept (t' := s1.toks) fun b o z => Heap.get?_push_of_some _ z
theorem i_seq (h : PE X e (cE X.kx W te)) : PI X tg e (cI X.kx W (iSeq te)) :=
  (pi_both h).imp fun σ H R ⟨I, L, F, ρ, P, px, S, h, q⟩ => ⟨I, L, F, ρ, _, px, S, h, fun x L1 xv I1 H1 h1 A1 e1 r1 => by
    cases r1 <;> try exact h1.elim
    case ref l =>
      obtain ⟨ds, hl, h1⟩ := h1
      obtain ⟨_, _, o, e2, r2⟩ := A1.led _ _ hl
      cases r2 with
      | lst r => exact ⟨l, rfl, .inl ⟨⟨_, SqL.of e2⟩, q _ _ _ _ _ _ h1 A1 e1 it_led⟩⟩
    case lst l vs ds hl r => exact ⟨l, rfl, .inl ⟨⟨_, SqL.of (A1.imm _ _ hl)⟩, q _ _ _ _ _ _ h1 A1 e1 (it_list (SqL.of hl) r)⟩⟩
    case wl l vs ds hl r => exact ⟨l, rfl, .inl ⟨⟨_, A1.imm.l hl⟩, q _ _ _ _ _ _ h1 A1 e1 (it_list hl r)⟩⟩
    case tup l vs ds hl r => exact ⟨l, rfl, .inr ⟨⟨_, A1.imm.t hl⟩, q _ _ _ _ _ _ h1 A1 e1 (it_tup hl r)⟩⟩⟩
theorem i_rng1 (hg : Gl X "range") (hm : X.mg "range" = none) (ha : PA X [a] (cA X.kx W ta)) (hs : starEach [a] X.env = [(false, eval a X.env)] := by rfl) : PI X tg (.Call (.Name "range" p) [a] [] pos) (cI X.kx W (iRng rng1 ta)) :=
  (pi_range1 hg hm ha hs).imp fun σ H R ⟨I, L, F, ρ, P, px, S, h, q⟩ => ⟨I, L, F, ρ, _, px, S, h, fun ds L1 vs I1 H1 h1 A1 e1 r1 => by
    unfold rng1 at h1
    split at h1
    · obtain ⟨v, rfl, r2⟩ := one_rp (k := X.kx) r1; cases r2
      exact ⟨_, rfl, h1.1.1, h1.1.2, q _ _ _ _ _ _ h1.2 A1 e1 it_range⟩
    · exact h1.elim⟩
theorem i_rng2 (hg : Gl X "range") (hm : X.mg "range" = none) (ha : PA X [a, b] (cA X.kx W ta)) (hs : starEach [a, b] X.env = [(false, eval a X.env), (false, eval b X.env)] := by rfl) (hs2 : starEach [b] X.env = [(false, eval b X.env)] := by rfl) : PI X tg (.Call (.Name "range" p) [a, b] [] pos) (cI X.kx W (iRng rng2 ta)) :=
  (pi_range2 hg hm ha hs hs2).imp fun σ H R ⟨I, L, F, ρ, P, px, S, h, q⟩ => ⟨I, L, F, ρ, _, px, S, h, fun ds L1 vs I1 H1 h1 A1 e1 r1 => by
    unfold rng2 at h1
    split at h1
    · obtain ⟨v, w, rfl, r2, r3⟩ := two_rp (k := X.kx) r1; cases r2; cases r3
      exact ⟨_, _, rfl, h1.1, q _ _ _ _ _ _ h1.2 A1 e1 it_range⟩
    · exact h1.elim⟩
theorem it_down {k : Kx} {I0 : Hp} {lo : Int} {n : Nat} : ItOk k (Itc lo (-1) n) I0 (downD lo n) (fun _ => True) where
  stop i A e _ hi := by
    show n ≤ i
    simpa [downD] using hi
  go i d A e _ hd := by
    show i < n
    simpa [downD] using (List.getElem?_eq_some_iff.mp hd).1
  yld i d x H' A e _ hd y := by
    obtain ⟨rfl, rfl⟩ := y
    unfold downD at hd
    rw [List.getElem?_map] at hd
    have hi : i < n := by
      by_cases hi : i < n
      · exact hi
      · rw [List.getElem?_eq_none (by simpa using Nat.le_of_not_lt hi)] at hd; cases hd
    rw [List.getElem?_range hi] at hd
    have ed : d = .int (lo - (i : Nat)) := (Option.some.inj hd).symm
    rw [ed, show lo - (i : Int) = lo + (i : Nat) * (-1) by omega]
    exact ⟨_, A, Ex.refl _, .int _⟩
theorem i_rng3 {c : Expr} (hg : Gl X "range") (hm : X.mg "range" = none) (ha : PA X [a, b, c] (cA X.kx W ta)) (hs : starEach [a, b, c] X.env = (false, eval a X.env) :: starEach [b, c] X.env := by rfl) (hpl : (backTo pos (starEach [b, c] X.env)).any (·.1) = false := by rfl) :
    PI X tg (.Call (.Name "range" p) [a, b, c] [] pos) (cI X.kx W (iRng rng3 ta)) :=
  (pi_range3 hg hm ha hs hpl).imp fun σ H R ⟨I, L, F, ρ, P, px, S, h, q⟩ => ⟨I, L, F, ρ, _, px, S, h, fun ds L1 vs I1 H1 h1 A1 e1 r1 => by
    unfold rng3 at h1
    split at h1
    · cases r1 with | cons r2 r1 => cases r1 with | cons r3 r1 => cases r1 with | cons r4 r1 =>
      cases r1; cases r2; cases r3; cases r4
      exact ⟨_, _, _, _, rfl, RgC.neg h1.1.1 h1.1.2.1 h1.1.2.2.1 h1.1.2.2.2, q _ _ _ _ _ _ h1.2 A1 e1 it_down⟩
    · exact h1.elim⟩
theorem i_sig (h : PE X e (cE X.kx W te)) : PI X tg e (cI X.kx W (iSig te)) :=
  (pi_str h).imp fun σ H R ⟨I, L, F, ρ, P, px, S, h, q⟩ => ⟨I, L, F, ρ, _, px, S, h, fun x L1 xv I1 H1 h1 A1 e1 r1 => by
    cases r1 <;> try exact h1.elim
    exact ⟨_, rfl, q _ _ _ _ _ _ h1 A1 e1 it_signs⟩⟩
/-- enumerate of a list -/
def enumD (ds : List DV) : List DV := ds.zipIdx.map fun p => DV.tup [.int (p.2 : Nat), p.1]
def iEnu (ta : AA) : AI := fun ρ L P px => ta ρ L (fun ds L1 => match ds with
  | [.lst xs] => P (enumD xs) (fun _ => True) L1
  | [.ref a] => ∃ xs, L1 a = some (.lst xs) ∧ P (enumD xs) (fun L' => L' a = some (.lst xs)) L1
  | _ => False) px
theorem enumD_get {ds : List DV} {i : Nat} {d : DV} (h : (enumD ds)[i]? = some d) : ∃ x, ds[i]? = some x ∧ d = .tup [.int (i : Nat), x] := by
  unfold enumD at h
  rw [List.getElem?_map, List.getElem?_zipIdx] at h
  cases e : ds[i]? with
  | none => rw [e] at h; cases h
  | some x =>
    rw [e] at h
    refine ⟨x, rfl, ?_⟩
    have := (Option.some.inj h).symm
    simpa using this
theorem enumD_length (ds : List DV) : (enumD ds).length = ds.length := by simp [enumD]
theorem pair_new {k : Kx} {I F H : Hp} {L : Led} {T : Addr} {i : Nat} {v : V} {x : DV} (A : Ab k I L F H) (h : H T = none) (r : Rp k.K I x v) : ∃ I', Ab k I' L F (upd H T (.tup [.int (i : Nat), v])) ∧ Ex I I' ∧ Rp k.K I' (.tup [.int (i : Nat), x]) (.ref T) :=
  ⟨_, A.newI h, Ex.new (A.freeI h), .tup (SqT.of upd_same) (.cons (.int _) (.cons (r.mono (Ex.new (A.freeI h))) .nil))⟩
theorem it_enum {k : Kx} {I0 : Hp} {a : Addr} {ds : List DV} {st : Led → Prop} (hh : ∀ {I F H : Hp} {L : Led}, Ab k I L F H → Ex I0 I → st L → ∃ vs, SqL k.K H a vs ∧ Rps k.K I ds vs) : ItOk k (Ite k.K a) I0 (enumD ds) st where
  stop i A e s hi := by
    obtain ⟨vs, h1, r⟩ := hh A e s
    exact ⟨vs, h1, by rw [← r.length]; simpa [enumD_length] using hi⟩
  go i d A e s hd := by
    obtain ⟨vs, h1, r⟩ := hh A e s
    obtain ⟨x, hx, _⟩ := enumD_get hd
    obtain ⟨v, hv, _⟩ := r.get hx
    exact ⟨vs, v, h1, hv⟩
  yld i d x H' A e s hd y := by
    obtain ⟨T, v, rfl, hT, rfl, y⟩ := y
    obtain ⟨vs, h1, r⟩ := hh A e s
    obtain ⟨z, hz, rfl⟩ := enumD_get hd
    obtain ⟨w, hw, rw'⟩ := r.get hz
    have := y vs h1
    rw [hw] at this; cases this
    exact pair_new A hT rw'
theorem i_enu {elts : List Expr} {kk : Nat} {tpos : Pos} (hg : Gl X "enumerate") (hm : X.mg "enumerate" = none) (ha : PA X [e] (cA X.kx W ta)) (hs : starEach [e] X.env = [(false, eval e X.env)] := by rfl) :
    PI X (.Tuple elts kk tpos) (.Call (.Name "enumerate" p) [e] [] pos) (cI X.kx W (iEnu ta)) :=
  (pi_enum hg hm ha hs).imp fun σ H R ⟨I, L, F, ρ, P, px, S, h, q⟩ => ⟨I, L, F, ρ, _, px, S, h, fun ds L1 vs I1 H1 h1 A1 e1 r1 => by
    split at h1
    · obtain ⟨v, rfl, r2⟩ := one_rp (k := X.kx) r1
      cases r2 with
      | lst hl r => exact ⟨_, _, rfl, SqL.of (A1.imm _ _ hl), q _ _ _ _ _ _ h1 A1 e1 (it_enum fun A e _ => ⟨_, SqL.of (A.imm _ _ (e _ _ hl)), r.mono e⟩)⟩
    · obtain ⟨v, rfl, r2⟩ := one_rp (k := X.kx) r1
      cases r2
      obtain ⟨xs, hl, h1⟩ := h1
      obtain ⟨_, _, o, e2, r2⟩ := A1.led _ _ hl
      cases r2 with
      | lst r =>
        refine ⟨_, _, rfl, SqL.of e2, q _ _ _ _ _ _ h1 A1 e1 (it_enum fun A e s => ?_)⟩
        obtain ⟨_, _, o, e3, r3⟩ := A.led _ _ s
        cases r3 with
        | lst r => exact ⟨_, SqL.of e3, r⟩
    · exact h1.elim⟩
end

/-! ### targets -/
abbrev AG := DV → Sl → Led → (Sl → Led → Prop) → Prop
abbrev AGs := List DV → Sl → Led → (Sl → Led → Prop) → Prop
def gN (i : Nat) : AG := fun d ρ L P => P (ρ.set i (some d)) L
/-- the slots js take the items -/
def setsA : List Nat → List DV → Sl → Sl
  | j :: js, d :: ds, ρ => setsA js ds (ρ.set j (some d))
  | _, _, ρ => ρ
def setsV : List Nat → List V → L2.St → L2.St
  | j :: js, d :: ds, ρ => setsV js ds (ρ.set j (some d))
  | _, _, ρ => ρ
def gT (js : List Nat) : AG := fun d ρ L P => match d with
  | .tup ds => ds.length = js.length ∧ P (setsA js ds ρ) L
  | _ => False
/-- the model's target and ours; vs: slots that a block forgets -/
structure GOk (X : Cx) (gc : TG) (ga : AG) (js : List Nat) : Prop where
  go : ∀ {k : Kx} {I F H : Hp} {L : Led} {σ : L2.St} {ρ : Sl} {d : DV} {v : V} {P : Sl → Led → Prop} {Q : L2.St → Hp → Prop}, k.K = X.K → Ab k I L F H → RpS k.K I ρ σ → Rp k.K I d v → ga d ρ L P →
    (∀ ρ' σ' (us : List V), P ρ' L → RpS k.K I ρ' σ' → σ' = setsV js us σ → Q σ' H) → gc v σ H Q
theorem gok_name {X : Cx} (i : Nat) : GOk X (L2.gName i) (gN i) [i] where
  go {k I F H L σ ρ d v P Q} _ A rs r h q := q _ _ [v] h (rs.set r i) rfl
theorem setsA_rp {K : PySem.W.Frag} {I : Hp} : ∀ {js : List Nat} {ds : List DV} {vs : List V} {ρ : Sl} {σ : L2.St}, Rps K I ds vs → RpS K I ρ σ → RpS K I (setsA js ds ρ) (setsV js vs σ)
  | [], _, _, _, _, _, h => by simpa [setsA, setsV] using h
  | j :: js, [], _, _, _, .nil, h => by simpa [setsA, setsV] using h
  | j :: js, _, _, _, _, .cons r rr, h => setsA_rp (js := js) rr (h.set r j)
/-- the model's target of several names -/
def gNames : List Nat → TGs
  | [] => L2.gNil
  | j :: js => L2.gCons (L2.gName j) (gNames js)
theorem gNames_go : ∀ {js : List Nat} {vs : List V} {σ : L2.St} {H : Hp} {Q : L2.St → Hp → Prop}, vs.length = js.length → Q (setsV js vs σ) H → gNames js vs σ H Q
  | [], [], _, _, _, _, q => ⟨rfl, q⟩
  | j :: js, v :: vs, _, _, _, h, q => ⟨v, vs, rfl, gNames_go (js := js) (by simpa using h) q⟩
theorem gok_tup {X : Cx} (js : List Nat) : GOk X (L2.gTup X.K js.length (gNames js)) (gT js) js where
  go {k I F H L σ ρ d v P Q} ek A rs r h q := by
    cases r <;> try exact h.elim
    rename_i a vs ds ht rr
    exact ⟨a, vs, rfl, by rw [← ek]; exact A.imm.t ht, by rw [← rr.length]; exact h.1, gNames_go (by rw [← rr.length]; exact h.1) (q _ _ vs h.2 (setsA_rp rr rs) rfl)⟩

/-! ### for -/
def aFor (ti : AI) (g : AG) (tb : AS) : AS := fun AD ρ L => ti ρ L (fun items stay L1 => ∃ Pv : Nat → Sl → Led → Prop, Pv 0 ρ L1 ∧ (∀ i ρ' L', Pv i ρ' L' → stay L') ∧
  (∀ i d ρ' L', items[i]? = some d → Pv i ρ' L' → g d ρ' L' fun ρ2 L2 => tb { AD with nx := Pv (i + 1), ct := Pv (i + 1), bk := AD.nx } ρ2 L2) ∧ ∀ ρ' L', Pv items.length ρ' L' → AD.nx ρ' L') AD.px
section
variable {X : Cx} {W : WX} {tg iter : Expr} {body : List Stmt} {ti : AI} {gc : TG} {ga : AG} {js : List Nat} {tb : AS} {pos : Pos}
theorem s_for (hp : PassesOwn (model X.prog X.w) X.A X.env X.xe) (hc : X.calm = true) (hi : PI X tg iter (cI X.kx W ti)) (hg : PG X tg gc) (ok : GOk X gc ga js) (hb : PSs X body (cS X.kx W tb)) (hs : ∀ x, foldedSetIterable iter X.env x = pure x := by intro _; rfl) :
    PS X (.For tg iter body [] pos) (cS X.kx W (aFor ti ga tb)) :=
  (ps_for hp hc hi hg hb hs).imp fun D σ H ⟨I, L, F, ρ, AD, S, h, q⟩ => ⟨I, L, F, ρ, _, AD.px, S, h, fun items stay L1 J I1 H1 ⟨Pv, p0, ps, pt, pd⟩ A1 e1 it => by
    refine ⟨fun i m σ' H' => m = items.length - i ∧ i ≤ items.length ∧ ∃ I' L' ρ', Ab X.kx I' L' F H' ∧ Ex I1 I' ∧ RpS X.K I' ρ' σ' ∧ Pv i ρ' L', ⟨_, rfl, Nat.zero_le _, I1, L1, ρ, A1, Ex.refl _, S.rs.mono e1, p0⟩, ?_⟩
    rintro i m σ' H' ⟨rfl, hi', I', L', ρ', A', e', r', p'⟩
    have e2 := e1.trans e'
    have hst := ps i ρ' L' p'
    by_cases hlt : i < items.length
    · refine .inr ⟨it.go i items[i] A' e' hst (List.getElem?_eq_getElem hlt), fun σ'' H'' => ∃ I'' L'' ρ'', Ab X.kx I'' L'' F H'' ∧ Ex I1 I'' ∧ RpS X.K I'' ρ'' σ'' ∧ Pv (i + 1) ρ'' L'', fun σ'' H'' z => ⟨items.length - (i + 1), by omega, rfl, hlt, z⟩, fun x H2 y => ?_⟩
      obtain ⟨I2, A2, e3, r2⟩ := it.yld i items[i] x H2 A' e' hst (List.getElem?_eq_getElem hlt) y
      refine ok.go (k := X.kx) rfl A2 (r'.mono e3) r2 (pt i _ ρ' L' (List.getElem?_eq_getElem hlt) p') fun ρ3 σ3 us h3 r3 _ => ?_
      have e4 := e'.trans e3
      have e5 := e1.trans e4
      refine ⟨I2, L', F, ρ3, { AD with nx := Pv (i + 1), ct := Pv (i + 1), bk := AD.nx }, ⟨A2, r3, S.xx.mono e5⟩, h3, ⟨fun ρ6 L6 σ6 I6 H6 h6 A6 e6 r6 => ⟨I6, L6, ρ6, A6, e4.trans e6, r6, h6⟩, q.rt.mono e5, q.nx.mono e5, fun ρ6 L6 σ6 I6 H6 h6 A6 e6 r6 => ⟨I6, L6, ρ6, A6, e4.trans e6, r6, h6⟩⟩⟩
    · have hi2 : i = items.length := by omega
      subst hi2
      exact .inl ⟨it.stop _ A' e' hst (Nat.le_refl _), q.nx _ _ _ _ _ (pd ρ' L' p') A' e2 r'⟩⟩

/-! ### list comprehensions -/
def wipeA (ρ : Sl) : List Nat → Sl
  | [] => ρ
  | v :: vs => (wipeA ρ vs).set v none
theorem wipeA_rp {K : PySem.W.Frag} {I : Hp} {ρ : Sl} {σ : L2.St} (h : RpS K I ρ σ) : ∀ vs : List Nat, RpS K I (wipeA ρ vs) (wipe σ vs)
  | [] => h
  | v :: vs => (wipeA_rp h vs).setNone v
theorem wipe_get (σ : L2.St) (i : Nat) : ∀ vs : List Nat, (wipe σ vs)[i]? = if i ∈ vs then (if i < σ.length then some none else none) else σ[i]?
  | [] => by simp [wipe]
  | v :: vs => by
    unfold wipe
    by_cases h : v = i
    · subst h
      rw [if_pos List.mem_cons_self]
      by_cases hl : v < σ.length
      · rw [if_pos hl, List.getElem?_set_self (by rw [wipe_length]; exact hl)]
      · rw [if_neg hl, List.getElem?_eq_none (by rw [List.length_set, wipe_length]; omega)]
    · rw [List.getElem?_set_ne h, wipe_get σ i vs]
      by_cases hm : i ∈ vs
      · rw [if_pos hm, if_pos (List.mem_cons_of_mem _ hm)]
      · rw [if_neg hm, if_neg (by simp only [List.mem_cons, not_or]; exact ⟨fun z => h z.symm, hm⟩)]
theorem setsV_len : ∀ (js : List Nat) (us : List V) (σ : L2.St), (setsV js us σ).length = σ.length
  | [], _, _ => rfl
  | _ :: _, [], _ => rfl
  | j :: js, u :: us, σ => by rw [setsV, setsV_len js us, List.length_set]
theorem setsV_out : ∀ (js : List Nat) (us : List V) (σ : L2.St) (i : Nat), i ∉ js → (setsV js us σ)[i]? = σ[i]?
  | [], _, _, _, _ => rfl
  | _ :: _, [], _, _, _ => rfl
  | j :: js, u :: us, σ, i, h => by
    simp only [List.mem_cons, not_or] at h
    rw [setsV, setsV_out js us _ i h.2, List.getElem?_set_ne (Ne.symm h.1)]
theorem wipe_sets (σ : L2.St) (js : List Nat) (us : List V) (vs : List Nat) (h : ∀ j ∈ js, j ∈ vs) : wipe (setsV js us (wipe σ vs)) vs = wipe σ vs := by
  apply List.ext_getElem?
  intro i
  rw [wipe_get, wipe_get, setsV_len, wipe_length]
  by_cases hm : i ∈ vs
  · rw [if_pos hm, if_pos hm]
  · rw [if_neg hm, if_neg hm, setsV_out js us _ i (fun z => hm (h i z)), wipe_get, if_neg hm]
def noPX : PX := fun _ _ _ => False
abbrev W0 : WX := fun _ _ _ _ => False
def aLc (ti : AI) (g : AG) (tt : AT) (te : AE) (vs : List Nat) : AE := fun ρ L P px => ti ρ L (fun items stay L1 => items.length < sizeLine ∧ ∃ Pv : Nat → List DV → Led → Prop, Pv 0 [] L1 ∧ (∀ i acc L', Pv i acc L' → stay L' ∧ acc.length ≤ i) ∧
  (∀ i d acc L', items[i]? = some d → Pv i acc L' → g d (wipeA ρ vs) L' fun ρ2 L2 => tt ρ2 L2 (fun b L3 => (b = true → te ρ2 L3 (fun y L4 => Pv (i + 1) (acc ++ [y]) L4) noPX) ∧ (b = false → Pv (i + 1) acc L3)) noPX) ∧ ∀ acc L', Pv items.length acc L' → newL acc L' P) px
def aYes : AT := fun _ L P _ => P true L
theorem t_yes {X : Cx} : PTs X [] (cT X.kx W0 aYes) := ⟨fun pins s σ H Q I h => by
  obtain ⟨I0, L, F, ρ, P, px, S, h, q⟩ := h
  exact pts_nil.run pins s σ H Q I (q _ _ _ _ h S.ab (Ex.refl _))⟩
theorem t_one {X : Cx} {c : Expr} {t : AT} (h : PT X c (cT X.kx W0 t)) : PTs X [c] (cT X.kx W0 t) := pts_one h
theorem hid_upd {k : Kx} {I F H : Hp} {L : Led} {D : Addr} {o o' : HO} (A : Ab k I L (upd F D o) H) : Ab k I L (upd F D o') (upd H D o') := by
  have hD : (upd F D o) D = some o := upd_same
  refine ⟨fun a u e => ?_, fun a u e => ?_, fun a m e => ?_, fun a u e => ?_⟩
  · have : a ≠ D := fun z => by
      subst z
      rw [A.sep _ _ hD] at e; cases e
    rw [upd_ne this]; exact A.imm a u e
  · by_cases z : a = D
    · subst z; rw [upd_same] at e ⊢; exact e
    · rw [upd_ne z] at e ⊢; exact A.frm a u (by rw [upd_ne z]; exact e)
  · obtain ⟨h1, h2, o2, h3, h4⟩ := A.led a m e
    have : a ≠ D := fun z => by subst z; rw [hD] at h2; cases h2
    exact ⟨h1, by rw [upd_ne this] at h2 ⊢; exact h2, o2, by rw [upd_ne this]; exact h3, h4⟩
  · by_cases z : a = D
    · subst z; exact A.sep _ _ hD
    · rw [upd_ne z] at e; exact A.sep a u (by rw [upd_ne z]; exact e)
theorem lc_go {k : Kx} {K : PySem.W.Frag} {W : WX} {σ : L2.St} {H : Hp} {Q : VK} {tt : AT} {te : AE} {vs : List Nat} (ek : k = X.kx) (ok : GOk X gc ga js) (hj : ∀ j ∈ js, j ∈ vs) (h : cE k W (aLc ti ga tt te vs) σ H Q) :
    tLc (cI k W ti) gc (cT k W0 tt) (cE k W0 te) vs σ H Q := by
  subst ek
  obtain ⟨I, L, F, ρ, P, px, S, h, q⟩ := h
  refine ⟨I, L, F, ρ, _, px, S, h, fun items stay L1 J I1 H1 ⟨hlen, Pv, p0, ps, pt, pd⟩ A1 e1 it D hD => ?_⟩
  have hF := A1.freeF hD
  refine ⟨fun i m H' => m = items.length - i ∧ i ≤ items.length ∧ ∃ I' L' acc av, Ab X.kx I' L' (upd F D (.lst av)) H' ∧ Ex I1 I' ∧ Rps X.K I' acc av ∧ Pv i acc L', ⟨_, rfl, Nat.zero_le _, I1, L1, [], [], A1.newF hD, Ex.refl _, .nil, p0⟩, ?_⟩
  rintro i m H' ⟨rfl, hi', I', L', acc, av, A', e', r', p'⟩
  obtain ⟨hst, hal⟩ := ps i acc L' p'
  by_cases hlt : i < items.length
  · refine .inr ⟨it.go i items[i] A' e' hst (List.getElem?_eq_getElem hlt), fun H'' => ∃ I'' L'' acc2 av2, Ab X.kx I'' L'' (upd F D (.lst av2)) H'' ∧ Ex I1 I'' ∧ Rps X.K I'' acc2 av2 ∧ Pv (i + 1) acc2 L'', fun H'' z => ⟨items.length - (i + 1), by omega, rfl, hlt, z⟩, fun x H2 y => ?_⟩
    obtain ⟨I2, A2, e3, r2⟩ := it.yld i items[i] x H2 A' e' hst (List.getElem?_eq_getElem hlt) y
    have e4 := e'.trans e3
    refine ok.go (k := X.kx) rfl A2 (wipeA_rp (S.rs.mono (e1.trans e4)) vs) r2 (pt i _ acc L' (List.getElem?_eq_getElem hlt) p') fun ρ3 σ3 us h3 r3 es => ⟨by rw [es]; exact wipe_sets σ js us vs hj, ?_⟩
    refine ⟨I2, L', upd F D (.lst av), ρ3, _, noPX, ⟨A2, r3, fun _ _ _ _ _ _ z => z.elim⟩, h3, fun b L5 I5 H5 h5 A5 e5 => ?_⟩
    cases b with
    | false => exact iteF ⟨I5, L5, acc, av, A5, e4.trans e5, r'.mono (e3.trans e5), h5.2 rfl⟩
    | true =>
      refine iteT ⟨I5, L5, upd F D (.lst av), ρ3, _, noPX, ⟨A5, r3.mono e5, fun _ _ _ _ _ _ z => z.elim⟩, h5.1 rfl, fun y L6 yv I6 H6 h6 A6 e6 r6 => ?_⟩
      refine ⟨av, A6.frm _ _ upd_same, by have := r'.length; omega, I6, L6, acc ++ [y], av ++ [yv], hid_upd A6, (e4.trans e5).trans e6, (r'.mono ((e3.trans e5).trans e6)).append (.cons r6 .nil), h6⟩
  · have hi2 : i = items.length := by omega
    subst hi2
    refine .inl ⟨it.stop _ A' e' hst (Nat.le_refl _), ?_⟩
    have hL : L' D = none := by
      cases z : L' D with
      | none => rfl
      | some mo =>
        obtain ⟨_, h2, _⟩ := A'.led _ _ z
        rw [upd_same] at h2; cases h2
    have A3 := A'.unhide hF r'
    rcases pd acc L' p' with h | h
    · exact q _ _ _ _ _ (h D hL) A3 (e1.trans e') (.ref D)
    · obtain ⟨I4, e4, A4, r4⟩ := A3.freeze updL_same
      rw [delL_updL hL] at A4
      exact q _ _ _ _ _ h A4 ((e1.trans e').trans e4) r4
theorem a_lc {elt tg iter : Expr} {ifs : List Expr} {scope : Scope} {own : List (Str × Nat)} {tt : AT} {te : AE} (hc : X.calm = true) (hN : X.N.Nodup) (hi : PI X tg iter (cI X.kx W ti)) (ok : BlkOk X.N X.env.scope scope own) (gk : GOk X gc ga js) (hj : ∀ j ∈ js, j ∈ own.map (·.2))
    (hg : ∀ (s : Shared) (H : Hp) (C : Addr) (cl : List (Str × Addr)) (fp : List Addr), PG (X.blk s H scope (compEnvC scope cl C X.env) fp) tg gc) (ht : ∀ (s : Shared) (H : Hp) (C : Addr) (cl : List (Str × Addr)) (fp : List Addr), PTs (X.blk s H scope (compEnvC scope cl C X.env) fp) ifs (cT X.kx W0 tt))
    (he : ∀ (s : Shared) (H : Hp) (C : Addr) (cl : List (Str × Addr)) (fp : List Addr), PE (X.blk s H scope (compEnvC scope cl C X.env) fp) elt (cE X.kx W0 te)) (hs : ∀ x, foldedSetIterable iter X.env x = pure x := by intro _; rfl) :
    PE X (.ListComp elt [⟨tg, iter, ifs, 0⟩] scope pos) (cE X.kx W (aLc ti ga tt te (own.map (·.2)))) := (pe_lc hc hN hi ok hg ht he hs).imp fun σ H Q h => lc_go (K := X.K) rfl gk hj h
theorem s_setLc {i : Nat} {y : Str} {py spos : Pos} {elt tg iter : Expr} {ifs : List Expr} {scope : Scope} {own : List (Str × Nat)} {tt : AT} {te : AE} (hc : X.calm = true) (hN : X.N.Nodup) (hy : X.N[i]? = some y) (hyl : X.env.scope.names.lookup y = some .local)
    (hsw : swapsWith (.ListComp elt [⟨tg, iter, ifs, 0⟩] scope pos) (some (.Name y py)) spos.line X.env = pure true) (hi : PI X tg iter (cI X.kx W ti)) (ok : BlkOk X.N X.env.scope scope own) (gk : GOk X gc ga js) (hj : ∀ j ∈ js, j ∈ own.map (·.2))
    (hg : ∀ (s : Shared) (H : Hp) (C : Addr) (cl : List (Str × Addr)) (fp : List Addr), PG (X.blk s H scope (compEnvC scope cl C X.env) fp) tg gc) (ht : ∀ (s : Shared) (H : Hp) (C : Addr) (cl : List (Str × Addr)) (fp : List Addr), PTs (X.blk s H scope (compEnvC scope cl C X.env) fp) ifs (cT X.kx W0 tt))
    (he : ∀ (s : Shared) (H : Hp) (C : Addr) (cl : List (Str × Addr)) (fp : List Addr), PE (X.blk s H scope (compEnvC scope cl C X.env) fp) elt (cE X.kx W0 te)) (hs : ∀ x, foldedSetIterable iter X.env x = pure x := by intro _; rfl) :
    PS X (.Assign [.Name y py] (.ListComp elt [⟨tg, iter, ifs, 0⟩] scope pos) spos) (cS X.kx W (aSet i (aLc ti ga tt te (own.map (·.2))))) :=
  (ps_setLc hc hN hy hyl hsw hi ok hg ht he hs).imp fun D σ H ⟨I, L, F, ρ, AD, S, h, q⟩ => lc_go (K := X.K) rfl gk hj ⟨I, L, F, ρ, _, AD.px, S, h, fun d L1 v I1 H1 h1 A1 e1 r1 => q.nx _ _ _ _ _ h1 A1 e1 ((S.rs.mono e1).set r1 i)⟩
end
end AL
namespace AL
open PySem PySem.Spec PyProof.Rows L2

/-! ### methods of lists of the ledger -/
abbrev AM := Addr → List DV → List DV → Led → PD → Prop
def AMt (k : Kx) (r : V → List V → Hp → VK → Prop) (ro : AM) : Prop := ∀ {I F H : Hp} {L : Led} {a : Addr} {xs ds : List DV} {us vs : List V} {P : PD} {Q : VK}, Ab k I L F H → L a = some (.lst xs) → H a = some (.lst us) → Rps k.K I xs us → Rps k.K I ds vs → ro a xs ds L P → Q2 k I F P Q → r (.ref a) vs H Q
/-- o.m(..), o a list that may change -/
def aLm (ro : AM) (te : AE) (t : AA) : AE := fun ρ L P px => te ρ L (fun x L1 => match x with
  | .ref a => (∃ ds, L1 a = some (.lst ds)) ∧ t ρ L1 (fun ds L2 => ∃ xs, L2 a = some (.lst xs) ∧ ro a xs ds L2 P) px
  | _ => False) px
section
variable {X : Cx} {W : WX} {o e : Expr} {es : List Expr} {te : AE} {t : AA} {name : Str} {apos cpos : Pos} {id : String} {r : V → List V → Hp → VK → Prop} {ro : AM}
theorem a_lm0 (pa : PySem.PlainAttrs "list") (slot : PySem.Slot "list" name id) (hty : typeOf (.builtin id) = pure (.type "method_descriptor")) (hm : MtR X id r) (hr : AMt X.kx r ro) (ho : PE X o (cE X.kx W te))
    (hbase : attributeBase o name X.env (eval o X.env) = eval o X.env := by rfl) (hline : (apos.endLine == cpos.line) = true := by rfl) : PE X (.Call (.Attribute o name apos) [] [] cpos) (cE X.kx W (aLm ro te aNil)) :=
  (pe_bm0 pa slot hty hm ho hbase hline).imp fun σ H Q ⟨I, L, F, ρ, P, px, S, h, q⟩ => ⟨I, L, F, ρ, _, px, S, h, fun x L1 xv I1 H1 h1 A1 e1 r1 => by
    cases r1 <;> try exact h1.elim
    obtain ⟨_, xs, e2, h2⟩ := h1
    obtain ⟨_, _, ob, e3, r3⟩ := A1.led _ _ e2
    cases r3 with
    | lst r => exact ⟨.inl ⟨rfl, _, SqL.of e3⟩, hr A1 e2 e3 r .nil h2 (q.mono e1)⟩⟩
theorem a_lm (pa : PySem.PlainAttrs "list") (slot : PySem.Slot "list" name id) (hty : typeOf (.builtin id) = pure (.type "method_descriptor")) (hm : MtR X id r) (hr : AMt X.kx r ro) (ho : PE X o (cE X.kx W te)) (ha : PA X (e :: es) (cA X.kx W t))
    (hbase : attributeBase o name X.env (eval o X.env) = eval o X.env := by rfl)
    (hfew : ((backTo cpos (starEach (e :: es) X.env)).all (fun x => !x.1) && (backToKw cpos (keywordEach [] X.env)).all (fun x => x.1.isSome) && decide ((e :: es).length + ([] : List Keyword).length + (if ([] : List Keyword).isEmpty then 0 else 1) < 30)) = true := by rfl)
    (hline : (apos.endLine == cpos.line) = true := by rfl) (hs : starEach (e :: es) X.env = (false, eval e X.env) :: starEach es X.env := by rfl) (hplain : (backTo cpos (starEach es X.env)).any (·.1) = false := by rfl) :
    PE X (.Call (.Attribute o name apos) (e :: es) [] cpos) (cE X.kx W (aLm ro te t)) :=
  (pe_bm pa slot hty hm ho ha hbase hfew hline hs hplain).imp fun σ H Q ⟨I, L, F, ρ, P, px, S, h, q⟩ => ⟨I, L, F, ρ, _, px, S, h, fun x L1 xv I1 H1 h1 A1 e1 r1 => by
    cases r1 <;> try exact h1.elim
    obtain ⟨⟨xs0, e0⟩, h1⟩ := h1
    obtain ⟨_, _, ob0, e3, r3⟩ := A1.led _ _ e0
    cases r3 with
    | lst r0 =>
    refine ⟨.inl ⟨rfl, _, SqL.of e3⟩, I1, L1, F, ρ, _, px, S.go A1 e1, h1, fun ds L2 vs I2 H2 ⟨xs, e2, h2⟩ A2 e4 r2 => ?_⟩
    obtain ⟨_, _, ob, e5, r5⟩ := A2.led _ _ e2
    cases r5 with
    | lst r => exact hr A2 e2 e5 r r2 h2 (q.mono (e1.trans e4))⟩
end
def mAppend : AM := fun a xs ds L P => match ds with
  | [d] => xs.length < sizeLine ∧ P .non (updL L a (.lst (xs ++ [d])))
  | _ => False
def mExtend : AM := fun a xs ds L P => match ds with
  | [y] => withL L y fun ys => xs.length + ys.length ≤ sizeLine ∧ P .non (updL L a (.lst (xs ++ ys)))
  | _ => False
def mPop : AM := fun a xs ds L P => match ds with
  | [] => ∃ d, xs[xs.length - 1]? = some d ∧ P d (updL L a (.lst xs.dropLast))
  | _ => False
def mReverse : AM := fun a xs ds L P => match ds with
  | [] => P .non (updL L a (.lst xs.reverse))
  | _ => False
def mClear : AM := fun a xs ds L P => match ds with
  | [] => P .non (updL L a (.lst []))
  | _ => False
section
variable {k : Kx}
theorem mAppend_ok : AMt k rAppend mAppend := by
  intro I F H L a xs ds us vs P Q A hl hh r rd h q
  unfold mAppend at h
  split at h
  · cases rd with | cons r1 rr => cases rr; exact ⟨a, us, _, rfl, rfl, hh, by rw [← r.length]; exact h.1, q _ _ _ _ _ h.2 (A.write hl (.lst (r.append (.cons r1 .nil)))) (Ex.refl _) .non⟩
  · exact h.elim
theorem mExtend_ok : AMt k rExtend mExtend := by
  intro I F H L a xs ds us vs P Q A hl hh r rd h q
  unfold mExtend at h
  split at h
  · cases rd with | cons r1 rr =>
    cases rr
    obtain ⟨b, ws, ys, rfl, hb, rb, hz, h⟩ := withL_ok A r1 h
    exact ⟨a, b, us, ws, rfl, rfl, hh, hb, by rw [← r.length, ← rb.length]; exact hz, q _ _ _ _ _ h (A.write hl (.lst (r.append rb))) (Ex.refl _) .non⟩
  · exact h.elim
theorem mPop_ok : AMt k rPop mPop := by
  intro I F H L a xs ds us vs P Q A hl hh r rd h q
  unfold mPop at h
  split at h
  · cases rd
    obtain ⟨d, hd, h⟩ := h
    obtain ⟨v, hv, rv⟩ := r.get hd
    exact ⟨a, us, v, rfl, rfl, hh, by rw [← r.length]; exact hv, q _ _ _ _ _ h (A.write hl (.lst r.dropLast)) (Ex.refl _) rv⟩
  · exact h.elim
theorem mReverse_ok : AMt k rReverse mReverse := by
  intro I F H L a xs ds us vs P Q A hl hh r rd h q
  unfold mReverse at h
  split at h
  · cases rd
    exact ⟨a, us, rfl, rfl, hh, q _ _ _ _ _ h (A.write hl (.lst r.reverse)) (Ex.refl _) .non⟩
  · exact h.elim
theorem mClear_ok : AMt k rClear mClear := by
  intro I F H L a xs ds us vs P Q A hl hh r rd h q
  unfold mClear at h
  split at h
  · cases rd
    exact ⟨a, us, rfl, rfl, hh, q _ _ _ _ _ h (A.write hl (.lst .nil)) (Ex.refl _) .non⟩
  · exact h.elim
end
section
variable {X : Cx} {W : WX} {o e : Expr} {te : AE} {t : AA} {apos cpos : Pos}
theorem a_append (ho : PE X o (cE X.kx W te)) (ha : PA X [e] (cA X.kx W t)) (hbase : attributeBase o "append" X.env (eval o X.env) = eval o X.env := by rfl)
    (hfew : ((backTo cpos (starEach [e] X.env)).all (fun x => !x.1) && (backToKw cpos (keywordEach [] X.env)).all (fun x => x.1.isSome) && decide ([e].length + ([] : List Keyword).length + (if ([] : List Keyword).isEmpty then 0 else 1) < 30)) = true := by rfl)
    (hline : (apos.endLine == cpos.line) = true := by rfl) (hs : starEach [e] X.env = (false, eval e X.env) :: starEach [] X.env := by rfl) : PE X (.Call (.Attribute o "append" apos) [e] [] cpos) (cE X.kx W (aLm mAppend te t)) :=
  a_lm PySem.F.plainAttrs_list PySem.F.slot_list_append PySem.F.type_list_append mt_append mAppend_ok ho ha hbase hfew hline hs
theorem a_extend (ho : PE X o (cE X.kx W te)) (ha : PA X [e] (cA X.kx W t)) (hbase : attributeBase o "extend" X.env (eval o X.env) = eval o X.env := by rfl)
    (hfew : ((backTo cpos (starEach [e] X.env)).all (fun x => !x.1) && (backToKw cpos (keywordEach [] X.env)).all (fun x => x.1.isSome) && decide ([e].length + ([] : List Keyword).length + (if ([] : List Keyword).isEmpty then 0 else 1) < 30)) = true := by rfl)
    (hline : (apos.endLine == cpos.line) = true := by rfl) (hs : starEach [e] X.env = (false, eval e X.env) :: starEach [] X.env := by rfl) : PE X (.Call (.Attribute o "extend" apos) [e] [] cpos) (cE X.kx W (aLm mExtend te t)) :=
  a_lm PySem.F.plainAttrs_list PySem.F.slot_list_extend PySem.F.type_list_extend mt_extend mExtend_ok ho ha hbase hfew hline hs
theorem a_pop (ho : PE X o (cE X.kx W te)) (hbase : attributeBase o "pop" X.env (eval o X.env) = eval o X.env := by rfl) (hline : (apos.endLine == cpos.line) = true := by rfl) : PE X (.Call (.Attribute o "pop" apos) [] [] cpos) (cE X.kx W (aLm mPop te aNil)) :=
  a_lm0 PySem.F.plainAttrs_list PySem.F.slot_list_pop PySem.F.type_list_pop mt_pop mPop_ok ho hbase hline
theorem a_reverse (ho : PE X o (cE X.kx W te)) (hbase : attributeBase o "reverse" X.env (eval o X.env) = eval o X.env := by rfl) (hline : (apos.endLine == cpos.line) = true := by rfl) : PE X (.Call (.Attribute o "reverse" apos) [] [] cpos) (cE X.kx W (aLm mReverse te aNil)) :=
  a_lm0 PySem.F.plainAttrs_list PySem.F.slot_list_reverse PySem.F.type_list_reverse mt_reverse mReverse_ok ho hbase hline
theorem a_clear (ho : PE X o (cE X.kx W te)) (hbase : attributeBase o "clear" X.env (eval o X.env) = eval o X.env := by rfl) (hline : (apos.endLine == cpos.line) = true := by rfl) : PE X (.Call (.Attribute o "clear" apos) [] [] cpos) (cE X.kx W (aLm mClear te aNil)) :=
  a_lm0 PySem.F.plainAttrs_list PySem.F.slot_list_clear PySem.F.type_list_clear mt_clear mClear_ok ho hbase hline
end

/-! ### built-ins over lists -/
def bAll : AC := fun ds L P => match ds with
  | [x] => withL L x fun ds => ∃ bs : List Bool, ds = bs.map DV.bl ∧ P (.bl (bs.all id)) L
  | _ => False
def bAny : AC := fun ds L P => match ds with
  | [x] => withL L x fun ds => ∃ bs : List Bool, ds = bs.map DV.bl ∧ P (.bl (bs.any id)) L
  | _ => False
def bSum : AC := fun ds L P => match ds with
  | [x] => withL L x fun ds => ∃ ns : List Int, ds = ns.map DV.int ∧ P (.int ns.sum) L
  | _ => False
def bMaxL : AC := fun ds L P => match ds with
  | [x] => withL L x fun ds => ∃ ns : List Int, ds = ns.map DV.int ∧ 0 < ns.length ∧ ∀ m, m ∈ ns → (∀ y, y ∈ ns → y ≤ m) → P (.int m) L
  | _ => False
def bMinL : AC := fun ds L P => match ds with
  | [x] => withL L x fun ds => ∃ ns : List Int, ds = ns.map DV.int ∧ 0 < ns.length ∧ ∀ m, m ∈ ns → (∀ y, y ∈ ns → m ≤ y) → P (.int m) L
  | _ => False
def bSorted : AC := fun ds L P => match ds with
  | [x] => withL L x fun ds => ∃ ns : List Int, ds = ns.map DV.int ∧ ∀ ns' : List Int, ns'.Perm ns → ns'.Pairwise (· ≤ ·) → newL (ns'.map DV.int) L P
  | _ => False
section
variable {k : Kx}
theorem bAll_ok : ACl k (rAll k.K) bAll := by
  intro I F H L ds vs P Q A r h q
  unfold bAll at h
  split at h
  · obtain ⟨v, rfl, r1⟩ := one_rp r
    obtain ⟨a, us, xs, rfl, ha, rr, bs, rfl, h⟩ := withL_ok A r1 h
    rw [rr.bls] at ha
    exact ⟨a, bs, rfl, SqL.of ha, here A (.bl _) h q⟩
  · exact h.elim
theorem bAny_ok : ACl k (rAny k.K) bAny := by
  intro I F H L ds vs P Q A r h q
  unfold bAny at h
  split at h
  · obtain ⟨v, rfl, r1⟩ := one_rp r
    obtain ⟨a, us, xs, rfl, ha, rr, bs, rfl, h⟩ := withL_ok A r1 h
    rw [rr.bls] at ha
    exact ⟨a, bs, rfl, SqL.of ha, here A (.bl _) h q⟩
  · exact h.elim
theorem bSum_ok : ACl k (rSum k.K) bSum := by
  intro I F H L ds vs P Q A r h q
  unfold bSum at h
  split at h
  · obtain ⟨v, rfl, r1⟩ := one_rp r
    obtain ⟨a, us, xs, rfl, ha, rr, bs, rfl, h⟩ := withL_ok A r1 h
    rw [rr.ints] at ha
    exact ⟨a, bs, rfl, SqL.of ha, here A (.int _) h q⟩
  · exact h.elim
theorem bMaxL_ok : ACl k (rMax k.K) bMaxL := by
  intro I F H L ds vs P Q A r h q
  unfold bMaxL at h
  split at h
  · obtain ⟨v, rfl, r1⟩ := one_rp r
    obtain ⟨a, us, xs, rfl, ha, rr, bs, rfl, hp, h⟩ := withL_ok A r1 h
    rw [rr.ints] at ha
    exact ⟨a, bs, rfl, SqL.of ha, hp, fun m h1 h2 => here A (.int _) (h m h1 h2) q⟩
  · exact h.elim
theorem bMinL_ok : ACl k (rMin k.K) bMinL := by
  intro I F H L ds vs P Q A r h q
  unfold bMinL at h
  split at h
  · obtain ⟨v, rfl, r1⟩ := one_rp r
    obtain ⟨a, us, xs, rfl, ha, rr, bs, rfl, hp, h⟩ := withL_ok A r1 h
    rw [rr.ints] at ha
    exact ⟨a, bs, rfl, SqL.of ha, hp, fun m h1 h2 => here A (.int _) (h m h1 h2) q⟩
  · exact h.elim
theorem bSorted_ok : ACl k (rSortedI k.K) bSorted := by
  intro I F H L ds vs P Q A r h q
  unfold bSorted at h
  split at h
  · obtain ⟨v, rfl, r1⟩ := one_rp r
    obtain ⟨a, us, xs, rfl, ha, rr, bs, rfl, h⟩ := withL_ok A r1 h
    rw [rr.ints] at ha
    exact ⟨a, bs, rfl, SqL.of ha, fun ns p h1 h2 hp => newL_ok A (Rps.of_ints ns) (h ns h1 h2) q p hp⟩
  · exact h.elim
end
section
variable {X : Cx} {W : WX} {e : Expr} {t : AA} {p pos : Pos}
theorem a_all (hc : X.calm = true) (hg : Gl X "all") (hm : X.mg "all" = none) (ha : PA X [e] (cA X.kx W t)) (he : starEach [e] X.env = (false, eval e X.env) :: starEach [] X.env := by rfl) : PE X (.Call (.Name "all" p) [e] [] pos) (cE X.kx W (aCB bAll t)) := a_callB (cr_all hc) bAll_ok hg hm (by decide +kernel) ha (he := he)
theorem a_any (hc : X.calm = true) (hg : Gl X "any") (hm : X.mg "any" = none) (ha : PA X [e] (cA X.kx W t)) (he : starEach [e] X.env = (false, eval e X.env) :: starEach [] X.env := by rfl) : PE X (.Call (.Name "any" p) [e] [] pos) (cE X.kx W (aCB bAny t)) := a_callB (cr_any hc) bAny_ok hg hm (by decide +kernel) ha (he := he)
theorem a_sum (hc : X.calm = true) (hg : Gl X "sum") (hm : X.mg "sum" = none) (ha : PA X [e] (cA X.kx W t)) (he : starEach [e] X.env = (false, eval e X.env) :: starEach [] X.env := by rfl) : PE X (.Call (.Name "sum" p) [e] [] pos) (cE X.kx W (aCB bSum t)) := a_callB (cr_sum hc) bSum_ok hg hm (by decide +kernel) ha (he := he)
theorem a_maxL (hc : X.calm = true) (hg : Gl X "max") (hm : X.mg "max" = none) (ha : PA X [e] (cA X.kx W t)) (he : starEach [e] X.env = (false, eval e X.env) :: starEach [] X.env := by rfl) : PE X (.Call (.Name "max" p) [e] [] pos) (cE X.kx W (aCB bMaxL t)) := a_callB (cr_max hc) bMaxL_ok hg hm (by decide +kernel) ha (he := he)
theorem a_minL (hc : X.calm = true) (hg : Gl X "min") (hm : X.mg "min" = none) (ha : PA X [e] (cA X.kx W t)) (he : starEach [e] X.env = (false, eval e X.env) :: starEach [] X.env := by rfl) : PE X (.Call (.Name "min" p) [e] [] pos) (cE X.kx W (aCB bMinL t)) := a_callB (cr_min hc) bMinL_ok hg hm (by decide +kernel) ha (he := he)
theorem a_sorted (hg : Gl X "sorted") (hm : X.mg "sorted" = none) (ha : PA X [e] (cA X.kx W t)) (he : starEach [e] X.env = (false, eval e X.env) :: starEach [] X.env := by rfl) : PE X (.Call (.Name "sorted" p) [e] [] pos) (cE X.kx W (aCB bSorted t)) := a_callB cr_sortedI bSorted_ok hg hm (by decide +kernel) ha (he := he)
end

/-! ### while -/
def aWhile (c : AT) (tb : AS) : AS := fun AD ρ L => ∃ Wh : Nat → Sl → Led → Prop, (∃ m, Wh m ρ L) ∧ ∀ m ρ' L', Wh m ρ' L' → c ρ' L' (fun b L1 => (b = true → tb { AD with nx := fun ρ2 L2 => ∃ m', m' < m ∧ Wh m' ρ2 L2, ct := fun ρ2 L2 => ∃ m', m' < m ∧ Wh m' ρ2 L2, bk := AD.nx } ρ' L1) ∧ (b = false → AD.nx ρ' L1)) AD.px

/-! ### try -/
structure Caught (K : PySem.W.Frag) (c : Addr) (cc : Value) (b : Bool) : Prop where
  ex : ExcC K c
  is : PySem.W.exmOne K (.ref c) cc = some b
def aTryO (K : PySem.W.Frag) (cc : Value) (suite : Addr → AS) (tb : AS) : AS := fun AD ρ L => tb { AD with px := fun c ρ' L' => ∃ b, Caught K c cc b ∧ (b = true → suite c { AD with px := noPX } ρ' L') ∧ (b = false → AD.px c ρ' L') } ρ L
/-- .. as the name in slot i -/
def aTryA (K : PySem.W.Frag) (cc : Value) (i : Nat) (suite : Addr → Addr → AS) (tb : AS) : AS := fun AD ρ L => tb { AD with px := fun c ρ' L' => ∃ b, Caught K c cc b ∧ (b = true → ∀ a, suite c a { AD with nx := fun ρ2 L2 => AD.nx (ρ2.set i none) L2, bk := fun ρ2 L2 => AD.bk (ρ2.set i none) L2, ct := fun ρ2 L2 => AD.ct (ρ2.set i none) L2, px := noPX } (ρ'.set i (some (.ref a))) L') ∧ (b = false → AD.px c ρ' L') } ρ L
/-- the suite's text, for an exception of a known class -/
def suiteT (k : Kx) (t : Addr → AS) (cls : Value) (d : Option Addr) : TS := fun D σ H => ∃ c, cls = .ref c ∧ d = none ∧ ExcC k.K c ∧ cS k W0 (t c) D σ H
theorem suite_of {X : Cx} {sts : List Stmt} {k : Kx} {t : Addr → AS} {cls : Value} {d : Option Addr} (h : ∀ c, cls = .ref c → d = none → ExcC k.K c → PSs X sts (cS k W0 (t c))) : PSs X sts (suiteT k t cls d) :=
  ⟨fun pins s σ H D I ⟨c, e1, e2, e3, q⟩ => (h c e1 e2 e3).run pins s σ H D I q⟩
theorem S2.unslot {k : Kx} {I F : Hp} {P : Sl → Led → Prop} {Q : L2.St → Hp → Prop} (h : S2 k I F P Q) (i : Nat) : S2 k I F (fun ρ L => P (ρ.set i none) L) (fun σ H => Q (σ.set i none) H) :=
  fun ρ' L' σ' I' H' p A e r => h _ _ _ _ _ p A e (r.setNone i)
section
variable {X : Cx} {W : WX} {x n : Str} {cc : Value} {i : Nat} {body suite : List Stmt} {b₀ : Stmt} {np pos pos' : Pos} {tb : AS}
theorem s_tryO {ts : Addr → AS} (hs : X.stack = X.env :: X.outer) (hf : X.env.frame = some X.env.locals) (hc : Names X x cc) (tk : Takes X W)
    (hb : ∀ (W' : WX) (pn : List (Addr × Obj)) (xe : Value → Shared → Prop), Takes (X.tr pn xe) W' → PassesOwn (model X.prog X.w) X.A X.env xe → PSs (X.tr pn xe) body (cS X.kx W' tb))
    (hsu : ∀ (a : Addr) (oe : Obj) (c : Addr) (pn : List (Addr × Obj)), ExcC X.K c → Zc (.ref c) none oe → (∃ vs, oe.data = .fields vs) → PSs (X.suite a ((a, oe) :: pn)) (b₀ :: suite) (cS X.kx W0 (ts c))) :
    PS X (.Try body [.ExceptHandler (some (.Name x np)) none (b₀ :: suite) pos'] [] [] pos) (cS X.kx W (aTryO X.K cc ts tb)) := by
  refine (ps_try_only (tb := fun W' => cS X.kx W' tb) (ts := fun a cls d => suiteT X.kx ts cls d) hs hf hc tk hb (fun a oe cls d pn hz hv => suite_of fun c e1 e2 e3 => by subst e1; subst e2; exact hsu a oe c pn e3 hz hv)).imp ?_
  rintro D σ H ⟨I, L, F, ρ, AD, S, h, q⟩
  refine ⟨I, L, F, ρ, _, ⟨S.ab, S.rs, ?_⟩, h, q.nx, q.rt, q.bk, q.ct⟩
  rintro c ρ' σ' L' I' H' ⟨b, hc, h1, h2⟩ A e r
  exact ⟨b, hc.is, fun hb a ha => ⟨c, rfl, rfl, hc.ex, I', L', F, ρ', { AD with px := noPX }, ⟨A, r, fun _ _ _ _ _ _ z => z.elim⟩, h1 hb, (q.mono e).nx, (q.mono e).rt, (q.mono e).bk, (q.mono e).ct⟩, fun hb => S.xx _ _ _ _ _ _ (h2 hb) A e r⟩
theorem s_tryA {ts : Addr → Addr → AS} (hs : X.stack = X.env :: X.outer) (hf : X.env.frame = some X.env.locals) (hN : X.N.Nodup) (hi : X.N[i]? = some n) (hln : X.env.kindOf n = some .local) (hc : Names X x cc) (tk : Takes X W)
    (hb : ∀ (W' : WX) (pn : List (Addr × Obj)) (xe : Value → Shared → Prop), Takes (X.tr pn xe) W' → PassesOwn (model X.prog X.w) X.A X.env xe → PSs (X.tr pn xe) body (cS X.kx W' tb))
    (hsu : ∀ (a : Addr) (oe : Obj) (c : Addr) (pn : List (Addr × Obj)), ExcC X.K c → Zc (.ref c) none oe → (∃ vs, oe.data = .fields vs) → PSs (X.suite a ((a, oe) :: pn)) (b₀ :: suite) (cS X.kx W0 (ts c a))) :
    PS X (.Try body [.ExceptHandler (some (.Name x np)) (some n) (b₀ :: suite) pos'] [] [] pos) (cS X.kx W (aTryA X.K cc i ts tb)) := by
  refine (ps_try_as (tb := fun W' => cS X.kx W' tb) (ts := fun a cls d => suiteT X.kx (fun c => ts c a) cls d) hs hf hN hi hln hc tk hb (fun a oe cls d pn hz hv => suite_of fun c e1 e2 e3 => by subst e1; subst e2; exact hsu a oe c pn e3 hz hv)).imp ?_
  rintro D σ H ⟨I, L, F, ρ, AD, S, h, q⟩
  refine ⟨I, L, F, ρ, _, ⟨S.ab, S.rs, ?_⟩, h, q.nx, q.rt, q.bk, q.ct⟩
  rintro c ρ' σ' L' I' H' ⟨b, hc, h1, h2⟩ A e r
  refine ⟨b, hc.is, fun hb a ha => ⟨c, rfl, rfl, hc.ex, I', L', F, _, { AD with nx := fun ρ2 L2 => AD.nx (ρ2.set i none) L2, bk := fun ρ2 L2 => AD.bk (ρ2.set i none) L2, ct := fun ρ2 L2 => AD.ct (ρ2.set i none) L2, px := noPX }, ⟨A, r.set (.ref a) i, fun _ _ _ _ _ _ z => z.elim⟩, h1 hb a, (q.mono e).nx.unslot i, (q.mono e).rt, (q.mono e).bk.unslot i, (q.mono e).ct.unslot i⟩, fun hb => S.xx _ _ _ _ _ _ (h2 hb) A e r⟩
/-- isinstance(e, C), e the exception held at a -/
def bIsE (K : PySem.W.Frag) (D a : Addr) : AC := fun ds L P => match ds with
  | [.ref b, c] => b = a ∧ withCl c fun u => ∃ r, PySem.W.kitOne K (.ref D) u = some r ∧ P (.bl r) L
  | _ => False
theorem bIsE_ok {k : Kx} {D a : Addr} : ACl k (rIsE k.K D a) (bIsE k.K D a) := by
  intro I F H L ds vs P Q A r h q
  unfold bIsE at h
  split at h
  · obtain ⟨v, w, rfl, r1, r2⟩ := two_rp r
    obtain ⟨rfl, h⟩ := h
    cases r1
    cases r2 <;> try exact h.elim
    case ty m =>
      obtain ⟨b, hb, h⟩ := h
      exact ⟨_, _, b, rfl, fun u z => z, hb, here A (.bl _) h q⟩
    case ref C =>
      obtain ⟨b, hb, h⟩ := h
      exact ⟨_, _, b, rfl, fun u z => z, hb, here A (.bl _) h q⟩
  · exact h.elim
theorem a_isE {a D : Addr} {oe : Obj} {pn : List (Addr × Obj)} {e e2 : Expr} {t : AA} {p : Pos} (C : ExcC X.K D) (hz : Zc (.ref D) none oe) (hv : ∃ vs, oe.data = .fields vs) (hg : Gl (X.suite a ((a, oe) :: pn)) "isinstance") (hm : X.mg "isinstance" = none) (ha : PA (X.suite a ((a, oe) :: pn)) [e, e2] (cA X.kx W t))
    (he : starEach [e, e2] X.env = (false, eval e X.env) :: starEach [e2] X.env := by rfl) (hpl : (backTo pos (starEach [e2] X.env)).any (·.1) = false := by rfl) : PE (X.suite a ((a, oe) :: pn)) (.Call (.Name "isinstance" p) [e, e2] [] pos) (cE X.kx W (aCB (bIsE X.K D a) t)) :=
  a_callB (X := X.suite a ((a, oe) :: pn)) (call_isE C hz hv) bIsE_ok hg hm (by decide +kernel) ha (he := he) (hpl := hpl)
theorem s_while {c : Expr} {tc : AT} (hp : PassesOwn (model X.prog X.w) X.A X.env X.xe) (hc : PT X c (cT X.kx W tc)) (hb : PSs X body (cS X.kx W tb)) : PS X (.While c body [] pos) (cS X.kx W (aWhile tc tb)) :=
  (ps_while hp hc hb).imp fun D σ H ⟨I, L, F, ρ, AD, S, ⟨Wh, ⟨m0, w0⟩, turn⟩, q⟩ => by
    refine ⟨fun m σ' H' => ∃ I' L' ρ', Ab X.kx I' L' F H' ∧ Ex I I' ∧ RpS X.K I' ρ' σ' ∧ Wh m ρ' L', ⟨m0, I, L, ρ, S.ab, Ex.refl _, S.rs, w0⟩, ?_⟩
    rintro m σ' H' ⟨I', L', ρ', A', e', r', w'⟩
    refine ⟨I', L', F, ρ', _, AD.px, ⟨A', r', S.xx.mono e'⟩, turn m ρ' L' w', fun b L1 I1 H1 h1 A1 e1 => ?_⟩
    have e2 := e'.trans e1
    cases b with
    | false => exact iteF (q.nx _ _ _ _ _ (h1.2 rfl) A1 e2 (r'.mono e1))
    | true =>
      refine iteT ⟨fun σ2 H2 => ∃ m', m' < m ∧ ∃ I' L' ρ', Ab X.kx I' L' F H2 ∧ Ex I I' ∧ RpS X.K I' ρ' σ2 ∧ Wh m' ρ' L', fun σ2 H2 ⟨m', l, z⟩ => ⟨m', l, z⟩, I1, L1, F, ρ', { AD with nx := fun ρ2 L2 => ∃ m', m' < m ∧ Wh m' ρ2 L2, ct := fun ρ2 L2 => ∃ m', m' < m ∧ Wh m' ρ2 L2, bk := AD.nx }, ⟨A1, r'.mono e1, S.xx.mono e2⟩, h1.1 rfl, ?_⟩
      exact ⟨fun ρ3 L3 σ3 I3 H3 ⟨m', l, z⟩ A3 e3 r3 => ⟨m', l, I3, L3, ρ3, A3, e2.trans e3, r3, z⟩, q.rt.mono e2, q.nx.mono e2, fun ρ3 L3 σ3 I3 H3 ⟨m', l, z⟩ A3 e3 r3 => ⟨m', l, I3, L3, ρ3, A3, e2.trans e3, r3, z⟩⟩
end
end AL
namespace AL
open PySem PySem.Spec PyProof.Rows L2

theorem nft {p : Prop} (h : false = true) : p := by cases h
theorem ntf {p : Prop} (h : true = false) : p := by cases h
def aNotB (te : AE) : AE := fun ρ L P px => te ρ L (fun d L1 => match d with
  | .bl b => P (.bl (!b)) L1
  | _ => False) px
section
variable {X : Cx} {W : WX} {a b e : Expr} {ta tb te : AE} {pos p2 : Pos}
theorem a_notB (ha : PE X a (cE X.kx W ta)) : PE X (.UnaryOp .Not a pos) (cE X.kx W (aNotB ta)) :=
  (pe_not ha).imp fun σ H Q ⟨I, L, F, ρ, P, px, S, h, q⟩ => ⟨I, L, F, ρ, _, px, S, h, fun d L1 v I1 H1 h1 A1 e1 r1 => by
    cases d <;> first | exact h1.elim | skip
    cases r1
    exact ⟨_, rfl, here A1 (.bl _) h1 (q.mono e1)⟩⟩
theorem g_name (i : Nat) {x : Str} (hN : X.N.Nodup) (hi : X.N[i]? = some x := by rfl) (hx : Loc X.env.scope x := by first | exact Or.inl rfl | exact Or.inr rfl)
    (hf : X.fn x = true ∨ X.env.scope.names.lookup x = some .local := by first | exact .inl rfl | exact .inr rfl | assumption) : PG X (.Name x pos) (L2.gName i) := pg_name hN hi hx hf
/-- (x, y, ..) = e -/
def aAsgT (te : AE) (js : List Nat) : AS := fun AD ρ L => te ρ L (fun d L1 => gT js d ρ L1 fun ρ2 L2 => AD.nx ρ2 L2) AD.px
theorem s_asgT {tg : Expr} {gc : TG} {js : List Nat} (he : PE X e (cE X.kx W te)) (hg : PG X tg gc) (gk : GOk X gc (gT js) js) (hs : swapsWithSole [tg] e pos.line X.env = pure false := by rfl) (hw : swappedStores [tg] e X.env = pure none := by rfl)
    (h1 : (assignEach [tg] X.env).map (·.2) = [assign tg X.env] := by rfl) : PS X (.Assign [tg] e pos) (cS X.kx W (aAsgT te js)) :=
  (ps_asg he hg hs hw h1).imp fun D σ H ⟨I, L, F, ρ, AD, S, h, q⟩ => ⟨I, L, F, ρ, _, AD.px, S, h, fun d L1 v I1 H1 h1 A1 e1 r1 => gk.go (k := X.kx) rfl A1 (S.rs.mono e1) r1 h1 fun ρ' σ' us h2 r2 _ => by
    unfold gT at h1
    cases d <;> first | exact h1.elim | skip
    exact q.nx _ _ _ _ _ h2 A1 e1 r2⟩

end
/-! ### in, of flat items -/
def flV : DV → V
  | .non => .non
  | .bl b => .bl b
  | .int i => .int i
  | .str x => .str x
  | _ => .ref 0
def flatD (d : DV) : Bool := match d with
  | .non => true
  | .bl _ => true
  | .int _ => true
  | .str _ => true
  | _ => false
def inD (x : DV) (ds : List DV) : Bool := inV (flV x) (ds.map flV)
theorem flat_rp {K : PySem.W.Frag} {I : Hp} {d : DV} {v : V} (r : Rp K I d v) (h : flatD d = true) : v = flV d ∧ flatV v = true := by
  cases r <;> first | exact ⟨rfl, rfl⟩ | cases h
theorem flats_rp {K : PySem.W.Frag} {I : Hp} : ∀ {ds : List DV} {vs : List V}, Rps K I ds vs → ds.all flatD = true → vs = ds.map flV ∧ vs.all flatV = true
  | _, _, .nil, _ => ⟨rfl, rfl⟩
  | _, _, .cons h r, q => by
    rw [List.all_cons, Bool.and_eq_true] at q
    obtain ⟨e1, f1⟩ := flat_rp h q.1
    obtain ⟨e2, f2⟩ := flats_rp r q.2
    refine ⟨by rw [e1, e2]; rfl, by rw [List.all_cons, f1, f2]; rfl⟩
theorem flat_ints (ns : List Int) : (ns.map DV.int).all flatD = true := by rw [List.all_map]; exact List.all_eq_true.mpr fun _ _ => rfl
theorem inD_int (i : Int) : ∀ ns : List Int, inD (.int i) (ns.map DV.int) = decide (i ∈ ns)
  | [] => rfl
  | n :: ns => by
    have ih := inD_int i ns
    unfold inD inV at ih ⊢
    rw [List.map_cons, List.map_cons, List.any_cons, ih]
    show ((n == i) || decide (i ∈ ns)) = _
    by_cases h : n = i
    · subst h; simp
    · have : ¬ i = n := fun z => h z.symm
      simp [h, this]
def oIn (neg : Bool) : AR2 := fun x y L P => flatD x = true ∧ withSq L y fun ds => ds.all flatD = true ∧ P (.bl (neg ^^ inD x ds)) L
theorem oIn_ok {k : Kx} {neg : Bool} : AOp k (rIn k.K neg) (oIn neg) := by
  intro I F H L x y xv yv P Q A rx ry h q
  obtain ⟨fx, h⟩ := h
  obtain ⟨a, vs, ds, rfl, hs, r, fd, h⟩ := withSq_ok A ry h
  obtain ⟨rfl, e2⟩ := flat_rp rx fx
  obtain ⟨e3, e4⟩ := flats_rp r fd
  refine ⟨a, vs, rfl, hs, e2, e4, here A (.bl _) ?_ q⟩
  rw [e3]
  cases neg with
  | true => rw [if_pos rfl]; rw [Bool.true_xor] at h; exact h
  | false => rw [if_neg Bool.false_ne_true]; rw [Bool.false_xor] at h; exact h
section
variable {X : Cx} {W : WX} {a b e : Expr} {ta tb te : AE} {pos p2 : Pos}
theorem a_in (ha : PE X a (cE X.kx W ta)) (hb : PE X b (cE X.kx W tb)) (hm : behindInMarks .In b = false := by rfl) : PE X (.Compare a [.In] [b] pos) (cE X.kx W (aBin (oIn false) ta tb)) := a_cmp op_in_seq oIn_ok ha hb hm
theorem t_in (ha : PE X a (cE X.kx W ta)) (hb : PE X b (cE X.kx W tb)) (hm : behindInMarks .In b = false := by rfl) : PT X (.Compare a [.In] [b] pos) (cT X.kx W (aTest (aBin (oIn false) ta tb))) := t_cmp op_in_seq oIn_ok ha hb hm
theorem a_nin (ha : PE X a (cE X.kx W ta)) (hb : PE X b (cE X.kx W tb)) (hm : behindInMarks .NotIn b = false := by rfl) : PE X (.Compare a [.NotIn] [b] pos) (cE X.kx W (aBin (oIn true) ta tb)) := a_cmp op_notIn_seq oIn_ok ha hb hm
theorem t_nin (ha : PE X a (cE X.kx W ta)) (hb : PE X b (cE X.kx W tb)) (hm : behindInMarks .NotIn b = false := by rfl) : PT X (.Compare a [.NotIn] [b] pos) (cT X.kx W (aTest (aBin (oIn true) ta tb))) := t_cmp op_notIn_seq oIn_ok ha hb hm
end
/-- a def with defaults -/
theorem fun_okD {P : Program} {w : World} {K : PySem.W.Frag} {mg : Str → Option Value} {base : Heap} {x qual : Str} {st : Stmt} {f : Addr} {fd : FuncData} {N ps : List Str} {k : Nat} {asp : ASp} {tb : AS} {dvs : List V} {kws : List (Str × V)} (F : FunD K x qual (defArgs st) (defBody st) (defScope st) dvs kws f fd) (S : FnScope N ps (defScope st))
    (len : ∀ ds L P R, asp ds L P R → ds.length = ps.length)
    (der : ∀ (cdv : Value) (A : Around) (outer : List Env) (s : Shared) (H : Hp) (E : XK), Room k (A.deeper (envOfC qual (defScope st) s.heap.objs.size f cdv)) →
      PSs (cxOf (L2.CX P w) P w K mg base N qual (defScope st) f cdv A outer s H E) (defBody st) (cS ⟨P, w, K⟩ (fun cls d _ H => E cls d H) tb))
    (read : ∀ ds L P R, asp ds L P R → tb ⟨fun _ L => P .non L, P, fun _ _ => False, fun _ _ => False, fun c _ L => R c L⟩ (startA N.length ds) L) : FnOk P w K mg base (L2.CX P w) (k + 1) f fd ps (liftSp ⟨P, w, K⟩ asp) := by
  refine F.ok S (fun vs H Q E ⟨ds, I, L, F, P, R, A, r, h, _, _⟩ => by rw [← r.length]; exact len ds L P R h) (fun cdv A outer s H vs Q E hr h => ?_)
  obtain ⟨ds, I, L, F0, P0, R, Ab0, r, h, q, qx⟩ := h
  refine ⟨_, der cdv A outer s H E hr, ⟨I, L, F0, _, _, ⟨Ab0, startA_rp r, fun c ρ' σ' L' I' H' h' A' e' _ => qx c L' I' H' h' A' e'⟩, read ds L P0 R h, ⟨fun ρ' L' σ' I' H' h' A' e' _ => q _ _ _ _ _ h' A' e' .non, q, fun _ _ _ _ _ z => z.elim, fun _ _ _ _ _ z => z.elim⟩⟩⟩
/-- the program's own classes, by name -/
structure Gx where
  k : Kx
  PlayError : Addr
  BadValue : Addr
  BadText : Addr
  Unknown : Addr
  NoMove : Addr
  Dyadic : Addr
  Yard : Addr
  Order : Addr
  Forms : Addr
  Sums : Addr
  Values : Addr
  Wall : Addr
  Heat : Addr
  Heaps : Addr
  Hedge : Addr
  Floor : Addr
  Frogs : Addr
  Cakes : Addr
  Table : Addr
  Reader : Addr
  Meeting : Addr
  Plans : Addr
  Match : Addr
/-- the reading of a def: what its promise lets begin, its body does -/
def Reads (n : Nat) (asp : ASp) (tb : AS) : Prop := ∀ ds L P R, asp ds L P R → tb ⟨fun _ L => P .non L, P, fun _ _ => False, fun _ _ => False, fun c _ L => R c L⟩ (startA n ds) L
end AL
namespace AL
open PySem PySem.Spec PyProof.Rows L2
/-! ### operators of an own class -/
section
variable {prog : Program} {w : World} {A : Around} {E : Value → Shared → Prop} {s : Shared} {K : PySem.W.Frag} {x y C f : Addr} {ox oy : Obj} {od oe : Option Obj}
open PySem.W in
theorem bin_same {op : Operator} {Q : Value → Shared → Prop} (X : K.In s.heap) (I : PySem.W.InstAt s.heap x ox C od) (J : PySem.W.InstAt s.heap y oy C oe) (hc : PySem.W.selfFirst K C = true)
    (hs : PySem.W.findIn K (.ref C) (PySem.dunder op.info.2) = some (some (.ref f))) (hf : PySem.W.isFn K (.ref f) = true)
    (h : wpAny (model prog w) A (call (.ref f) [.ref x, .ref y]) (PySem.W.CmpBack Q) E s) : wpAny (model prog w) A (binaryOp op (.ref x) (.ref y)) Q E s := by
  obtain ⟨cd, rest, hcd, hm⟩ := PySem.W.ksp_first hc
  rcases hi : op.info with ⟨sym, nm'⟩
  rw [hi] at hs
  dsimp only at hs
  have one := PySem.W.ksp_try X I hs hf h
  obtain ⟨hh, g, d, tt, os⟩ := s
  have L1 : PySem.W.Looks (model prog w) hh (typeOf (.ref x)) (.ref C) := I.type
  have L2 : PySem.W.Looks (model prog w) hh (typeOf (.ref y)) (.ref C) := J.type
  have L3 : PySem.W.Looks (model prog w) hh (fillsNumberSlot (.ref C) nm') true := PySem.W.fills_K X hcd hm hs
  simp only [binaryOp, hi]
  refine wpAny_holding (wpAny_bind ?_)
  unfold binaryOp1
  refine wpAny_bind (L1.at (wpAny_bind (L2.at (wpAny_bind (L3.at ?_)))))
  have hb : (Value.ref C == Value.ref C) = true := by simp
  simp only [hb, if_true]
  ksp_lk
  refine wpAny_mono one (fun r s' hr' => ?_) fun _ _ e => e
  obtain ⟨v, rfl, hq⟩ := hr'
  ksp_lk
  exact hq
open PySem.W in
theorem neg_own {Q : Value → Shared → Prop} (X : K.In s.heap) (I : PySem.W.InstAt s.heap x ox C od) (hs : PySem.W.findIn K (.ref C) "__neg__" = some (some (.ref f))) (hf : PySem.W.isFn K (.ref f) = true)
    (h : wpAny (model prog w) A (call (.ref f) [.ref x]) Q E s) : wpAny (model prog w) A (unaryOp .USub (.ref x)) Q E s := by
  unfold unaryOp
  refine wpAny_holding ?_
  exact wpAny_bind (special_fn X I hs (beq_iff_eq.mp hf) (wpAny_mono h (fun _ _ z => wpAny_pure z) fun _ _ z => z))
end
/-- a value that stands for data is no NotImplemented -/
theorem back_of {v : V} {u : Value} {Q : Value → Shared → Prop} {s : Shared} (r : RelV v u) (h : Q u s) : PySem.W.CmpBack Q u s := by
  unfold PySem.W.CmpBack
  split
  · cases v <;> first | (cases r; done) | (obtain ⟨t, hq⟩ := r; cases hq; done)
  · exact h
section
variable {X : Cx} {W : WX} {a b : Expr} {ta tb : AE} {pos : Pos} {k : Nat} {f C : Addr} {fd : FuncData} {ps : List Str} {asp : ASp} {op : Operator}
/-- a op b, both of the class C -/
def aOpM (C : Addr) (asp : ASp) (ta tb : AE) : AE := fun ρ L P px => ta ρ L (fun x L1 => tb ρ L1 (fun y L2 => isC L2 x C (isC L2 y C (asp [x, y] L2 P fun c L' => px c ρ L'))) px) px
theorem a_opM (ha : PE X a (cE X.kx W ta)) (hb : PE X b (cE X.kx W tb)) (hc : PySem.W.selfFirst X.K C = true) (hm : Meth X.K C (PySem.dunder op.info.2) f) (F : FnOk X.prog X.w X.K X.mg X.base (L2.CX X.prog X.w) k f fd ps (liftSp X.kx asp)) (hr : Room k X.A) (hbb : Binds X.K fd ps []) (tk : Takes X W) :
    PE X (.BinOp a op b pos) (cE X.kx W (aOpM C asp ta tb)) := by
  refine ⟨fun pins s σ H Q I h => ?_⟩
  obtain ⟨I0, L, F0, ρ, P, px, S, h, q⟩ := h
  refine wpAny_BinOp (binT ha hb (R := fun x y H2 => ∃ I2 L2 dx dy, Ab X.kx I2 L2 F0 H2 ∧ Ex I0 I2 ∧ Rp X.K I2 dx x ∧ Rp X.K I2 dy y ∧ isC L2 dx C (isC L2 dy C (asp [dx, dy] L2 P fun c L' => px c ρ L'))) I
    ⟨I0, L, F0, ρ, _, px, S, h, fun dx L1 xv I1 H1 h1 A1 e1 r1 => ⟨I1, L1, F0, ρ, _, px, S.go A1 e1, h1, fun dy L2 yv I2 H2 h2 A2 e2 r2 => ⟨I2, L2, dx, dy, A2, e1.trans e2, r1.mono e2, r2, h2⟩⟩⟩
    fun v u s2 x y H2 J rx ry ⟨I2, L2, dx, dy, A2, e2, rdx, rdy, h2⟩ => ?_)
  obtain ⟨xa, xd, xf, rfl, hx, _, h2⟩ := isC_ok A2 rdx h2
  obtain ⟨ya, yd, yf, rfl, hy, _, h2⟩ := isC_ok A2 rdy h2
  cases rx
  cases ry
  obtain ⟨mx, Ox, _⟩ := ins_get J.hok hx
  obtain ⟨my, Oy, _⟩ := ins_get J.hok hy
  obtain ⟨ox, Jx, _⟩ := Ox.look
  obtain ⟨oy, Jy, _⟩ := Oy.look
  refine bin_same J.kIn Jx Jy hc hm.at_ hm.fn ?_
  exact wpAny_mono (goes (us := [.ref xa, .ref ya]) (vs := [.ref xa, .ref ya]) (dvs := []) F hr hbb .nil (passAt tk σ) J (.cons rfl (.cons rfl .nil)) (lift_at (S.go A2 e2) (.cons rdx (.cons rdy .nil)) h2 (q.mono e2)))
    (fun r s' z => let ⟨z1, z2, z3, z4, z5⟩ := z; back_of z4 ⟨z1, z2, z3, z4, z5⟩) fun _ _ z => z
/-- -a of the class C -/
def aUnM (C : Addr) (asp : ASp) (ta : AE) : AE := fun ρ L P px => ta ρ L (fun x L1 => isC L1 x C (asp [x] L1 P fun c L' => px c ρ L')) px
theorem a_unM (ha : PE X a (cE X.kx W ta)) (hm : Meth X.K C "__neg__" f) (F : FnOk X.prog X.w X.K X.mg X.base (L2.CX X.prog X.w) k f fd ps (liftSp X.kx asp)) (hr : Room k X.A) (hbb : Binds X.K fd ps []) (tk : Takes X W) :
    PE X (.UnaryOp .USub a pos) (cE X.kx W (aUnM C asp ta)) := by
  refine ⟨fun pins s σ H Q I h => ?_⟩
  obtain ⟨I0, L, F0, ρ, P, px, S, h, q⟩ := h
  refine UnaryOp_ (thn (ha.run pins s σ H (fun x H1 => ∃ I1 L1 dx, Ab X.kx I1 L1 F0 H1 ∧ Ex I0 I1 ∧ Rp X.K I1 dx x ∧ isC L1 dx C (asp [dx] L1 P fun c L' => px c ρ L')) I ⟨I0, L, F0, ρ, _, px, S, h, fun dx L1 xv I1 H1 h1 A1 e1 r1 => ⟨I1, L1, dx, A1, e1, r1, h1⟩⟩) fun v s1 ⟨x, H1, J, rx, I1, L1, dx, A1, e1, r1, h1⟩ => ?_)
  obtain ⟨xa, xd, xf, rfl, hx, _, h2⟩ := isC_ok A1 r1 h1
  cases rx
  obtain ⟨mx, Ox, _⟩ := ins_get J.hok hx
  obtain ⟨ox, Jx, _⟩ := Ox.look
  refine neg_own J.kIn Jx hm.at_ hm.fn ?_
  exact goes (us := [.ref xa]) (vs := [.ref xa]) (dvs := []) F hr hbb .nil (passAt tk σ) J (.cons rfl .nil) (lift_at (S.go A1 e1) (.cons r1 .nil) h2 (q.mono e1))
end
/-! ### an instance made by a call with keywords -/
section
variable {X : Cx} {W : WX} {e : Expr} {es : List Expr} {kws : List Keyword} {te : AE} {t tk : AA} {pos p kpos : Pos} {nm : Option Str} {k n : Nat} {f C : Addr} {fd : FuncData} {ps ks : List Str} {asp mk : ASp} {x : Str} {g : List Value → List Value → List Value} {gV : List V → List V → List V}
theorem k_nil : PK X [] (cA X.kx W aNil) := ⟨fun pos pins s σ H Q I h => by
  obtain ⟨I0, L, F, ρ, P, px, S, h, q⟩ := h
  exact pk_nil.run pos pins s σ H Q I (q _ _ _ _ _ h S.ab (Ex.refl _) .nil)⟩
theorem k_cons (ha : PE X e (cE X.kx W te)) (hr : PK X kws (cA X.kx W t)) : PK X (⟨nm, e, kpos⟩ :: kws) (cA X.kx W (aCons te t)) := ⟨fun pos pins s σ H Q I h => by
  obtain ⟨I0, L, F, ρ, P, px, S, h, q⟩ := h
  exact (pk_cons ha hr).run pos pins s σ H Q I ⟨I0, L, F, ρ, _, px, S, h, fun x L1 xv I1 H1 h1 A1 e1 r1 => ⟨I1, L1, F, ρ, _, px, S.go A1 e1, h1, fun xs L2 vs I2 H2 h2 A2 e2 r2 => q _ _ _ _ _ h2 A2 (e1.trans e2) (.cons (r1.mono e2) r2)⟩⟩⟩
def aMakeK (n m : Nat) (ord : List DV → List DV → List DV) (mk : ASp) (t tk : AA) : AE := fun ρ L P px => t ρ L (fun ds L1 => tk ρ L1 (fun zs L2 => ds.length = n ∧ zs.length = m ∧ mk (ord ds zs) L2 P fun c L' => px c ρ L') px) px
/-- how data and values are put in order alike -/
def OrdOk (K : PySem.W.Frag) (ord : List DV → List DV → List DV) (gV : List V → List V → List V) : Prop := ∀ (I : Hp) (ds zs : List DV) (vs ws : List V) (x : V), Rps K I ds vs → Rps K I zs ws → ∃ rest, gV (x :: vs) ws = x :: rest ∧ Rps K I (ord ds zs) rest
theorem run_mkN {pins : List (Addr × Obj)} {σ : L2.St} {H : Hp} {s : Shared} {Q : VK} {us ws : List Value} {vs zs : List V} {sp : Sp} {E : XK} (M : Mk X.K C f) (F : FnOk X.prog X.w X.K X.mg X.base (L2.CX X.prog X.w) k f fd ps sp) (hr : Room (k + 1) X.A) (hb : KBn X.K fd ps (n + 1) ks g gV)
    (hx : PassesAt (L2.CX X.prog X.w) X σ E) (I : Inv X pins σ H s) (r : Vals vs us) (rz : Vals zs ws) (l1 : vs.length = n) (l2 : zs.length = ks.length)
    (h : ∀ x dx, H x = none → H dx = none → dx ≠ x → sp (gV (.ref x :: vs) zs) (upd (upd H dx (.own x)) x (.ins C dx [])) (fun v H2 => v = .non ∧ Q (.ref x) H2) E) : wpAny (model X.prog X.w) X.A (call (.ref C) us (ks.zip ws)) (EP X pins σ Q) X.xe s := by
  have hq := h (s.heap.objs.size + 1) s.heap.objs.size (I.hok.fresh (Nat.le_succ _)) (I.hok.fresh (Nat.le_refl _)) (Nat.ne_of_lt (Nat.lt_succ_self _))
  have J := Inv.made (C := C) I
  have r1 : Vals (V.ref (s.heap.objs.size + 1) :: vs) (Value.ref (s.heap.objs.size + 1) :: us) := .cons rfl r
  have r2 := hb.rel r1 rz
  have e1 : (Value.ref (s.heap.objs.size + 1) :: us).length = n + 1 := r1.length.symm.trans (congrArg Nat.succ l1)
  have e2 : ws.length = ks.length := rz.length.symm.trans l2
  refine wpAny_call (make_map (f := f) I.kIn M.makes M.init (beq_iff_eq.mp M.fn) (codeAny_mono (F.run _ X.stack _ _ ⟨Value.ref (s.heap.objs.size + 1) :: us, ks.zip ws⟩ (g (Value.ref (s.heap.objs.size + 1) :: us) ws) _ _ E (hr.make C us (ks.zip ws))
    (J.env0.make C us (ks.zip ws)) (hb.to _ (Value.ref (s.heap.objs.size + 1) :: us) ws J.kIn e1 e2) r2 hq) fun r s' z => ?_))
  cases r with
  | error e => exact hx pins _ _ e s' J z
  | ok fl =>
    cases fl with
    | ret u =>
      obtain ⟨v, H', J3, rv, ev, q3⟩ := J.after z
      subst ev
      exact ⟨rv, V.ref (s.heap.objs.size + 1), H', J3, (rfl : Value.ref _ = Value.ref _), q3⟩
    | next => exact z.elim
    | brk => exact z.elim
    | cont => exact z.elim
theorem makeN_end {pins : List (Addr × Obj)} {σ : L2.St} {H : Hp} {s : Shared} {Q : VK} {us ws : List Value} {vs zs : List V} {ds es : List DV} {I : Hp} {L : Led} {F0 : Hp} {ρ : Sl} {px : PX} {P : PD} {ord : List DV → List DV → List DV} (M : Mk X.K C f) (c : FOk X.K C []) (F : FnOk X.prog X.w X.K X.mg X.base (L2.CX X.prog X.w) k f fd ps (liftSp X.kx asp)) (hmk : MkOk X.kx C asp mk []) (hr : Room (k + 1) X.A) (hb : KBn X.K fd ps (n + 1) ks g gV) (ho : OrdOk X.K ord gV) (tk : Takes X W)
    (J : Inv X pins σ H s) (S : Stt X.kx W σ H I L F0 ρ px) (r : Vals vs us) (rz : Vals zs ws) (rd : Rps X.K I ds vs) (re : Rps X.K I es zs) (q : Q2 X.kx I F0 P Q) (l1 : ds.length = n) (l2 : es.length = ks.length) (h : mk (ord ds es) L P fun c L' => px c ρ L') :
    wpAny (model X.prog X.w) X.A (call (.ref C) us (ks.zip ws)) (EP X pins σ Q) X.xe s := by
  refine run_mkN M F hr hb (E := fun cls d H' => W cls d σ H') (passAt tk σ) J r rz (by rw [← rd.length]; exact l1) (by rw [← re.length]; exact l2) fun x dx hx hdx ne => ?_
  have S1 : Stt X.kx W σ _ I (updL L x (.ins C dx [] [])) F0 ρ px := S.go (made_ab S.ab c hx hdx ne) (Ex.refl _)
  obtain ⟨rest, e1, r1⟩ := ho I ds es vs zs (.ref x) rd re
  rw [e1]
  have hm := hmk _ L P _ h x dx (S.ab.freeL hx)
  rw [List.append_nil] at hm
  refine lift_at S1 (.cons (.ref x) r1) hm fun d L2 v I2 H2 z A2 e2 r2 => ?_
  obtain ⟨rfl, z⟩ := z
  cases r2
  exact ⟨rfl, z.ok A2 (.ref x) (q.mono e2)⟩
theorem a_makeK0 {ord : List DV → List DV → List DV} {tz : AA} {m : Nat} (M : Mk X.K C f) (c : FOk X.K C []) (F : FnOk X.prog X.w X.K X.mg X.base (L2.CX X.prog X.w) k f fd ps (liftSp X.kx asp)) (hmk : MkOk X.kx C asp mk []) (hr : Room (k + 1) X.A) (hg : Gl X x) (hm : X.mg x = some (.ref C)) (hb : KBn X.K fd ps 1 ks g gV) (ho : OrdOk X.K ord gV) (tk : Takes X W) (hkw : PK X kws (cA X.kx W tz))
    (hall : (backToKw pos (keywordEach kws X.env)).all (·.1.isSome) = true := by rfl) (hks : (backToKw pos (keywordEach kws X.env)).filterMap (·.1) = ks := by rfl) (hdb : (x == ("__debug__" : Str)) = false := by decide)
    (hpl : ((backTo pos (starEach [] X.env)).any (·.1) || (backToKw pos (keywordEach kws X.env)).any (·.1.isNone)) = false := by rfl) (hl : ks.length = m := by rfl) : PE X (.Call (.Name x p) [] kws pos) (cE X.kx W (aMakeK 0 m ord mk aNil tz)) := by
  subst hl
  refine ⟨fun pins s σ H Q I h => ?_⟩
  obtain ⟨I0, L, F0, ρ, P, px, S, h, q⟩ := h
  refine wpAny_Call_Name_kw (ld_glob I hg hm ?_ hdb)
  refine PySem.W.callWith_KW0 (h₀ := X.base) I.ok.mod.kin M.kp hall ?_ hpl
  refine thn (hkw.run pos pins s σ H (fun zs H2 => ∃ es I2 L2, Ab X.kx I2 L2 F0 H2 ∧ Ex I0 I2 ∧ Rps X.K I2 es zs ∧ es.length = ks.length ∧ mk (ord [] es) L2 P fun c L' => px c ρ L') I ⟨I0, L, F0, ρ, _, px, S, h, fun es L2 zs I2 H2 h2 A2 e2 r2 => ⟨es, I2, L2, A2, e2, r2, h2.2.1, h2.2.2⟩⟩) fun ws s2 ⟨zs, H2, J, rz, es, I2, L2, A2, e2, r2, l2, h2⟩ => ⟨J.kIn, ?_⟩
  rw [hks]
  exact makeN_end (us := []) (vs := []) M c F hmk hr hb ho tk J (S.go A2 e2) .nil rz .nil r2 (q.mono e2) rfl l2 h2
theorem a_makeK {ord : List DV → List DV → List DV} {tz : AA} {m : Nat} (M : Mk X.K C f) (c : FOk X.K C []) (F : FnOk X.prog X.w X.K X.mg X.base (L2.CX X.prog X.w) k f fd ps (liftSp X.kx asp)) (hmk : MkOk X.kx C asp mk []) (hr : Room (k + 1) X.A) (hg : Gl X x) (hm : X.mg x = some (.ref C)) (hb : KBn X.K fd ps (n + 1) ks g gV) (ho : OrdOk X.K ord gV) (tk : Takes X W) (ha : PA X (e :: es) (cA X.kx W t)) (hkw : PK X kws (cA X.kx W tz))
    (hall : (backToKw pos (keywordEach kws X.env)).all (·.1.isSome) = true := by rfl) (hks : (backToKw pos (keywordEach kws X.env)).filterMap (·.1) = ks := by rfl) (hdb : (x == ("__debug__" : Str)) = false := by decide)
    (he : starEach (e :: es) X.env = (false, eval e X.env) :: starEach es X.env := by rfl) (hpl : ((backTo pos (starEach (e :: es) X.env)).any (·.1) || (backToKw pos (keywordEach kws X.env)).any (·.1.isNone)) = false := by rfl) (hl : ks.length = m := by rfl) : PE X (.Call (.Name x p) (e :: es) kws pos) (cE X.kx W (aMakeK n m ord mk t tz)) := by
  subst hl
  refine ⟨fun pins s σ H Q I h => ?_⟩
  obtain ⟨I0, L, F0, ρ, P, px, S, h, q⟩ := h
  refine wpAny_Call_Name_kw (ld_glob I hg hm ?_ hdb)
  refine PySem.W.callWith_KW (h₀ := X.base) I.ok.mod.kin M.kp hall (thn (ha.run pos pins s σ H (fun vs H1 => ∃ ds I1 L1, Ab X.kx I1 L1 F0 H1 ∧ Ex I0 I1 ∧ Rps X.K I1 ds vs ∧ tz ρ L1 (fun zs L2 => ds.length = n ∧ zs.length = ks.length ∧ mk (ord ds zs) L2 P fun c L' => px c ρ L') px) I ⟨I0, L, F0, ρ, _, px, S, h, fun ds L1 vs I1 H1 h1 A1 e1 r1 => ⟨ds, I1, L1, A1, e1, r1, h1⟩⟩) fun us s1 ⟨vs, H1, J1, rv, ds, I1, L1, A1, e1, r1, h1⟩ => ?_) hpl he
  refine thn (hkw.run pos pins s1 σ H1 (fun zs H2 => ∃ es I2 L2, Ab X.kx I2 L2 F0 H2 ∧ Ex I0 I2 ∧ Rps X.K I2 ds vs ∧ Rps X.K I2 es zs ∧ ds.length = n ∧ es.length = ks.length ∧ mk (ord ds es) L2 P fun c L' => px c ρ L') J1 ⟨I1, L1, F0, ρ, _, px, S.go A1 e1, h1, fun es L2 zs I2 H2 h2 A2 e2 r2 => ⟨es, I2, L2, A2, e1.trans e2, r1.mono e2, r2, h2.1, h2.2.1, h2.2.2⟩⟩) fun ws s2 ⟨zs, H2, J, rz, es, I2, L2, A2, e2, rd, r2, l1, l2, h2⟩ => ⟨J.kIn, ?_⟩
  rw [hks]
  exact makeN_end M c F hmk hr hb ho tk J (S.go A2 e2) rv rz rd r2 (q.mono e2) l1 l2 h2
/-- the three ways of putting in order: keywords then the default; keywords; keywords turned -/
def kA {α : Type} (us its ws : List α) : List α := us ++ (ws ++ its)
def kS {α : Type} (us _ ws : List α) : List α := us ++ ws
def kR {α : Type} (us _ ws : List α) : List α := us ++ ws.reverse
theorem vals_rev : ∀ {vs : List V} {us : List Value}, Vals vs us → Vals vs.reverse us.reverse
  | _, _, .nil => .nil
  | _, _, .cons h r => by rw [List.reverse_cons, List.reverse_cons]; exact (vals_rev r).append (.cons h .nil)
theorem kA_vals {vs ds zs : List V} {us its ws : List Value} (a : Vals vs us) (b : Vals ds its) (c : Vals zs ws) : Vals (kA vs ds zs) (kA us its ws) := a.append (c.append b)
theorem kS_vals {vs ds zs : List V} {us its ws : List Value} (a : Vals vs us) (_ : Vals ds its) (c : Vals zs ws) : Vals (kS vs ds zs) (kS us its ws) := a.append c
theorem kR_vals {vs ds zs : List V} {us its ws : List Value} (a : Vals vs us) (_ : Vals ds its) (c : Vals zs ws) : Vals (kR vs ds zs) (kR us its ws) := a.append (vals_rev c)
theorem kA_ord {K : PySem.W.Frag} {dd : List DV} {dv : List V} (h : ∀ I, Rps K I dd dv) : OrdOk K (fun ds zs => ds ++ (zs ++ dd)) (fun vs zs => kA vs dv zs) := fun I ds zs vs ws x r1 r2 => ⟨vs ++ (ws ++ dv), rfl, r1.append (r2.append (h I))⟩
theorem kS_ord {K : PySem.W.Frag} {dv : List V} : OrdOk K (fun ds zs => ds ++ zs) (fun vs zs => kS vs dv zs) := fun I ds zs vs ws x r1 r2 => ⟨vs ++ ws, rfl, r1.append r2⟩
theorem kR_ord {K : PySem.W.Frag} {dv : List V} : OrdOk K (fun ds zs => ds ++ zs.reverse) (fun vs zs => kR vs dv zs) := fun I ds zs vs ws x r1 r2 => ⟨vs ++ ws.reverse, rfl, r1.append r2.reverse⟩
end
end AL
namespace AL
open PySem PySem.Spec PyProof.Rows L2
/-! ### small helps for readings -/
theorem map_at {α β : Type} {f : α → β} {ns : List α} {i : Nat} {d : β} (h : (ns.map f)[i]? = some d) : ∃ n, ns[i]? = some n ∧ d = f n := by
  rw [List.getElem?_map] at h
  cases e : ns[i]? with
  | none => rw [e] at h; cases h
  | some n => rw [e] at h; exact ⟨n, rfl, (Option.some.inj h).symm⟩
theorem take_more {α : Type} {ns : List α} {i : Nat} {n : α} (h : ns[i]? = some n) : ns.take (i + 1) = ns.take i ++ [n] := by
  rw [List.take_add_one, h]; rfl
theorem fold_more {α β : Type} {g : β → α → β} {z : β} {ns : List α} {i : Nat} {n : α} (h : ns[i]? = some n) : (ns.take (i + 1)).foldl g z = g ((ns.take i).foldl g z) n := by
  rw [take_more h, List.foldl_append]; rfl
theorem range_more {β : Type} {g : β → Nat → β} {z : β} (i : Nat) : (List.range (i + 1)).foldl g z = g ((List.range i).foldl g z) i := by
  rw [List.range_succ, List.foldl_append]; rfl
theorem at_nat {α : Type} {xs : List α} {j : Nat} {v : α} (h : xs[j]? = some v) : atI xs (j : Int) = some v := atI_nat h
theorem at_int {α : Type} {xs : List α} {j : Int} {v : α} (h0 : 0 ≤ j) (h : xs[j.toNat]? = some v) : atI xs j = some v := by
  have := atI_nat h
  rwa [Int.toNat_of_nonneg h0] at this
theorem dt {p : Prop} [Decidable p] (h : decide p = true) : p := of_decide_eq_true h
theorem df {p : Prop} [Decidable p] (h : decide p = false) : ¬ p := of_decide_eq_false h
theorem et {p : Prop} [Decidable p] (h : (false ^^ decide p) = true) : p := by simpa using h
theorem ef {p : Prop} [Decidable p] (h : (false ^^ decide p) = false) : ¬ p := by simpa using h
theorem nt {p : Prop} [Decidable p] (h : (true ^^ decide p) = true) : ¬ p := by simpa using h
theorem nf {p : Prop} [Decidable p] (h : (true ^^ decide p) = false) : p := by simpa using h
theorem mulR {i j : Int} (h : -(2 ^ 64) < j ∧ j < 2 ^ 64) : CMul i j := .inr h
theorem mulL {i j : Int} (h : -(2 ^ 64) < i ∧ i < 2 ^ 64) : CMul i j := .inl h
theorem smallLine {n : Nat} (h : n ≤ 1000000) : n < sizeLine := Nat.lt_of_le_of_lt h (by rw [sizeLine_eq]; decide)
theorem leLine {n : Nat} (h : n ≤ 1000000) : n ≤ sizeLine := Nat.le_of_lt (smallLine h)
theorem replicate_len {α : Type} (n : Nat) (a : α) : (List.replicate n a).length = n := List.length_replicate
/-- by the answer of a test -/
theorem bl2 {q : Bool → Prop} {b : Bool} (h1 : b = true → q true) (h2 : b = false → q false) : q b := by
  cases b
  · exact h2 rfl
  · exact h1 rfl
/-- an exception leaves; what was made may be forgotten -/
def RS (R : Addr → Led → Prop) (c : Addr) (L : Led) : Prop := ∃ L2, Sub L2 L ∧ R c L2
theorem RS.of {R : Addr → Led → Prop} {c : Addr} {L : Led} (h : R c L) : RS R c L := ⟨L, Sub.refl L, h⟩
theorem RS.up {R : Addr → Led → Prop} {c : Addr} {L L' : Led} (s : Sub L L') (h : RS R c L) : RS R c L' := let ⟨L2, s2, h⟩ := h; ⟨L2, s2.trans s, h⟩
/-- data whose kind isinstance tells; a list of the ledger too -/
def told (d : DV) (L : Led) (q : Prop) : Prop := match d with
  | .non => q
  | .bl _ => q
  | .int _ => q
  | .str _ => q
  | .lst _ => q
  | .tup _ => q
  | .ref a => (∃ ds, L a = some (.lst ds)) ∧ q
  | _ => False
theorem told.imp {d : DV} {L L' : Led} {p q : Prop} (s : Sub L L') (i : p → q) (h : told d L p) : told d L' q := by
  cases d <;> first | exact i h | exact h.elim | skip
  obtain ⟨⟨ds, e⟩, h⟩ := h
  exact ⟨⟨ds, s _ _ e⟩, i h⟩
/-- a list made here is handed back, as the caller wants it -/
theorem ret_new {k : Kx} {ds : List DV} {L : Led} {P : PD} {a : Addr} (h : newL ds L P) (ha : L a = none) : FrzP k (.ref a) (updL L a (.lst ds)) P := by
  rcases h with h | h
  · exact ⟨_, _, FrzD.refl _ _ _, h a ha⟩
  · exact ⟨_, _, FrzD.lst updL_same, by rw [delL_updL ha]; exact h⟩
theorem ret_newE {k : Kx} {ds : List DV} {L L1 : Led} {P : PD} {a : Addr} (h : newL ds L P) (ha : L a = none) (e : L1 = updL L a (.lst ds)) : FrzP k (.ref a) L1 P := by
  subst e; exact ret_new h ha
theorem kit_self {K : PySem.W.Frag} {v : Value} : PySem.W.kitOne K v v = some true := by unfold PySem.W.kitOne; rw [if_pos (by simp)]
theorem rel_ref {a : Addr} : RelV (.ref a) (.ref a) := rfl
theorem rel_int {i : Int} {t : Tok} : RelV (.int i) (.int i t) := ⟨t, rfl⟩
theorem rel_str {i : Str} {t : Tok} : RelV (.str i) (.str i t) := ⟨t, rfl⟩
theorem pair_eqv {a b c d : Int} : PyData.eqv (.tuple [.int a, .int b]) (.tuple [.int c, .int d]) = decide (a = c ∧ b = d) := by
  unfold PyData.eqv PyData.eqvAll PyData.eqvAll PyData.eqvAll
  by_cases h1 : a = c <;> by_cases h2 : b = d <;> simp [h1, h2, PyData.eqv]
theorem pair_deep {neg : Bool} {a b c d : Int} {L : Led} {P : PD} (h : P (.bl (neg ^^ decide (a = c ∧ b = d))) L) : oEqN neg (.tup [.int a, .int b]) (.tup [.int c, .int d]) L P :=
  ⟨.tuple [.int a, .int b], .tuple [.int c, .int d], .tup (.cons (.int _) (.cons (.int _) .nil)), .tup (.cons (.int _) (.cons (.int _) .nil)), rfl, rfl, by rw [pair_eqv]; exact h⟩
/-! ### the program's own errors -/
section
variable {K : PySem.W.Frag} {D O : Addr}
theorem kit_refT (hd : PySem.W.hasDictIn K O = true) (ht : PySem.W.typeIn K (.ref O) = some (.type "type")) (h : PySem.W.subIn K (.ref D) (.ref O) = some true) : PySem.W.kitOne K (.ref D) (.ref O) = some true := by
  unfold PySem.W.kitOne
  split
  · rfl
  · obtain ⟨cd, hc, _⟩ := PySem.W.any_some hd
    show (if ((PySem.W.clsIn K O).isSome && PySem.W.typeIn K (.ref O) == some (.type "type")) = true then PySem.W.subIn K (.ref D) (.ref O) else none) = _
    rw [if_pos (by rw [hc, ht]; rfl)]
    exact h
theorem kit_refF (hd : PySem.W.hasDictIn K O = true) (ht : PySem.W.typeIn K (.ref O) = some (.type "type")) (h : PySem.W.subIn K (.ref D) (.ref O) = some false) (ho : PySem.W.subIn K (.ref O) (.ref O) = some true) : PySem.W.kitOne K (.ref D) (.ref O) = some false := by
  unfold PySem.W.kitOne
  split
  · rename_i e
    rw [beq_iff_eq.mp e, ho] at h
    cases h
  · obtain ⟨cd, hc, _⟩ := PySem.W.any_some hd
    show (if ((PySem.W.clsIn K O).isSome && PySem.W.typeIn K (.ref O) == some (.type "type")) = true then PySem.W.subIn K (.ref D) (.ref O) else none) = _
    rw [if_pos (by rw [hc, ht]; rfl)]
    exact h
theorem kit_tyT {T : String} (hm : PySem.W.kitMeta T = true) (h : PySem.W.subIn K (.ref D) (.type T) = some true) : PySem.W.kitOne K (.ref D) (.type T) = some true := by
  unfold PySem.W.kitOne
  split
  · rfl
  · show (if PySem.W.kitMeta T = true then PySem.W.subIn K (.ref D) (.type T) else none) = _
    rw [if_pos hm]
    exact h
end
/-- the error D among the program's four: a, b, c are the others -/
structure ErrK (G : Gx) (D a b c : Addr) : Prop where
  ex : ExcC G.k.K D
  ca : PySem.W.exmOne G.k.K (.ref D) (.ref G.PlayError) = some true
  cd : PySem.W.exmOne G.k.K (.ref D) (.ref D) = some true
  pe : PySem.W.kitOne G.k.K (.ref D) (.ref G.PlayError) = some true
  na : PySem.W.kitOne G.k.K (.ref D) (.ref a) = some false
  nb : PySem.W.kitOne G.k.K (.ref D) (.ref b) = some false
  nc : PySem.W.kitOne G.k.K (.ref D) (.ref c) = some false
  ve : PySem.W.kitOne G.k.K (.ref D) (.type "ValueError") = some true
theorem ErrK.cP {G : Gx} {D a b c : Addr} (h : ErrK G D a b c) : Caught G.k.K D (.ref G.PlayError) true := ⟨h.ex, h.ca⟩
theorem ErrK.cD {G : Gx} {D a b c : Addr} (h : ErrK G D a b c) : Caught G.k.K D (.ref D) true := ⟨h.ex, h.cd⟩
/-- every law's promise: a list of ints comes, True goes out -/
def spLawT : ASp := fun ds L P _ => match ds with
  | [.wl xs] => (∃ ns : List Int, ns.length ≤ 63 ∧ xs = ns.map DV.int) ∧ P (.bl true) L
  | _ => False
theorem ints_rp {K : PySem.W.Frag} {I : Hp} : ∀ ns : List Int, Rps K I (ns.map DV.int) (ns.map V.int)
  | [] => .nil
  | n :: ns => .cons (.int n) (ints_rp ns)
theorem law_start {k : Kx} {H : Hp} {a : Addr} {ns : List Int} (hl : ns.length ≤ 63) (hS : SqL k.K H a (ns.map V.int)) : liftSp k spLawT [.ref a] H (fun v _ => v = .bl true) fun _ _ _ => False :=
  ⟨[.wl (ns.map DV.int)], H, fun _ => none, fun _ => none, fun d _ => d = .bl true, fun _ _ => False, ⟨fun _ _ e => e, fun _ _ e => (by cases e), fun _ _ e => (by cases e), fun _ _ e => (by cases e)⟩, .cons (.wl hS (ints_rp ns)) .nil,
    ⟨⟨ns, hl, rfl⟩, rfl⟩, fun d L' v I' H' e A x r => by subst e; cases r; rfl, fun _ _ _ _ z => z.elim⟩
theorem spLawT_len {ds : List DV} {L : Led} {P : PD} {R : Addr → Led → Prop} (h : spLawT ds L P R) : ds.length = 1 := by
  unfold spLawT at h
  split at h
  · rfl
  · exact h.elim
end AL
namespace AL
open PySem PySem.Spec PyProof.Rows L2
/-- is it an int and no bool -/
def isIntD : DV → Bool
  | .int _ => true
  | _ => false
theorem isIntD_of {d : DV} (h : isIntD d = true) : ∃ i, d = .int i := by
  cases d <;> first | exact ⟨_, rfl⟩ | cases h
theorem told.get {d : DV} {L : Led} {q : Prop} (h : told d L q) : q := by
  cases d <;> first | exact h | exact h.2 | exact h.elim
/-- the plain form -/
def red : Nat → Int → Int × Nat
  | 0, t => (t, 0)
  | p + 1, t => if t % 2 = 0 then red p (t / 2) else (t, p + 1)
theorem red_stop {t : Int} : ∀ {p : Nat}, p = 0 ∨ t % 2 ≠ 0 → red p t = (t, p)
  | 0, _ => rfl
  | p + 1, h => by
    rcases h with h | h
    · cases h
    · show (if t % 2 = 0 then red p (t / 2) else (t, p + 1)) = _
      rw [if_neg h]
theorem red_go {t : Int} {p : Nat} (h0 : 0 < p) (h : t % 2 = 0) : red p t = red (p - 1) (t / 2) := by
  obtain ⟨n, rfl⟩ : ∃ n, p = n + 1 := ⟨p - 1, by omega⟩
  show (if t % 2 = 0 then red n (t / 2) else (t, n + 1)) = _
  rw [if_pos h]; rfl
/-- what red leaves is plain -/
theorem red_plain : ∀ (p : Nat) (t : Int), (red p t).2 = 0 ∨ (red p t).1 % 2 ≠ 0
  | 0, t => .inl rfl
  | p + 1, t => by
    show (if t % 2 = 0 then red p (t / 2) else (t, p + 1)).2 = 0 ∨ (if t % 2 = 0 then red p (t / 2) else (t, p + 1)).1 % 2 ≠ 0
    by_cases h : t % 2 = 0
    · rw [if_pos h]; exact red_plain p (t / 2)
    · rw [if_neg h]; exact .inr h
/-- .. of the same worth, no higher -/
theorem red_val : ∀ (p : Nat) (t : Int), (red p t).2 ≤ p ∧ (red p t).1 * 2 ^ (p - (red p t).2) = t
  | 0, t => ⟨Nat.le_refl _, by show t * 2 ^ (0 - 0) = t; simp⟩
  | p + 1, t => by
    show (if t % 2 = 0 then red p (t / 2) else (t, p + 1)).2 ≤ p + 1 ∧ (if t % 2 = 0 then red p (t / 2) else (t, p + 1)).1 * 2 ^ (p + 1 - (if t % 2 = 0 then red p (t / 2) else (t, p + 1)).2) = t
    by_cases h : t % 2 = 0
    · rw [if_pos h]
      obtain ⟨h1, h2⟩ := red_val p (t / 2)
      refine ⟨Nat.le_succ_of_le h1, ?_⟩
      rw [show p + 1 - (red p (t / 2)).2 = (p - (red p (t / 2)).2) + 1 by omega, Int.pow_succ, ← Int.mul_assoc, h2]
      omega
    · rw [if_neg h]
      exact ⟨Nat.le_refl _, by simp⟩
theorem red_idem (p : Nat) (t : Int) : red (red p t).2 (red p t).1 = red p t := red_stop (red_plain p t)
theorem iabs (i : Int) : (if i < 0 then -i else i) = (i.natAbs : Int) := by split <;> omega
abbrev ksDy : List Str := ["_top", "_power"]
/-- a dyadic as data -/
def dy (G : Gx) (t : Int) (p : Nat) : DV := .ins G.Dyadic ksDy [.int t, .int p]
/-- the age of a plain form -/
def ageF (t : Int) (p : Nat) : Int := if p = 0 then (t.natAbs : Int) else (t.natAbs : Int) / 2 ^ p + p + 1
theorem natAbs_half (t : Int) : (t / 2).natAbs ≤ t.natAbs := by omega
theorem red_abs : ∀ (p : Nat) (t : Int), (red p t).1.natAbs ≤ t.natAbs
  | 0, t => Nat.le_refl _
  | p + 1, t => by
    show (if t % 2 = 0 then red p (t / 2) else (t, p + 1)).1.natAbs ≤ _
    by_cases h : t % 2 = 0
    · rw [if_pos h]; exact Nat.le_trans (red_abs p (t / 2)) (natAbs_half t)
    · rw [if_neg h]; exact Nat.le_refl _
theorem pow2_pos (n : Nat) : (0 : Int) < 2 ^ n := Int.pow_pos (by decide)
theorem one_pow2 (n : Nat) : (1 : Int) * 2 ^ n = 2 ^ n := Int.one_mul _
theorem cpow1 {n : Nat} (h : n ≤ 1000000) : CPow 1 (n : Int) := ⟨Int.natCast_nonneg n, by omega, by decide⟩
theorem cdiv_small {i j : Int} (h : 0 < j) (hj : j.natAbs < 2 ^ 64) : CDivW i j := ⟨h, Nat.lt_of_lt_of_le ((Nat.log2_lt (by omega)).mpr hj) (by decide)⟩
theorem cdiv_pow2 {i : Int} {n : Nat} (h : n < 9000) : CDivW i (2 ^ n) := ⟨pow2_pos n, by rw [Int.natAbs_pow]; show (2 ^ n).log2 < 9000; rw [Nat.log2_two_pow]; exact h⟩
/-- two numbers over one denominator, as written and in plain form -/
theorem red_cross (p p2 : Nat) (t t2 : Int) : ∃ S : Int, 0 < S ∧ t * 2 ^ p2 = (red p t).1 * 2 ^ (red p2 t2).2 * S ∧ t2 * 2 ^ p = (red p2 t2).1 * 2 ^ (red p t).2 * S := by
  obtain ⟨h1, h2⟩ := red_val p t
  obtain ⟨h3, h4⟩ := red_val p2 t2
  refine ⟨2 ^ (p - (red p t).2) * 2 ^ (p2 - (red p2 t2).2), Int.mul_pos (pow2_pos _) (pow2_pos _), ?_, ?_⟩
  · have e : (2 : Int) ^ p2 = 2 ^ (red p2 t2).2 * 2 ^ (p2 - (red p2 t2).2) := by rw [← Int.pow_add]; congr 1; omega
    conv => lhs; rw [← h2, e]
    ac_rfl
  · have e : (2 : Int) ^ p = 2 ^ (red p t).2 * 2 ^ (p - (red p t).2) := by rw [← Int.pow_add]; congr 1; omega
    conv => lhs; rw [← h4, e]
    ac_rfl
theorem red_lt (p p2 : Nat) (t t2 : Int) : (red p t).1 * 2 ^ (red p2 t2).2 < (red p2 t2).1 * 2 ^ (red p t).2 ↔ t * 2 ^ p2 < t2 * 2 ^ p := by
  obtain ⟨S, h0, h1, h2⟩ := red_cross p p2 t t2
  rw [h1, h2]
  exact ⟨fun h => Int.mul_lt_mul_of_pos_right h h0, fun h => Int.lt_of_mul_lt_mul_right h (Int.le_of_lt h0)⟩
theorem plain_eq {a a2 : Int} : ∀ {b b2 : Nat}, (b = 0 ∨ a % 2 ≠ 0) → (b2 = 0 ∨ a2 % 2 ≠ 0) → a * 2 ^ b2 = a2 * 2 ^ b → a = a2 ∧ b = b2
  | 0, 0, _, _, e => by simpa using e
  | 0, n + 1, _, h2, e => by
    rw [Int.pow_succ, Int.pow_zero, Int.mul_one, ← Int.mul_assoc] at e
    omega
  | n + 1, 0, h1, _, e => by
    rw [Int.pow_succ, Int.pow_zero, Int.mul_one, ← Int.mul_assoc] at e
    omega
  | n + 1, m + 1, h1, h2, e => by
    rw [Int.pow_succ, Int.pow_succ, ← Int.mul_assoc, ← Int.mul_assoc] at e
    have := plain_eq (b := n) (b2 := m) (.inr (by omega)) (.inr (by omega)) (Int.eq_of_mul_eq_mul_right (by decide) e)
    exact ⟨this.1, congrArg Nat.succ this.2⟩
theorem red_eq (p p2 : Nat) (t t2 : Int) : ((red p t).1 = (red p2 t2).1 ∧ (red p t).2 = (red p2 t2).2) ↔ t * 2 ^ p2 = t2 * 2 ^ p := by
  obtain ⟨S, h0, h1, h2⟩ := red_cross p p2 t t2
  rw [h1, h2]
  constructor
  · rintro ⟨e1, e2⟩
    rw [e1, e2]
  · intro h
    exact plain_eq (red_plain p t) (red_plain p2 t2) (Int.eq_of_mul_eq_mul_right (Int.ne_of_gt h0) h)
/-- a dyadic within the bounds, or BadValue -/
def dyOr (G : Gx) (r : Int × Nat) (L : Led) (P : PD) (R : Addr → Led → Prop) : Prop := if -10 ^ 12 ≤ r.1 ∧ r.1 ≤ 10 ^ 12 ∧ r.2 ≤ 40 then P (dy G (red r.2 r.1).1 (red r.2 r.1).2) L else R G.BadValue L
theorem dyOr.mk {G : Gx} {r : Int × Nat} {L : Led} {P : PD} {R : Addr → Led → Prop} (h : -10 ^ 12 ≤ r.1 ∧ r.1 ≤ 10 ^ 12 ∧ r.2 ≤ 40) (q : P (dy G (red r.2 r.1).1 (red r.2 r.1).2) L) : dyOr G r L P R := by
  unfold dyOr; rw [if_pos h]; exact q
theorem dyOr.bad {G : Gx} {r : Int × Nat} {L : Led} {P : PD} {R : Addr → Led → Prop} (h : ¬ (-10 ^ 12 ≤ r.1 ∧ r.1 ≤ 10 ^ 12 ∧ r.2 ≤ 40)) (q : R G.BadValue L) : dyOr G r L P R := by
  unfold dyOr; rw [if_neg h]; exact q
/-- what the program's numbers keep -/
def dyIn (t p : Int) : Prop := (-10 ^ 12 ≤ t ∧ t ≤ 10 ^ 12 ∧ 0 ≤ p ∧ p ≤ 40) ∧ (p.toNat = 0 ∨ t % 2 ≠ 0)
theorem dyIn.of {t : Int} {p : Nat} (h : -10 ^ 12 ≤ t ∧ t ≤ 10 ^ 12 ∧ p ≤ 40) : dyIn (red p t).1 (red p t).2 := by
  have q1 := red_abs p t
  have q2 := (red_val p t).1
  have q3 := red_plain p t
  refine ⟨⟨by omega, by omega, by omega, by omega⟩, ?_⟩
  rw [Int.toNat_natCast]
  exact q3
/-- the sum's plain form -/
def sumT (t : Int) (p : Nat) (t2 : Int) (p2 : Nat) : Int × Nat := red (max p p2) (t * 2 ^ (max p p2 - p) + t2 * 2 ^ (max p p2 - p2))
theorem red_same {p p2 : Nat} {t t2 : Int} (h : t * 2 ^ p2 = t2 * 2 ^ p) : red p t = red p2 t2 := by
  have := (red_eq p p2 t t2).mpr h
  exact Prod.ext this.1 this.2
theorem pow_go {a b c : Nat} (h1 : a ≤ b) (h2 : b ≤ c) : (2 : Int) ^ (b - a) * 2 ^ (c - b) = 2 ^ (c - a) := by
  rw [← Int.pow_add]; congr 1; omega
theorem redV {p : Nat} {t : Int} (h : p ≤ 40) : red 40 (t * 2 ^ (40 - p)) = red p t := by
  apply red_same
  rw [Int.mul_assoc, ← Int.pow_add]
  congr 2; omega
theorem redV2 {p : Nat} {t : Int} (h : p ≤ 40) : (red p t).1 * 2 ^ (40 - (red p t).2) = t * 2 ^ (40 - p) := by
  obtain ⟨h1, h2⟩ := red_val p t
  conv => rhs; rw [← h2]
  rw [Int.mul_assoc, pow_go h1 h]
theorem sumV {t t2 : Int} {p p2 : Nat} (h : p ≤ 40) (h2 : p2 ≤ 40) : sumT t p t2 p2 = red 40 (t * 2 ^ (40 - p) + t2 * 2 ^ (40 - p2)) := by
  unfold sumT
  rw [← redV (p := max p p2) (by omega), Int.add_mul, Int.mul_assoc, Int.mul_assoc, pow_go (by omega) (by omega), pow_go (by omega) (by omega)]
theorem red_neg : ∀ (p : Nat) (t : Int), red p (-t) = (-(red p t).1, (red p t).2)
  | 0, t => rfl
  | p + 1, t => by
    show (if -t % 2 = 0 then red p (-t / 2) else (-t, p + 1)) = (-(if t % 2 = 0 then red p (t / 2) else (t, p + 1)).1, (if t % 2 = 0 then red p (t / 2) else (t, p + 1)).2)
    by_cases h : t % 2 = 0
    · rw [if_pos h, if_pos (by omega), show -t / 2 = -(t / 2) by omega]
      exact red_neg p (t / 2)
    · rw [if_neg h, if_neg (by omega)]
theorem sumT_plain (t : Int) (p : Nat) (t2 : Int) (p2 : Nat) : (sumT t p t2 p2).2 = 0 ∨ (sumT t p t2 p2).1 % 2 ≠ 0 := red_plain _ _
theorem sumT_pow (t : Int) (p : Nat) (t2 : Int) (p2 : Nat) : (sumT t p t2 p2).2 ≤ max p p2 := (red_val _ _).1
theorem red_self {r : Int × Nat} (h : r.2 = 0 ∨ r.1 % 2 ≠ 0) : red r.2 r.1 = r := red_stop h
theorem red_half {p : Nat} {t : Int} : red ((red p t).2 + 1) (red p t).1 = red (p + 1) t := by
  apply red_same
  obtain ⟨h1, h2⟩ := red_val p t
  conv => rhs; lhs; rw [← h2]
  rw [Int.mul_assoc, ← Int.pow_add]
  congr 2; omega
/-- the walk of a number's days: k days on, here stands between lo and hi -/
inductive WS (t : Int) (p : Nat) : Nat → Int → DV → DV → Prop
  | up (k : Nat) (lo : DV) (h : 0 ≤ t) (hk : k = 0 ∨ (lo = .int ((k : Int) * 2 ^ 40 - 2 ^ 40) ∧ (k : Int) * 2 ^ 40 - 2 ^ 40 < t * 2 ^ (40 - p))) : WS t p k ((k : Int) * 2 ^ 40) lo .non
  | dn (k : Nat) (hi : DV) (h : t < 0) (hk : k = 0 ∨ (hi = .int (2 ^ 40 - (k : Int) * 2 ^ 40) ∧ t * 2 ^ (40 - p) < 2 ^ 40 - (k : Int) * 2 ^ 40)) : WS t p k (-((k : Int) * 2 ^ 40)) .non hi
  | mid (k j : Nat) (m A : Int) (h1 : 1 ≤ j) (h2 : j ≤ p) (hk : k = t.natAbs / 2 ^ p + 1 + j) (hA : A = m * 2 ^ (40 - j)) (l : A - 2 ^ (40 - j) < t * 2 ^ (40 - p)) (r : t * 2 ^ (40 - p) < A + 2 ^ (40 - j)) : WS t p k A (.int (A - 2 ^ (40 - j))) (.int (A + 2 ^ (40 - j)))
theorem pow_split {j p : Nat} (h1 : j ≤ p) (h : p ≤ 40) : (2 : Int) ^ (40 - j) = 2 ^ (p - j) * 2 ^ (40 - p) := by
  rw [← Int.pow_add]; congr 1; omega
theorem pow_half {j : Nat} (h : j < 40) : (2 : Int) ^ (40 - j) = 2 * 2 ^ (40 - (j + 1)) := by
  rw [show 40 - j = (40 - (j + 1)) + 1 by omega, Int.pow_succ, Int.mul_comm]
theorem pow_all {p : Nat} (h : p ≤ 40) : (2 : Int) ^ 40 = 2 ^ p * 2 ^ (40 - p) := pow_split (j := 0) (Nat.zero_le p) h
theorem div_is {a k : Nat} {b : Nat} (h1 : k * b ≤ a) (h2 : a < k * b + b) : a / b = k := by
  have hb : 0 < b := by omega
  apply Nat.div_eq_of_lt_le h1
  rw [Nat.succ_mul]; exact h2
section
variable {t : Int} {p k : Nat} {here : Int} {lo hi : DV}
theorem even_no {m : Int} {j : Nat} (hp : p = 0 ∨ t % 2 ≠ 0) (hj : j < p) (h4 : p ≤ 40) (e : m * 2 ^ (40 - j) = t * 2 ^ (40 - p)) : False := by
  have e2 : m * 2 ^ (p - j) = t := by
    rw [pow_split (Nat.le_of_lt hj) h4, ← Int.mul_assoc] at e
    exact Int.eq_of_mul_eq_mul_right (Int.ne_of_gt (pow2_pos _)) e
  rcases hp with hp | hp
  · omega
  · apply hp
    rw [← e2, show p - j = (p - j - 1) + 1 by omega, Int.pow_succ, ← Int.mul_assoc]
    omega
theorem n_of {a : Nat} {g : Int} (h4 : p ≤ 40) (e : g = (a : Int) * 2 ^ (40 - p)) {k : Nat} (h1 : (k : Int) * 2 ^ 40 < g) (h2 : g < (k : Int) * 2 ^ 40 + 2 ^ 40) : a / 2 ^ p = k ∧ 0 < p := by
  rw [pow_all h4, ← Int.mul_assoc, e] at h1
  rw [pow_all h4, ← Int.mul_assoc, e, ← Int.add_mul] at h2
  have z1 := Int.lt_of_mul_lt_mul_right h1 (Int.le_of_lt (pow2_pos _))
  have z2 := Int.lt_of_mul_lt_mul_right h2 (Int.le_of_lt (pow2_pos _))
  have c : ((2 ^ p : Nat) : Int) = 2 ^ p := by push_cast; rfl
  have z3 : k * 2 ^ p < a := by
    have : ((k * 2 ^ p : Nat) : Int) < a := by push_cast; exact z1
    exact Int.ofNat_lt.mp this
  have z4 : a < k * 2 ^ p + 2 ^ p := by
    have : (a : Int) < ((k * 2 ^ p + 2 ^ p : Nat) : Int) := by push_cast; exact z2
    exact Int.ofNat_lt.mp this
  refine ⟨div_is (Nat.le_of_lt z3) z4, ?_⟩
  rcases Nat.eq_zero_or_pos p with z | z
  · subst z; rw [Nat.pow_zero] at z3 z4; omega
  · exact z
theorem WS.first : WS t p 0 0 .non .non := by
  by_cases h : 0 ≤ t
  · have := WS.up (t := t) (p := p) 0 .non h (.inl rfl)
    simpa using this
  · have := WS.dn (t := t) (p := p) 0 .non (by omega) (.inl rfl)
    simpa using this
theorem WS.met (w : WS t p k here lo hi) (h4 : p ≤ 40) (hp : p = 0 ∨ t % 2 ≠ 0) (e : here = t * 2 ^ (40 - p)) : (k : Int) = ageF t p := by
  unfold ageF
  cases w with
  | up lo h hk =>
    by_cases z : p = 0
    · subst z
      rw [if_pos rfl]
      have := Int.eq_of_mul_eq_mul_right (by decide) e
      omega
    · exact (even_no (j := 0) hp (by omega) h4 e).elim
  | dn hi h hk =>
    rw [← Int.neg_mul] at e
    by_cases z : p = 0
    · subst z
      rw [if_pos rfl]
      have := Int.eq_of_mul_eq_mul_right (by decide) e
      omega
    · exact (even_no (j := 0) hp (by omega) h4 e).elim
  | mid j m A h1 h2 hk hA l r =>
    by_cases z : j = p
    · subst z
      rw [if_neg (by omega), hk]
      push_cast
      omega
    · rw [hA] at e
      exact (even_no hp (by omega) h4 e).elim
theorem mid_p {m A : Int} {j : Nat} (hA : A = m * 2 ^ (40 - j)) (l : A - 2 ^ (40 - j) < t * 2 ^ (40 - j)) (r : t * 2 ^ (40 - j) < A + 2 ^ (40 - j)) : A = t * 2 ^ (40 - j) := by
  rw [hA] at l r ⊢
  have l2 : (m - 1) * 2 ^ (40 - j) < t * 2 ^ (40 - j) := by rw [Int.sub_mul, Int.one_mul]; exact l
  have r2 : t * 2 ^ (40 - j) < (m + 1) * 2 ^ (40 - j) := by rw [Int.add_mul, Int.one_mul]; exact r
  have z1 := Int.lt_of_mul_lt_mul_right l2 (Int.le_of_lt (pow2_pos _))
  have z2 := Int.lt_of_mul_lt_mul_right r2 (Int.le_of_lt (pow2_pos _))
  rw [show m = t by omega]
/-- goal ahead -/
theorem WS.more (w : WS t p k here lo hi) (h4 : p ≤ 40) (e : here < t * 2 ^ (40 - p)) : (hi = .non ∧ WS t p (k + 1) (here + 2 ^ 40) (.int here) .non) ∨ ∃ i, hi = .int i ∧ WS t p (k + 1) ((here + i) / 2) (.int here) (.int i) := by
  cases w with
  | up lo h hk =>
    refine .inl ⟨rfl, ?_⟩
    have := WS.up (t := t) (p := p) (k + 1) (.int ((k : Int) * 2 ^ 40)) h (.inr ⟨?_, ?_⟩)
    · rw [show ((k + 1 : Nat) : Int) * 2 ^ 40 = (k : Int) * 2 ^ 40 + 2 ^ 40 by omega] at this
      exact this
    · exact congrArg DV.int (by omega)
    · omega
  | dn hi h hk =>
    rcases hk with hk | ⟨rfl, hk⟩
    · subst hk
      have : t * 2 ^ (40 - p) < 0 := Int.mul_neg_of_neg_of_pos h (pow2_pos _)
      omega
    refine .inr ⟨_, rfl, ?_⟩
    have hk0 : 0 < k := by
      rcases Nat.eq_zero_or_pos k with z | z
      · subst z
        have : t * 2 ^ (40 - p) < 0 := Int.mul_neg_of_neg_of_pos h (pow2_pos _)
        omega
      · exact z
    obtain ⟨n, rfl⟩ : ∃ n, k = n + 1 := ⟨k - 1, by omega⟩
    have en : ((n + 1 : Nat) : Int) * 2 ^ 40 = (n : Int) * 2 ^ 40 + 2 ^ 40 := by omega
    rw [en] at e hk ⊢
    have eg : -(t * 2 ^ (40 - p)) = (t.natAbs : Int) * 2 ^ (40 - p) := by rw [← Int.neg_mul]; congr 1; omega
    obtain ⟨e1, e2⟩ := n_of h4 eg (k := n) (by omega) (by omega)
    have := WS.mid (t := t) (p := p) (n + 1 + 1) 1 (-(2 * (n : Int) + 1)) (-(n : Int) * 2 ^ 40 - 2 ^ 39) (by omega) (by omega) (by rw [e1]) (by show _ = _ * 2 ^ 39; omega) (by show _ - 2 ^ 39 < _; omega) (by show _ < _ + 2 ^ 39; omega)
    have a1 : (-((n : Int) * 2 ^ 40 + 2 ^ 40) + (2 ^ 40 - ((n : Int) * 2 ^ 40 + 2 ^ 40))) / 2 = -(n : Int) * 2 ^ 40 - 2 ^ 39 := by omega
    have a2 : -((n : Int) * 2 ^ 40 + 2 ^ 40) = -(n : Int) * 2 ^ 40 - 2 ^ 39 - 2 ^ (40 - 1) := by show _ = _ - (2 : Int) ^ 39; omega
    have a3 : (2 : Int) ^ 40 - ((n : Int) * 2 ^ 40 + 2 ^ 40) = -(n : Int) * 2 ^ 40 - 2 ^ 39 + 2 ^ (40 - 1) := by show _ = _ + (2 : Int) ^ 39; omega
    rw [a1, a2, a3]
    exact this
  | mid j m A h1 h2 hk hA l r =>
    refine .inr ⟨_, rfl, ?_⟩
    have hj : j < p := by
      rcases Nat.lt_or_eq_of_le h2 with z | z
      · exact z
      · subst z
        have := mid_p hA l r
        omega
    have ph := pow_half (j := j) (by omega)
    have := WS.mid (t := t) (p := p) (k + 1) (j + 1) (2 * m + 1) (here + 2 ^ (40 - (j + 1))) (by omega) (by omega) (by omega) (by rw [hA, ph, Int.add_mul, Int.one_mul, Int.mul_left_comm, Int.mul_assoc]) (by omega) (by omega)
    rw [show (here + (here + 2 ^ (40 - j))) / 2 = here + 2 ^ (40 - (j + 1)) by omega]
    rw [show here + 2 ^ (40 - (j + 1)) - 2 ^ (40 - (j + 1)) = here by omega, show here + 2 ^ (40 - (j + 1)) + 2 ^ (40 - (j + 1)) = here + 2 ^ (40 - j) by omega] at this
    exact this
/-- goal behind -/
theorem WS.less (w : WS t p k here lo hi) (h4 : p ≤ 40) (e : t * 2 ^ (40 - p) < here) : (lo = .non ∧ WS t p (k + 1) (here - 2 ^ 40) .non (.int here)) ∨ ∃ i, lo = .int i ∧ WS t p (k + 1) ((here + i) / 2) (.int i) (.int here) := by
  cases w with
  | dn hi h hk =>
    refine .inl ⟨rfl, ?_⟩
    have := WS.dn (t := t) (p := p) (k + 1) (.int (-((k : Int) * 2 ^ 40))) h (.inr ⟨?_, ?_⟩)
    · rw [show -(((k + 1 : Nat) : Int) * 2 ^ 40) = -((k : Int) * 2 ^ 40) - 2 ^ 40 by omega] at this
      exact this
    · exact congrArg DV.int (by omega)
    · omega
  | up lo h hk =>
    have h0 : 0 ≤ t * 2 ^ (40 - p) := Int.mul_nonneg h (Int.le_of_lt (pow2_pos _))
    rcases hk with hk | ⟨rfl, hk⟩
    · subst hk
      omega
    refine .inr ⟨_, rfl, ?_⟩
    have hk0 : 0 < k := by
      rcases Nat.eq_zero_or_pos k with z | z
      · subst z; omega
      · exact z
    obtain ⟨n, rfl⟩ : ∃ n, k = n + 1 := ⟨k - 1, by omega⟩
    have en : ((n + 1 : Nat) : Int) * 2 ^ 40 = (n : Int) * 2 ^ 40 + 2 ^ 40 := by omega
    rw [en] at e hk ⊢
    have eg : t * 2 ^ (40 - p) = (t.natAbs : Int) * 2 ^ (40 - p) := by congr 1; omega
    obtain ⟨e1, e2⟩ := n_of h4 eg (k := n) (by omega) (by omega)
    have := WS.mid (t := t) (p := p) (n + 1 + 1) 1 (2 * (n : Int) + 1) ((n : Int) * 2 ^ 40 + 2 ^ 39) (by omega) (by omega) (by rw [e1]) (by show _ = _ * 2 ^ 39; omega) (by show _ - 2 ^ 39 < _; omega) (by show _ < _ + 2 ^ 39; omega)
    have a1 : ((n : Int) * 2 ^ 40 + 2 ^ 40 + ((n : Int) * 2 ^ 40 + 2 ^ 40 - 2 ^ 40)) / 2 = (n : Int) * 2 ^ 40 + 2 ^ 39 := by omega
    have a2 : (n : Int) * 2 ^ 40 + 2 ^ 40 - 2 ^ 40 = (n : Int) * 2 ^ 40 + 2 ^ 39 - 2 ^ (40 - 1) := by show _ = _ - (2 : Int) ^ 39; omega
    have a3 : (n : Int) * 2 ^ 40 + 2 ^ 40 = (n : Int) * 2 ^ 40 + 2 ^ 39 + 2 ^ (40 - 1) := by show _ = _ + (2 : Int) ^ 39; omega
    rw [a1, a2, a3]
    exact this
  | mid j m A h1 h2 hk hA l r =>
    refine .inr ⟨_, rfl, ?_⟩
    have hj : j < p := by
      rcases Nat.lt_or_eq_of_le h2 with z | z
      · exact z
      · subst z
        have := mid_p hA l r
        omega
    have ph := pow_half (j := j) (by omega)
    have := WS.mid (t := t) (p := p) (k + 1) (j + 1) (2 * m - 1) (here - 2 ^ (40 - (j + 1))) (by omega) (by omega) (by omega) (by rw [hA, ph, Int.sub_mul, Int.one_mul, Int.mul_left_comm, Int.mul_assoc]) (by omega) (by omega)
    rw [show (here + (here - 2 ^ (40 - j))) / 2 = here - 2 ^ (40 - (j + 1)) by omega]
    rw [show here - 2 ^ (40 - (j + 1)) - 2 ^ (40 - (j + 1)) = here - 2 ^ (40 - j) by omega, show here - 2 ^ (40 - (j + 1)) + 2 ^ (40 - (j + 1)) = here by omega] at this
    exact this
theorem WS.few (w : WS t p k here lo hi) (h4 : p ≤ 40) (hs : t.natAbs ≤ 50 * 2 ^ p) : k < 100 := by
  have big : ∀ n : Nat, 60 ≤ n → (n : Int) * 2 ^ 40 - 2 ^ 40 < (t.natAbs : Int) * 2 ^ (40 - p) → False := fun n hn z => by
    have h1 : (t.natAbs : Int) * 2 ^ (40 - p) ≤ ((50 * 2 ^ p : Nat) : Int) * 2 ^ (40 - p) := Int.mul_le_mul_of_nonneg_right (by omega) (Int.le_of_lt (pow2_pos _))
    have h2 : ((50 * 2 ^ p : Nat) : Int) * 2 ^ (40 - p) = 50 * 2 ^ 40 := by
      rw [pow_all h4]; push_cast; rw [Int.mul_assoc]
    rw [h2] at h1
    omega
  cases w with
  | up lo h hk =>
    rcases hk with hk | ⟨_, hk⟩
    · omega
    · rcases Nat.lt_or_ge k 100 with z | z
      · exact z
      · refine (big k (by omega) ?_).elim
        rw [show ((t.natAbs : Nat) : Int) = t by omega]; exact hk
  | dn hi h hk =>
    rcases hk with hk | ⟨_, hk⟩
    · omega
    · rcases Nat.lt_or_ge k 100 with z | z
      · exact z
      · refine (big k (by omega) ?_).elim
        rw [show ((t.natAbs : Nat) : Int) = -t by omega, Int.neg_mul]; omega
  | mid j m A h1 h2 hk hA l r =>
    have : t.natAbs / 2 ^ p ≤ 50 := Nat.div_le_of_le_mul (by rw [Nat.mul_comm]; exact hs)
    omega
end
/-- a number in 2^40ths -/
def V40 (a : Int) (b : Nat) : Int := a * 2 ^ (40 - b)
theorem less_V {t t2 : Int} {p p2 : Nat} (h : p ≤ 40) (h2 : p2 ≤ 40) : t * 2 ^ p2 < t2 * 2 ^ p ↔ V40 t p < V40 t2 p2 := by
  unfold V40
  have e1 : t * 2 ^ p2 * 2 ^ 40 = t * 2 ^ (40 - p) * (2 ^ p * 2 ^ p2) := by
    rw [pow_all h]; ac_rfl
  have e2 : t2 * 2 ^ p * 2 ^ 40 = t2 * 2 ^ (40 - p2) * (2 ^ p * 2 ^ p2) := by
    rw [pow_all h2]; ac_rfl
  have hp : (0 : Int) < 2 ^ p * 2 ^ p2 := Int.mul_pos (pow2_pos _) (pow2_pos _)
  constructor
  · intro z
    have := Int.mul_lt_mul_of_pos_right z (pow2_pos 40)
    rw [e1, e2] at this
    exact Int.lt_of_mul_lt_mul_right this (Int.le_of_lt hp)
  · intro z
    have := Int.mul_lt_mul_of_pos_right z hp
    rw [← e1, ← e2] at this
    exact Int.lt_of_mul_lt_mul_right this (by decide)
structure Simp (lo hi : Option Int) (a : Int) (b : Nat) : Prop where
  hb : b ≤ 40
  pl : b = 0 ∨ a % 2 ≠ 0
  lo_ : ∀ l, lo = some l → l < V40 a b
  hi_ : ∀ h, hi = some h → V40 a b < h
  nb : 0 < b → (∃ l, lo = some l ∧ V40 (a - 1) b ≤ l) ∧ ∃ h, hi = some h ∧ h ≤ V40 (a + 1) b
  n0 : b = 0 → a = 0 ∨ (0 < a ∧ ∃ l, lo = some l ∧ V40 (a - 1) 0 ≤ l) ∨ (a < 0 ∧ ∃ h, hi = some h ∧ h ≤ V40 (a + 1) 0)
theorem V_split {c : Int} {d b : Nat} (h : d ≤ b) (hb : b ≤ 40) : V40 c d = c * 2 ^ (b - d) * 2 ^ (40 - b) := by
  unfold V40; rw [pow_split h hb, Int.mul_assoc]
theorem V_zero (a : Int) {d : Nat} (h : d ≤ 40) : V40 a 0 = a * 2 ^ d * 2 ^ (40 - d) := V_split (Nat.zero_le d) h
theorem mul_lt_of {a b k : Int} (h : 0 < k) (z : a * k < b * k) : a < b := Int.lt_of_mul_lt_mul_right z (Int.le_of_lt h)
theorem div_ge {a k b : Nat} (hb : 0 < b) (h : k * b ≤ a) : k ≤ a / b := (Nat.le_div_iff_mul_le hb).mpr h
theorem ageF_pos {c : Int} {d : Nat} (h : 0 < d) : ageF c d = ((c.natAbs / 2 ^ d + d + 1 : Nat) : Int) := by
  unfold ageF; rw [if_neg (by omega)]; push_cast; rfl
theorem ageF_zero {c : Int} : ageF c 0 = (c.natAbs : Int) := by
  unfold ageF; rw [if_pos rfl]
/-- of the numbers between, the simplest is the youngest -/
theorem Simp.young {lo hi : Option Int} {a : Int} {b : Nat} (s : Simp lo hi a b) {c : Int} {d : Nat} (hd : d ≤ 40) (pc : d = 0 ∨ c % 2 ≠ 0) (l1 : ∀ l, lo = some l → l < V40 c d) (h1 : ∀ h, hi = some h → V40 c d < h) : (c = a ∧ d = b) ∨ ageF a b < ageF c d := by
  rcases Nat.eq_zero_or_pos b with hb0 | hb0
  · subst hb0
    rcases s.n0 rfl with rfl | ⟨ha, l, el, hl⟩ | ⟨ha, h, eh, hh⟩
    · rcases Nat.eq_zero_or_pos d with z | z
      · subst z
        rw [ageF_zero, ageF_zero]
        omega
      · rw [ageF_zero, ageF_pos z]
        right; simp only [Int.natAbs_zero]; generalize c.natAbs / 2 ^ d = q; omega
    · have q := Int.lt_of_le_of_lt hl (l1 l el)
      rw [V_zero _ hd] at q
      have q := mul_lt_of (pow2_pos _) q
      rcases Nat.eq_zero_or_pos d with z | z
      · subst z
        rw [Int.pow_zero, Int.mul_one] at q
        rw [ageF_zero, ageF_zero]
        omega
      · rw [ageF_zero, ageF_pos z]
        have w : a.natAbs - 1 ≤ c.natAbs / 2 ^ d := by
          apply div_ge (Nat.pow_pos (by decide))
          have e : (((a.natAbs - 1) * 2 ^ d : Nat) : Int) = (a - 1) * 2 ^ d := by
            rw [Int.natCast_mul, show ((a.natAbs - 1 : Nat) : Int) = a - 1 by omega]; push_cast; rfl
          have : 0 ≤ (a - 1) * 2 ^ d := Int.mul_nonneg (by omega) (Int.le_of_lt (pow2_pos d))
          omega
        right; omega
    · have q := Int.lt_of_lt_of_le (h1 h eh) hh
      rw [V_zero _ hd] at q
      have q := mul_lt_of (pow2_pos _) q
      rcases Nat.eq_zero_or_pos d with z | z
      · subst z
        rw [Int.pow_zero, Int.mul_one] at q
        rw [ageF_zero, ageF_zero]
        omega
      · rw [ageF_zero, ageF_pos z]
        have w : a.natAbs - 1 ≤ c.natAbs / 2 ^ d := by
          apply div_ge (Nat.pow_pos (by decide))
          have e : (((a.natAbs - 1) * 2 ^ d : Nat) : Int) = -((a + 1) * 2 ^ d) := by
            rw [Int.natCast_mul, show ((a.natAbs - 1 : Nat) : Int) = -(a + 1) by omega]; push_cast; rw [Int.neg_mul]
          have : 0 ≤ (-(a + 1)) * 2 ^ d := Int.mul_nonneg (by omega) (Int.le_of_lt (pow2_pos d))
          rw [Int.neg_mul] at this
          omega
        right; omega
  · obtain ⟨⟨l, el, hl⟩, h, eh, hh⟩ := s.nb hb0
    have ho : a % 2 ≠ 0 := by rcases s.pl with z | z <;> omega
    have q1 := Int.lt_of_le_of_lt hl (l1 l el)
    have q2 := Int.lt_of_lt_of_le (h1 h eh) hh
    have hb := s.hb
    rcases Nat.lt_or_ge b d with hbd | hbd
    · right
      rw [V_split (Nat.le_of_lt hbd) hd] at q1 q2
      have q1 := mul_lt_of (pow2_pos _) (show (a - 1) * 2 ^ (d - b) * 2 ^ (40 - d) < c * 2 ^ (40 - d) from q1)
      have q2 := mul_lt_of (pow2_pos _) (show c * 2 ^ (40 - d) < (a + 1) * 2 ^ (d - b) * 2 ^ (40 - d) from q2)
      rw [Int.sub_mul, Int.one_mul] at q1
      rw [Int.add_mul, Int.one_mul] at q2
      have hK := pow2_pos (d - b)
      obtain ⟨n, hn⟩ : ∃ n, n = a.natAbs / 2 ^ b := ⟨_, rfl⟩
      have n1 : n * 2 ^ b ≤ a.natAbs - 1 := by
        have z : n * 2 ^ b ≤ a.natAbs := by rw [hn]; exact Nat.div_mul_le_self _ _
        have : n * 2 ^ b ≠ a.natAbs := fun e => ho (by
          obtain ⟨m, rfl⟩ : ∃ m, b = m + 1 := ⟨b - 1, by omega⟩
          rw [Nat.pow_succ, ← Nat.mul_assoc] at e
          omega)
        omega
      have n2 : a.natAbs + 1 ≤ (n + 1) * 2 ^ b := by
        have := Nat.lt_div_mul_add (a := a.natAbs) (b := 2 ^ b) (Nat.pow_pos (by decide))
        rw [← hn] at this
        rw [Nat.add_mul, Nat.one_mul]
        omega
      have e : 2 ^ b * 2 ^ (d - b) = 2 ^ d := by rw [← Nat.pow_add]; congr 1; omega
      have m1 : n * 2 ^ d ≤ (a.natAbs - 1) * 2 ^ (d - b) := by
        rw [← e, ← Nat.mul_assoc]; exact Nat.mul_le_mul_right _ n1
      have m2 : (a.natAbs + 1) * 2 ^ (d - b) ≤ n * 2 ^ d + 2 ^ d := by
        have := Nat.mul_le_mul_right (2 ^ (d - b)) n2
        rw [Nat.mul_assoc, e, show (n + 1) * 2 ^ d = n * 2 ^ d + 2 ^ d by rw [Nat.add_mul, Nat.one_mul]] at this
        exact this
      have c1 : (((a.natAbs - 1) * 2 ^ (d - b) : Nat) : Int) = (a.natAbs : Int) * 2 ^ (d - b) - 2 ^ (d - b) := by
        rw [Int.natCast_mul, show ((a.natAbs - 1 : Nat) : Int) = (a.natAbs : Int) - 1 by omega, Int.sub_mul, Int.one_mul]; push_cast; rfl
      have c2 : (((a.natAbs + 1) * 2 ^ (d - b) : Nat) : Int) = (a.natAbs : Int) * 2 ^ (d - b) + 2 ^ (d - b) := by
        rw [Int.natCast_mul, show ((a.natAbs + 1 : Nat) : Int) = (a.natAbs : Int) + 1 by omega, Int.add_mul, Int.one_mul]; push_cast; rfl
      have key : (a.natAbs : Int) * 2 ^ (d - b) - 2 ^ (d - b) < c.natAbs ∧ (c.natAbs : Int) < (a.natAbs : Int) * 2 ^ (d - b) + 2 ^ (d - b) := by
        by_cases ha : 0 < a
        · rw [show (a.natAbs : Int) = a by omega]
          have : 0 ≤ (a - 1) * 2 ^ (d - b) := Int.mul_nonneg (by omega) (Int.le_of_lt hK)
          rw [Int.sub_mul, Int.one_mul] at this
          omega
        · rw [show (a.natAbs : Int) = -a by omega, Int.neg_mul]
          have : 0 ≤ (-a - 1) * 2 ^ (d - b) := Int.mul_nonneg (by omega) (Int.le_of_lt hK)
          rw [Int.sub_mul, Int.one_mul, Int.neg_mul] at this
          omega
      have en : c.natAbs / 2 ^ d = n := div_is (by omega) (by omega)
      rw [ageF_pos hb0, ageF_pos (by omega), en, ← hn]
      omega
    · left
      rw [V_split hbd hb] at q1 q2
      have q1 := mul_lt_of (pow2_pos _) (show (a - 1) * 2 ^ (40 - b) < c * 2 ^ (b - d) * 2 ^ (40 - b) from q1)
      have q2 := mul_lt_of (pow2_pos _) (show c * 2 ^ (b - d) * 2 ^ (40 - b) < (a + 1) * 2 ^ (40 - b) from q2)
      rcases Nat.lt_or_eq_of_le hbd with z | z
      · exfalso
        rw [show b - d = (b - d - 1) + 1 by omega, Int.pow_succ, ← Int.mul_assoc] at q1 q2
        omega
      · subst z
        rw [Nat.sub_self, Int.pow_zero, Int.mul_one] at q1 q2
        exact ⟨by omega, rfl⟩
theorem Simp.uniq {lo hi : Option Int} {a c : Int} {b d : Nat} (s : Simp lo hi a b) (r : Simp lo hi c d) : a = c ∧ b = d := by
  rcases s.young r.hb r.pl r.lo_ r.hi_ with h | h
  · exact ⟨h.1.symm, h.2.symm⟩
  · rcases r.young s.hb s.pl s.lo_ s.hi_ with h2 | h2
    · exact h2
    · omega
theorem V_neg (a : Int) (b : Nat) : V40 (-a) b = -V40 a b := Int.neg_mul _ _
theorem Simp.neg {lo hi : Option Int} {a : Int} {b : Nat} (s : Simp lo hi a b) : Simp (hi.map fun x => -x) (lo.map fun x => -x) (-a) b := by
  have mp : ∀ {o : Option Int} {x : Int}, (o.map fun x => -x) = some x → ∃ y, o = some y ∧ x = -y := fun {o x} e => by
    cases o with
    | none => cases e
    | some y => exact ⟨y, rfl, (Option.some.inj e).symm⟩
  refine ⟨s.hb, by have := s.pl; omega, fun l e => ?_, fun h e => ?_, fun hb => ?_, fun hb => ?_⟩
  · obtain ⟨y, ey, rfl⟩ := mp e
    have := s.hi_ y ey
    rw [V_neg]; omega
  · obtain ⟨y, ey, rfl⟩ := mp e
    have := s.lo_ y ey
    rw [V_neg]; omega
  · obtain ⟨⟨l, el, hl⟩, h, eh, hh⟩ := s.nb hb
    refine ⟨⟨-h, by rw [eh]; rfl, ?_⟩, -l, by rw [el]; rfl, ?_⟩
    · rw [show -a - 1 = -(a + 1) by omega, V_neg]; omega
    · rw [show -a + 1 = -(a - 1) by omega, V_neg]; omega
  · rcases s.n0 hb with rfl | ⟨ha, l, el, hl⟩ | ⟨ha, h, eh, hh⟩
    · exact .inl rfl
    · refine .inr (.inr ⟨by omega, -l, by rw [el]; rfl, ?_⟩)
      rw [show -a + 1 = -(a - 1) by omega, V_neg]; omega
    · refine .inr (.inl ⟨by omega, -h, by rw [eh]; rfl, ?_⟩)
      rw [show -a - 1 = -(a + 1) by omega, V_neg]; omega
/-- the number next above l with this power -/
def nextUp (l : Int) (k : Nat) : Int := l / 2 ^ (40 - k) + 1
def okUp (l : Int) (hi : Option Int) (k : Nat) : Prop := ∀ h, hi = some h → V40 (nextUp l k) k < h
theorem next_above (l : Int) (k : Nat) : l < V40 (nextUp l k) k ∧ V40 (nextUp l k - 1) k ≤ l := by
  unfold V40 nextUp
  have h := pow2_pos (40 - k)
  have e := Int.mul_ediv_add_emod l (2 ^ (40 - k))
  have h1 := Int.emod_nonneg l (Int.ne_of_gt h)
  have h2 := Int.emod_lt_of_pos l h
  rw [Int.mul_comm] at e
  rw [Int.add_mul, Int.one_mul, show l / 2 ^ (40 - k) + 1 - 1 = l / 2 ^ (40 - k) by omega]
  omega
theorem next_half {l : Int} {k : Nat} (hk : k < 40) : l / 2 ^ (40 - k) = l / 2 ^ (40 - (k + 1)) / 2 := by
  rw [pow_half hk, Int.mul_comm, Int.ediv_ediv_of_nonneg (Int.le_of_lt (pow2_pos _))]
theorem Simp.above {l : Int} {hi : Option Int} {k : Nat} (h0 : 0 ≤ l) (hk : k ≤ 40) (ok : okUp l hi k) (least : ∀ j < k, ¬ okUp l hi j) : Simp (some l) hi (nextUp l k) k := by
  obtain ⟨n1, n2⟩ := next_above l k
  have step : 0 < k → l / 2 ^ (40 - (k - 1)) = l / 2 ^ (40 - k) / 2 := fun z => by
    have := next_half (l := l) (k := k - 1) (by omega)
    rw [show k - 1 + 1 = k by omega] at this
    exact this
  have half : 0 < k → (2 : Int) ^ (40 - (k - 1)) = 2 * 2 ^ (40 - k) := fun z => by
    have := pow_half (j := k - 1) (by omega)
    rw [show k - 1 + 1 = k by omega] at this
    exact this
  have odd : 0 < k → nextUp l k % 2 ≠ 0 := fun z e => least (k - 1) (by omega) fun h eh => by
    have := ok h eh
    unfold V40 nextUp at this ⊢
    unfold nextUp at e
    rw [step z, half z]
    have e2 : (l / 2 ^ (40 - k) / 2 + 1) * (2 * 2 ^ (40 - k)) = (l / 2 ^ (40 - k) + 1) * 2 ^ (40 - k) := by
      rw [← Int.mul_assoc]; congr 1; omega
    rw [e2]; exact this
  refine ⟨hk, ?_, fun x e => by cases e; exact n1, ok, fun z => ⟨⟨l, rfl, n2⟩, ?_⟩, fun z => .inr (.inl ⟨?_, l, rfl, ?_⟩)⟩
  · rcases Nat.eq_zero_or_pos k with z | z
    · exact .inl z
    · exact .inr (odd z)
  · have := least (k - 1) (by omega)
    unfold okUp at this
    simp only [Classical.not_forall] at this
    obtain ⟨h, eh, hn⟩ := this
    refine ⟨h, eh, ?_⟩
    have o := odd z
    unfold V40 nextUp at hn ⊢
    unfold nextUp at o
    rw [step z, half z] at hn
    have e2 : (l / 2 ^ (40 - k) / 2 + 1) * (2 * 2 ^ (40 - k)) = (l / 2 ^ (40 - k) + 1 + 1) * 2 ^ (40 - k) := by
      rw [← Int.mul_assoc]; congr 1; omega
    rw [e2] at hn
    omega
  · subst z
    unfold nextUp
    have := Int.ediv_nonneg h0 (Int.le_of_lt (pow2_pos (40 - 0)))
    omega
  · subst z; exact n2
theorem ok_last {l : Int} {hi : Option Int} (h : ∀ x, hi = some x → l + 1 < x) : okUp l hi 40 := fun x e => by
  unfold V40 nextUp
  have := h x e
  simp
  omega
/-! ### bounds as data -/
/-- a bound: none, or a number with its denominator's power -/
abbrev Bd := Option (Int × Nat)
def bdD : Bd → DV
  | none => .non
  | some (t, p) => .tup [.int t, .int (p : Nat)]
def bdN (G : Gx) : Bd → DV
  | none => .non
  | some (t, p) => dy G (red p t).1 (red p t).2
def bdV (b : Bd) : Option Int := b.map fun x => V40 x.1 x.2
def bdIn (b : Bd) : Prop := ∀ t p, b = some (t, p) → -10 ^ 11 ≤ t ∧ t ≤ 10 ^ 11 ∧ p ≤ 39
theorem red_V {t : Int} {p : Nat} (h : p ≤ 40) : V40 (red p t).1 (red p t).2 = V40 t p := redV2 h
theorem V_even {t : Int} {p : Nat} (h : p ≤ 39) : V40 t p % 2 = 0 := by
  unfold V40
  rw [show 40 - p = (39 - p) + 1 by omega, Int.pow_succ, ← Int.mul_assoc]
  omega
theorem V_mono {a c : Int} {b : Nat} : V40 a b ≤ V40 c b ↔ a ≤ c := by
  unfold V40
  exact ⟨fun h => Int.le_of_mul_le_mul_right h (pow2_pos _), fun h => Int.mul_le_mul_of_nonneg_right h (Int.le_of_lt (pow2_pos _))⟩
theorem V_lt {a c : Int} {b : Nat} : V40 a b < V40 c b ↔ a < c := by
  unfold V40
  exact ⟨fun h => mul_lt_of (pow2_pos _) h, fun h => Int.mul_lt_mul_of_pos_right h (pow2_pos _)⟩
/-- the search's finds stay small -/
theorem next_small {l : Int} {hi : Option Int} {k : Nat} {t : Int} {p : Nat} {b2 : Bd} (hl : l = V40 t p) (h0 : 0 ≤ l) (ht : t ≤ 10 ^ 11) (hp : p ≤ 39) (hh : hi = bdV b2) (hb : bdIn b2) (ok : okUp l hi k) (hk : k ≤ 40) (least : ∀ j < k, ¬ okUp l hi j) (lt : ∀ x, hi = some x → l < x) :
    0 < nextUp l k ∧ nextUp l k ≤ 10 ^ 12 := by
  have hpos : 0 < nextUp l k := by
    unfold nextUp
    have := Int.ediv_nonneg h0 (Int.le_of_lt (pow2_pos (40 - k)))
    omega
  refine ⟨hpos, ?_⟩
  have ht0 : 0 ≤ t := by
    rw [hl] at h0
    unfold V40 at h0
    exact Int.le_of_mul_le_mul_right (by rw [Int.zero_mul]; exact h0) (pow2_pos (40 - p))
  obtain ⟨n1, n2⟩ := next_above l k
  by_cases hkp : k ≤ p + 1
  · -- low's own denominator: at most twice the top
    have e : V40 t p = t * 2 ^ (40 - p) := rfl
    have a1 : V40 (nextUp l k - 1) k ≤ V40 (2 * t) k := by
      refine Int.le_trans n2 ?_
      rw [hl]
      unfold V40
      by_cases z : k ≤ p
      · rw [pow_split z (by omega), ← Int.mul_assoc]
        refine Int.mul_le_mul_of_nonneg_right ?_ (Int.le_of_lt (pow2_pos _))
        have : (1 : Int) ≤ 2 ^ (p - k) := pow2_pos _
        have : 2 * t * 1 ≤ 2 * t * 2 ^ (p - k) := Int.mul_le_mul_of_nonneg_left this (by omega)
        omega
      · have : k = p + 1 := by omega
        subst this
        rw [pow_half (j := p) (by omega), ← Int.mul_assoc, Int.mul_comm t 2]
        exact Int.le_refl _
    have := V_mono.mp a1
    omega
  · cases b2 with
    | none =>
      exfalso
      exact least 0 (by omega) fun x e => by rw [hh] at e; cases e
    | some b =>
      obtain ⟨t2, p2⟩ := b
      obtain ⟨b1, b2, b3⟩ := hb t2 p2 rfl
      have ex : hi = some (V40 t2 p2) := hh
      have o := ok _ ex
      have hl2 := lt _ ex
      have hk2 : k ≤ p2 + 1 := by
        rcases Nat.lt_or_ge (max p p2 + 1) k with z | z
        · exfalso
          refine least (max p p2 + 1) z fun x e => ?_
          rw [ex] at e; cases e
          have w : ∀ (s : Int) (q : Nat), q ≤ max p p2 → V40 s q = s * 2 ^ (max p p2 - q) * 2 * 2 ^ (40 - (max p p2 + 1)) := fun s q hq => by
            unfold V40
            rw [pow_split (j := q) (p := max p p2 + 1) (by omega) (by omega), show max p p2 + 1 - q = (max p p2 - q) + 1 by omega, Int.pow_succ]
            ac_rfl
          have w1 := w t p (by omega)
          have w2 := w t2 p2 (by omega)
          rw [hl] at hl2 ⊢
          rw [w1, w2] at hl2
          have q := mul_lt_of (pow2_pos _) hl2
          unfold nextUp
          rw [w1, w2, Int.mul_ediv_cancel _ (Int.ne_of_gt (pow2_pos _))]
          unfold V40
          refine Int.mul_lt_mul_of_pos_right ?_ (pow2_pos _)
          omega
        · omega
      have a1 : V40 (nextUp l k) k < V40 (2 * t2) k := by
        refine Int.lt_of_lt_of_le o ?_
        have t20 : 0 ≤ t2 := by
          have : 0 < V40 t2 p2 := Int.lt_of_le_of_lt h0 hl2
          unfold V40 at this
          have := mul_lt_of (pow2_pos (40 - p2)) (show 0 * 2 ^ (40 - p2) < t2 * 2 ^ (40 - p2) by rw [Int.zero_mul]; exact this)
          omega
        unfold V40
        by_cases z : k ≤ p2
        · rw [pow_split z (by omega), ← Int.mul_assoc]
          refine Int.mul_le_mul_of_nonneg_right ?_ (Int.le_of_lt (pow2_pos _))
          have : (1 : Int) ≤ 2 ^ (p2 - k) := pow2_pos _
          have : 2 * t2 * 1 ≤ 2 * t2 * 2 ^ (p2 - k) := Int.mul_le_mul_of_nonneg_left this (by omega)
          omega
        · have : k = p2 + 1 := by omega
          subst this
          rw [pow_half (j := p2) (by omega), ← Int.mul_assoc, Int.mul_comm t2 2]
          exact Int.le_refl _
      have := V_lt.mp a1
      omega
theorem least_ex {P : Nat → Prop} : ∀ n : Nat, P n → ∃ k, k ≤ n ∧ P k ∧ ∀ j < k, ¬ P j
  | n, h => by
    induction n using Nat.strongRecOn with
    | _ n ih =>
      by_cases e : ∃ j, j < n ∧ P j
      · obtain ⟨j, hj, pj⟩ := e
        obtain ⟨k, h1, h2, h3⟩ := ih j hj pj
        exact ⟨k, by omega, h2, h3⟩
      · exact ⟨n, Nat.le_refl _, h, fun j hj pj => e ⟨j, hj, pj⟩⟩
theorem next_mono {l : Int} (h0 : 0 ≤ l) {k m : Nat} (h : k ≤ m) (hm : m ≤ 40) : nextUp l k ≤ nextUp l m := by
  unfold nextUp
  have e : (2 : Int) ^ (40 - k) = 2 ^ (40 - m) * 2 ^ (m - k) := by rw [← Int.pow_add]; congr 1; omega
  rw [e, ← Int.ediv_ediv_of_nonneg (Int.le_of_lt (pow2_pos _))]
  have q := Int.ediv_nonneg h0 (Int.le_of_lt (pow2_pos (40 - m)))
  have := Int.ediv_le_self (2 ^ (m - k)) q
  omega
/-- the program's way to it -/
theorem next_is {a : Int} {b k : Nat} (hb : b ≤ 40) (hk : k ≤ 40) : a * 2 ^ k / 2 ^ b + 1 = nextUp (V40 a b) k := by
  unfold nextUp V40
  congr 1
  by_cases z : k ≤ b
  · have e1 : (2 : Int) ^ b = 2 ^ (b - k) * 2 ^ k := by rw [← Int.pow_add]; congr 1; omega
    rw [e1, Int.mul_ediv_mul_of_pos_left _ _ (pow2_pos k), pow_split z hb, Int.mul_ediv_mul_of_pos_left _ _ (pow2_pos _)]
  · have e1 : (2 : Int) ^ k = 2 ^ (k - b) * 2 ^ b := by rw [← Int.pow_add]; congr 1; omega
    have e2 : (2 : Int) ^ (40 - b) = 2 ^ (k - b) * 2 ^ (40 - k) := by rw [← Int.pow_add]; congr 1; omega
    rw [e1, e2, ← Int.mul_assoc, ← Int.mul_assoc, Int.mul_ediv_cancel _ (Int.ne_of_gt (pow2_pos _)), Int.mul_ediv_cancel _ (Int.ne_of_gt (pow2_pos _))]
theorem bd_dyIn {t : Int} {p : Nat} {b : Bd} (h : bdIn b) (e : b = some (t, p)) : dyIn (red p t).1 (red p t).2 := by
  obtain ⟨h1, h2, h3⟩ := h t p e
  exact .of ⟨by omega, by omega, by omega⟩
def bdNeg (b : Bd) : Bd := b.map fun x => (-x.1, x.2)
theorem bdNeg_in {b : Bd} (h : bdIn b) : bdIn (bdNeg b) := fun t p e => by
  cases b with
  | none => cases e
  | some x =>
    obtain ⟨h1, h2, h3⟩ := h x.1 x.2 rfl
    cases e
    exact ⟨by omega, by omega, h3⟩
theorem bdNeg_V (b : Bd) : bdV (bdNeg b) = (bdV b).map fun x => -x := by
  cases b with
  | none => rfl
  | some x => exact congrArg some (V_neg x.1 x.2)
theorem bdV_even {b : Bd} (h : bdIn b) {x : Int} (e : bdV b = some x) : x % 2 = 0 := by
  cases b with
  | none => cases e
  | some y =>
    have := h y.1 y.2 rfl
    cases e
    exact V_even this.2.2
/-- what less tells of two bounds -/
theorem less_bd {t t2 : Int} {p p2 : Nat} (h : p ≤ 40) (h2 : p2 ≤ 40) : decide ((red p t).1 * 2 ^ (((red p2 t2).2 : Nat) : Int).toNat < (red p2 t2).1 * 2 ^ (((red p t).2 : Nat) : Int).toNat) = decide (V40 t p < V40 t2 p2) := by
  rw [Int.toNat_natCast, Int.toNat_natCast]
  apply decide_eq_decide.mpr
  rw [red_lt, less_V h h2]
theorem V_zero0 : V40 0 0 = 0 := by unfold V40; simp
theorem less_z1 {t : Int} {p : Nat} (h : p ≤ 40) : decide ((red p t).1 * 2 ^ (0 : Int).toNat < 0 * 2 ^ (((red p t).2 : Nat) : Int).toNat) = decide (V40 t p < 0) := by
  have := less_bd (t := t) (p := p) (t2 := 0) (p2 := 0) h (by decide)
  rw [V_zero0] at this
  exact this
theorem less_z2 {t : Int} {p : Nat} (h : p ≤ 40) : decide (0 * 2 ^ (((red p t).2 : Nat) : Int).toNat < (red p t).1 * 2 ^ (0 : Int).toNat) = decide (0 < V40 t p) := by
  have := less_bd (t := 0) (p := 0) (t2 := t) (p2 := p) (by decide) h
  rw [V_zero0] at this
  exact this
theorem simp_zero {lo hi : Option Int} (h1 : ∀ l, lo = some l → l < 0) (h2 : ∀ h, hi = some h → 0 < h) : Simp lo hi 0 0 :=
  ⟨by decide, .inl rfl, fun l e => by rw [V_zero0]; exact h1 l e, fun l e => by rw [V_zero0]; exact h2 l e, fun z => absurd z (by decide), fun _ => .inl rfl⟩
/-- digits of a great cell, lowest first -/
def bigDig : Int → Nat → List Int
  | _, 0 => []
  | c, n + 1 => c % 60 :: bigDig (c / 60) n
/-- seeds of a small one -/
def seedF (c : Int) : Nat → Int
  | 0 => (c * 48271 + 11) % 2147483647
  | k + 1 => (seedF c k * 69621 + 7 * (k : Int) + 1) % 2147483629
def digF (c : Int) (n : Nat) : List Int := if 10 ^ 18 ≤ c then bigDig c n else (List.range n).map fun k => seedF c (k + 1) / 64 % 60
theorem bigDig_len : ∀ (n : Nat) (c : Int), (bigDig c n).length = n
  | 0, _ => rfl
  | n + 1, c => by rw [bigDig, List.length_cons, bigDig_len n]
theorem digF_len (c : Int) (n : Nat) : (digF c n).length = n := by
  unfold digF; split
  · exact bigDig_len n c
  · simp
theorem bigDig_mem : ∀ (n : Nat) (c : Int) (d : Int), d ∈ bigDig c n → 0 ≤ d ∧ d < 60
  | 0, _, _, h => by cases h
  | n + 1, c, d, h => by
    rcases List.mem_cons.mp h with h | h
    · subst h; omega
    · exact bigDig_mem n _ d h
theorem digF_mem {c : Int} {n : Nat} {d : Int} (h : d ∈ digF c n) : 0 ≤ d ∧ d < 60 := by
  unfold digF at h; split at h
  · exact bigDig_mem n c d h
  · obtain ⟨k, _, rfl⟩ := List.mem_map.mp h
    omega
/-- the digit k -/
def dg (c : Int) (n k : Nat) : Int := (digF c n).getD k 0
theorem dg_at {c : Int} {n k : Nat} (h : k < n) : (digF c n)[k]? = some (dg c n k) := by
  unfold dg
  rw [List.getD_eq_getElem?_getD, List.getElem?_eq_getElem (by rw [digF_len]; exact h)]; rfl
theorem dg_lt (c : Int) (n k : Nat) : 0 ≤ dg c n k ∧ dg c n k < 60 := by
  by_cases h : k < n
  · exact digF_mem (List.mem_of_getElem? (dg_at h))
  · unfold dg
    rw [List.getD_eq_getElem?_getD, List.getElem?_eq_none (by rw [digF_len]; omega)]
    decide
def sp_law_digits_b31862c4 (G : Gx) : ASp := fun ds L P _ => match ds with
  | [.int c, .int n] => 0 ≤ n ∧ n ≤ 1000 ∧ newL ((digF c n.toNat).map DV.int) L P
  | _ => False
theorem bigDig_more : ∀ (n : Nat) (c : Int), bigDig c (n + 1) = bigDig c n ++ [(c / 60 ^ n) % 60]
  | 0, c => by simp [bigDig]
  | n + 1, c => by
    rw [bigDig, bigDig_more n (c / 60), bigDig, List.cons_append]
    congr 3
    rw [Int.ediv_ediv_of_nonneg (by decide), Int.pow_succ, Int.mul_comm]
theorem pow60 (n : Nat) (c : Int) : c / 60 ^ n / 60 = c / 60 ^ (n + 1) := by
  rw [Int.ediv_ediv_of_nonneg (Int.pow_nonneg (by decide)), Int.pow_succ]
/-- the cell k of a script: beyond its end a mix of all -/
def cellF (ns : List Int) (k : Int) : Int := if k < (ns.length : Int) then ns.getD k.toNat 0 else ns.foldl (fun m c => (m * 31 + c) % 2147483647) (104729 * k + 7)
def sp_law_cell_4bc9b38b (G : Gx) : ASp := fun ds L P _ => match ds with
  | [.wl xs, .int k] => 0 ≤ k ∧ k < 1000 ∧ ∃ ns : List Int, xs = ns.map DV.int ∧ P (.int (cellF ns k)) L
  | _ => False
/-- some pair within narrower bounds -/
def sp_law_pair_638bb791 (G : Gx) : ASp := fun ds L P _ => match ds with
  | [.int c, .int s] => ∀ z : Int × Nat, bdIn (some z) → P (bdD (some z)) L
  | _ => False
def sp_law_later_f3b91afa (G : Gx) : ASp := fun ds L P _ => match ds with
  | [d, e, .int k, .int s] => ∃ (x y : Int × Nat), d = bdD (some x) ∧ e = bdD (some y) ∧ bdIn (some x) ∧ bdIn (some y) ∧ 0 ≤ k ∧ ∀ z : Int × Nat, bdIn (some z) → P (bdD (some z)) L
  | _ => False
/-- is the one below the other; no bound lies beyond all -/
def lessB (a b : Option Int) : Bool := match a, b with
  | some x, some y => decide (x < y)
  | _, _ => true
def sp_law_less_0394b9ff (G : Gx) : ASp := fun ds L P _ => match ds with
  | [d, e] => ∃ b1 b2 : Bd, d = bdD b1 ∧ e = bdD b2 ∧ (∀ t p, b1 = some (t, p) → t.natAbs < 2 ^ 64 ∧ p ≤ 40) ∧ (∀ t p, b2 = some (t, p) → t.natAbs < 2 ^ 64 ∧ p ≤ 40) ∧ P (.bl (lessB (bdV b1) (bdV b2))) L
  | _ => False
def sp_Dyadic_power (G : Gx) : ASp := fun ds L P _ => match ds with
  | [.ins C ks [t, p]] => C = G.Dyadic ∧ ks = ksDy ∧ P p L
  | _ => False
def sp_Dyadic_top (G : Gx) : ASp := fun ds L P _ => match ds with
  | [.ins C ks [t, p]] => C = G.Dyadic ∧ ks = ksDy ∧ P t L
  | _ => False
def sp_Dyadic_less (G : Gx) : ASp := fun ds L P _ => match ds with
  | [.ins C ks [.int t, .int p], .ins C2 ks2 [.int t2, .int p2]] => (C = G.Dyadic ∧ ks = ksDy ∧ C2 = G.Dyadic ∧ ks2 = ksDy) ∧ (0 ≤ p ∧ p ≤ 1000 ∧ 0 ≤ p2 ∧ p2 ≤ 1000 ∧ t.natAbs < 2 ^ 64 ∧ t2.natAbs < 2 ^ 64) ∧ P (.bl (decide (t * 2 ^ p2.toNat < t2 * 2 ^ p.toNat))) L
  | _ => False
def sp_is_integer (G : Gx) : ASp := fun ds L P _ => match ds with
  | [d] => told d L (P (.bl (isIntD d)) L)
  | _ => False
def sp_reduced (G : Gx) : ASp := fun ds L P _ => match ds with
  | [.int t, .int p] => 0 ≤ p ∧ P (.tup [.int (red p.toNat t).1, .int (red p.toNat t).2]) L
  | _ => False
/-- the plain form of what is handed in, if it is within the bounds -/
def dyOf (t p : DV) : Option (Int × Nat) := match t, p with
  | .int i, .int j => if -10 ^ 12 ≤ i ∧ i ≤ 10 ^ 12 ∧ 0 ≤ j ∧ j ≤ 40 then some (red j.toNat i) else none
  | _, _ => none
def sp_Dyadic_init (G : Gx) : ASp := fun ds L P R => match ds with
  | [.ref x, t, p] => told t L (told p L (∃ dx, L x = some (.ins G.Dyadic dx [] []) ∧ match dyOf t p with
    | some (a, b) => P .non (updL L x (.ins G.Dyadic dx ksDy [.int a, .int b]))
    | none => RS R G.BadValue L))
  | _ => False
@[irreducible] def mk2_Dyadic_init (G : Gx) : ASp := fun ds L P R => match ds with
  | [t, p] => told t L (told p L (match dyOf t p with
    | some (a, b) => P (dy G a b) L
    | none => R G.BadValue L))
  | _ => False
@[irreducible] def mk1_Dyadic_init (G : Gx) : ASp := fun ds L P R => match ds with
  | [t] => told t L (match dyOf t (.int 0) with
    | some (a, b) => P (dy G a b) L
    | none => R G.BadValue L)
  | _ => False
theorem mkok2_Dyadic_init (G : Gx) : MkOk G.k G.Dyadic (sp_Dyadic_init G) (mk2_Dyadic_init G) [] := by
  intro ds L P R h x dx hx
  unfold mk2_Dyadic_init at h
  split at h
  · rename_i t p
    refine h.imp (Sub.new hx) fun h => h.imp (Sub.new hx) fun h => ⟨dx, updL_same, ?_⟩
    cases e : dyOf t p with
    | none => rw [e] at h; exact ⟨L, Sub.new hx, h⟩
    | some ab =>
      rw [e] at h
      refine ⟨rfl, _, _, FrzD.ins updL_same, ?_⟩
      rw [updL_updL, delL_updL hx]
      exact h
  · exact h.elim
theorem mkok1_Dyadic_init (G : Gx) : MkOk G.k G.Dyadic (sp_Dyadic_init G) (mk1_Dyadic_init G) [.int 0] := by
  intro ds L P R h x dx hx
  unfold mk1_Dyadic_init at h
  split at h
  · rename_i t
    refine h.imp (Sub.new hx) fun h => ⟨dx, updL_same, ?_⟩
    cases e : dyOf t (.int 0) with
    | none => rw [e] at h; exact ⟨L, Sub.new hx, h⟩
    | some ab =>
      rw [e] at h
      refine ⟨rfl, _, _, FrzD.ins updL_same, ?_⟩
      rw [updL_updL, delL_updL hx]
      exact h
  · exact h.elim
theorem dflt_Dyadic_init {K : PySem.W.Frag} (I : Hp) : Rps K I [.int 0] [.int 0] := .cons (.int 0) .nil
def sp_Dyadic_neg (G : Gx) : ASp := fun ds L P R => match ds with
  | [.ins C ks [.int t, .int p]] => (C = G.Dyadic ∧ ks = ksDy) ∧ dyIn t p ∧ P (dy G (-t) p.toNat) L
  | _ => False
def sp_above (G : Gx) : ASp := fun ds L P _ => match ds with
  | [l, h] => ∃ (t : Int) (p : Nat) (b2 : Bd), l = bdN G (some (t, p)) ∧ h = bdN G b2 ∧ bdIn (some (t, p)) ∧ bdIn b2 ∧ 0 ≤ V40 t p ∧ (∀ x, bdV b2 = some x → V40 t p < x) ∧
    ∀ (a : Int) (b : Nat), Simp (some (V40 t p)) (bdV b2) a b → 0 < a → a ≤ 10 ^ 12 → P (dy G a b) L
  | _ => False
def sp_negated (G : Gx) : ASp := fun ds L P _ => match ds with
  | [d] => ∃ b : Bd, d = bdN G b ∧ bdIn b ∧ P (bdN G (bdNeg b)) L
  | _ => False
def sp_simplest_between (G : Gx) : ASp := fun ds L P R => match ds with
  | [l, h] => ∃ b1 b2 : Bd, l = bdN G b1 ∧ h = bdN G b2 ∧ bdIn b1 ∧ bdIn b2 ∧
    ((∀ x y, bdV b1 = some x → bdV b2 = some y → x < y) → ∀ (a : Int) (b : Nat), Simp (bdV b1) (bdV b2) a b → -10 ^ 12 ≤ a → a ≤ 10 ^ 12 → P (dy G a b) L) ∧
    ((∃ x y, bdV b1 = some x ∧ bdV b2 = some y ∧ y ≤ x) → RS R G.BadValue L)
  | _ => False
/-- two numbers with nothing between -/
def sp_law_refused_f6e51d19 (G : Gx) : ASp := fun ds L P _ => match ds with
  | [d, e] => ∃ x y : Int × Nat, d = bdD (some x) ∧ e = bdD (some y) ∧ bdIn (some x) ∧ bdIn (some y) ∧ V40 y.1 y.2 ≤ V40 x.1 x.2 ∧ P (.bl true) L
  | _ => False
def sp_law_bound_6b1178b8 (G : Gx) : ASp := fun ds L P _ => match ds with
  | [d] => ∃ b : Bd, d = bdD b ∧ bdIn b ∧ P (bdN G b) L
  | _ => False
def sp_law_is_integer_fcf59962 (G : Gx) : ASp := fun ds L P _ => match ds with
  | [d] => told d L (P (.bl (isIntD d)) L)
  | _ => False
def sp_law_plain_d4e9bf06 (G : Gx) : ASp := fun ds L P _ => match ds with
  | [.int t, .int p] => 0 ≤ p ∧ p ≤ 64 ∧ P (.tup [.int (red p.toNat t).1, .int (red p.toNat t).2]) L
  | _ => False
def sp_law_simplest_728054c6 (G : Gx) : ASp := fun ds L P _ => match ds with
  | [.ins C ks [.int a, .int b], l, h] => ∃ (b1 b2 : Bd), (C = G.Dyadic ∧ ks = ksDy ∧ 0 ≤ b) ∧ l = bdD b1 ∧ h = bdD b2 ∧ bdIn b1 ∧ bdIn b2 ∧ Simp (bdV b1) (bdV b2) a b.toNat ∧ (-10 ^ 12 ≤ a ∧ a ≤ 10 ^ 12) ∧ P (.bl true) L
  | _ => False
def sp_Dyadic_same (G : Gx) : ASp := fun ds L P _ => match ds with
  | [.ins C ks [.int t, .int p], .ins C2 ks2 [.int t2, .int p2]] => (C = G.Dyadic ∧ ks = ksDy ∧ C2 = G.Dyadic ∧ ks2 = ksDy) ∧ P (.bl (decide (t = t2 ∧ p = p2))) L
  | _ => False
def sp_Dyadic_age (G : Gx) : ASp := fun ds L P _ => match ds with
  | [.ins C ks [.int t, .int p]] => C = G.Dyadic ∧ ks = ksDy ∧ 0 ≤ p ∧ P (.int (ageF t p.toNat)) L
  | _ => False
def sp_law_older_8e2363a4 (G : Gx) : ASp := fun ds L P _ => match ds with
  | [.ins C ks [.int a, .int b], e, l, h] => ∃ (x : Int × Nat) (b1 b2 : Bd), (C = G.Dyadic ∧ ks = ksDy ∧ 0 ≤ b) ∧ e = bdD (some x) ∧ l = bdD b1 ∧ h = bdD b2 ∧ bdIn (some x) ∧ bdIn b1 ∧ bdIn b2 ∧ Simp (bdV b1) (bdV b2) a b.toNat ∧ P (.bl true) L
  | _ => False
def sp_law_turned_796bf394 (G : Gx) : ASp := fun ds L P _ => match ds with
  | [d] => ∃ b : Bd, d = bdD b ∧ P (bdD (bdNeg b)) L
  | _ => False
def sp_law_kept_51dc22b8 (G : Gx) : ASp := fun ds L P _ => match ds with
  | [d, e] => ∃ b : Bd, d = bdN G b ∧ e = bdD b ∧ bdIn b ∧ P (.bl true) L
  | _ => False
def sp_law_bfff741c (G : Gx) : ASp := spLawT
def tb_law_digits_b31862c4 (G : Gx) : AS := (aSeq (aSet 2 (aLst aNil)) (aSeq (aIf (aTest (aBin oGe (aVar 0) (aBin oPow (aC (.int 10)) (aC (.int 18))))) (aSeq (aFor (iRng rng1 (aCons (aVar 1) aNil)) (gN 3) (aSeq (aDrop (aLm mAppend (aVar 2) (aCons (aBin oMod (aCB bInt (aCons (aVar 0) aNil)) (aC (.int 60))) aNil))) (aSet 0 (aBin oDiv (aVar 0) (aC (.int 60)))))) (aRet (aFrz G.k (aVar 2)))) aNext) (aSeq (aSet 4 (aBin oMod (aCB bInt (aCons (aBin oAdd (aBin oMulL (aVar 0) (aC (.int 48271))) (aC (.int 11))) aNil)) (aC (.int 2147483647)))) (aSeq (aFor (iRng rng1 (aCons (aVar 1) aNil)) (gN 3) (aSeq (aSet 4 (aBin oMod (aCB bInt (aCons (aBin oAdd (aBin oAdd (aBin oMulL (aVar 4) (aC (.int 69621))) (aBin oMulL (aC (.int 7)) (aVar 3))) (aC (.int 1))) aNil)) (aC (.int 2147483629)))) (aDrop (aLm mAppend (aVar 2) (aCons (aBin oMod (aCB bInt (aCons (aBin oDiv (aVar 4) (aC (.int 64))) aNil)) (aC (.int 60))) aNil))))) (aRet (aFrz G.k (aVar 2)))))))
theorem rd_law_digits_b31862c4 (G : Gx) : Reads 5 (sp_law_digits_b31862c4 G) (tb_law_digits_b31862c4 G) := by
  intro ds L P R h
  unfold sp_law_digits_b31862c4 at h
  split at h
  · rename_i c n
    obtain ⟨h0, h1, h⟩ := h
    refine .inl fun a ha => ⟨?_, fun hc => ?_, fun hc => ?_⟩
    · exact ⟨by decide, by decide, by decide⟩
    · have hc1 : 10 ^ 18 ≤ c := by simpa using dt hc
      refine ⟨⟨by omega, by omega⟩, fun i ρ L' => ∃ v w, ρ = [some (.int (c / 60 ^ i)), some (.int n), some (.ref a), v, w] ∧ L' = updL L a (.lst ((bigDig c i).map DV.int)) ∧ i ≤ n.toNat, ⟨none, none, ?_, rfl, Nat.zero_le _⟩, fun _ _ _ _ => trivial, ?_, ?_⟩
      · rw [Int.pow_zero, Int.ediv_one]; rfl
      · rintro i d ρ L' hd ⟨v, w, rfl, rfl, hi⟩
        obtain ⟨hi', rfl⟩ := rangeD_get hd
        refine ⟨⟨_, updL_same⟩, by show (0 : Int) < 60; decide, _, updL_same, ?_, ?_⟩
        · exact smallLine (by rw [List.length_map, bigDig_len]; omega)
        refine ⟨⟨by decide, by decide⟩, some (.int (0 + (i : Nat))), w, ?_, ?_, hi'⟩
        · show [some (DV.int (c / 60 ^ i / 60)), some (.int n), some (.ref a), _, _] = _
          rw [pow60]
        · rw [updL_updL, bigDig_more, List.map_append]; rfl
      · rintro ρ L' ⟨v, w, rfl, rfl, hi⟩
        rw [rangeD_length]
        unfold digF at h
        rw [if_pos hc1] at h
        exact ret_new h ha
    · have hc1 : ¬ 10 ^ 18 ≤ c := by simpa using df hc
      refine ⟨mulR (by decide), by show (0 : Int) < 2147483647; decide, ⟨by omega, by omega⟩, fun i ρ L' => ∃ v, ρ = [some (.int c), some (.int n), some (.ref a), v, some (.int (seedF c i))] ∧ L' = updL L a (.lst (((List.range i).map fun k => seedF c (k + 1) / 64 % 60).map DV.int)) ∧ i ≤ n.toNat, ⟨none, rfl, rfl, Nat.zero_le _⟩, fun _ _ _ _ => trivial, ?_, ?_⟩
      · rintro i d ρ L' hd ⟨v, rfl, rfl, hi⟩
        obtain ⟨hi', rfl⟩ := rangeD_get hd
        have e0 : (0 : Int) + (i : Nat) = i := Int.zero_add _
        refine ⟨mulR (by decide), mulL (by decide), by show (0 : Int) < 2147483629; decide, ⟨_, updL_same⟩, ⟨by decide, by decide⟩, by show (0 : Int) < 60; decide, _, updL_same, ?_, ?_⟩
        · exact smallLine (by simp; omega)
        refine ⟨some (.int (0 + (i : Nat))), ?_, ?_, hi'⟩
        · show [some (DV.int c), some (.int n), some (.ref a), _, some (DV.int ((seedF c i * 69621 + 7 * (0 + (i : Int)) + 1) % 2147483629))] = _
          rw [e0]; rfl
        · rw [updL_updL, List.range_succ, List.map_append, List.map_append]
          show updL L a (.lst (_ ++ [DV.int ((seedF c i * 69621 + 7 * (0 + (i : Int)) + 1) % 2147483629 / 64 % 60)])) = _
          rw [e0]; rfl
      · rintro ρ L' ⟨v, rfl, rfl, hi⟩
        rw [rangeD_length]
        unfold digF at h
        rw [if_neg hc1] at h
        exact ret_new h ha
  · exact h.elim
def tb_law_cell_4bc9b38b (G : Gx) : AS := (aSeq (aIf (aTest (aBin oLt (aVar 1) (aCB bLen (aCons (aVar 0) aNil)))) (aRet (aBin oIx (aVar 0) (aVar 1))) aNext) (aSeq (aSet 2 (aBin oAdd (aBin oMulL (aC (.int 104729)) (aVar 1)) (aC (.int 7)))) (aSeq (aFor (iSeq (aVar 0)) (gN 3) (aSet 2 (aBin oMod (aCB bInt (aCons (aBin oAdd (aBin oMulL (aVar 2) (aC (.int 31))) (aVar 3)) aNil)) (aC (.int 2147483647))))) (aRet (aVar 2)))))
theorem rd_law_cell_4bc9b38b (G : Gx) : Reads 4 (sp_law_cell_4bc9b38b G) (tb_law_cell_4bc9b38b G) := by
  intro ds L P R h
  unfold sp_law_cell_4bc9b38b at h
  split at h
  · rename_i xs k
    obtain ⟨h0, h1, ns, rfl, h⟩ := h
    refine ⟨fun hk => ?_, fun hk => ?_⟩
    · have hk1 : k < (ns.length : Int) := by simpa using dt hk
      have hk2 : k.toNat < ns.length := by omega
      have e : (ns.map DV.int)[k.toNat]? = some (DV.int (ns.getD k.toNat 0)) := by
        rw [List.getElem?_map, List.getD_eq_getElem?_getD, List.getElem?_eq_getElem hk2]; rfl
      refine ⟨_, at_int h0 e, ?_⟩
      unfold cellF at h
      rw [if_pos hk1] at h
      exact h
    · have hk1 : ¬ k < (ns.length : Int) := by simpa using df hk
      refine ⟨mulL (by decide), fun i ρ L' => ∃ v, ρ = [some (.wl (ns.map DV.int)), some (.int k), some (.int ((ns.take i).foldl (fun m c => (m * 31 + c) % 2147483647) (104729 * k + 7))), v] ∧ L' = L, ⟨_, rfl, rfl⟩, fun _ _ _ _ => trivial, ?_, ?_⟩
      · rintro i d ρ L' hd ⟨v, rfl, rfl⟩
        obtain ⟨n, hn, rfl⟩ := map_at hd
        refine ⟨mulR (by decide), by show (0 : Int) < 2147483647; decide, some (.int n), ?_, rfl⟩
        rw [fold_more hn]; rfl
      · rintro ρ L' ⟨v, rfl, rfl⟩
        unfold cellF at h
        rw [if_neg hk1] at h
        rw [List.length_map, List.take_length]
        exact h
  · exact h.elim
def tb_law_pair_638bb791_6 (G : Gx) : AS := (aSeq (aIf (aTest (aBin oEq (aBin oMod (aCB bInt (aCons (aBin oIx (aVar 2) (aC (.int 2))) aNil)) (aC (.int 4))) (aC (.int 2)))) (aSeq (aSet 5 (aBin oAdd (aBin oShl (aBin oSub (aBin oMod (aCB bInt (aCons (aBin oIx (aVar 2) (aC (.int 3))) aNil)) (aC (.int 9))) (aC (.int 4))) (aCB bMin2 (aCons (aVar 3) (aCons (aC (.int 34)) aNil)))) (aBin oDiv (aVar 5) (aBin oShl (aC (.int 1)) (aBin oMod (aCB bInt (aCons (aBin oIx (aVar 2) (aC (.int 3))) aNil)) (aC (.int 30))))))) (aSet 5 (aCB bMax2 (aCons (aNeg (aBin oPow (aC (.int 10)) (aC (.int 11)))) (aCons (aCB bMin2 (aCons (aBin oPow (aC (.int 10)) (aC (.int 11))) (aCons (aVar 5) aNil))) aNil))))) aNext) (aRet (aTup (aCons (aVar 5) (aCons (aVar 3) aNil)))))
def tb_law_pair_638bb791_4 (G : Gx) : AS := (aSeq (aIf (aTest (aBin oEq (aBin oMod (aCB bInt (aCons (aBin oIx (aVar 2) (aC (.int 2))) aNil)) (aC (.int 4))) (aC (.int 1)))) (aSet 5 (aBin oSub (aBin oMod (aCB bInt (aCons (aBin oIx (aVar 2) (aC (.int 3))) aNil)) (aC (.int 7))) (aC (.int 3)))) aNext) (tb_law_pair_638bb791_6 G))
def tb_law_pair_638bb791 (G : Gx) : AS := (aSeq (aSet 2 (aCall (sp_law_digits_b31862c4 G) [] (aCons (aVar 1) (aCons (aC (.int 4)) aNil)))) (aSeq (aSet 3 (aBin oMod (aCB bInt (aCons (aBin oIx (aVar 2) (aC (.int 0))) aNil)) (aC (.int 40)))) (aSeq (aSet 4 (aCB bMin2 (aCons (aBin oPow (aC (.int 10)) (aC (.int 11))) (aCons (aBin oShl (aC (.int 1)) (aBin oMod (aCB bInt (aCons (aBin oIx (aVar 2) (aC (.int 1))) aNil)) (aC (.int 38)))) aNil)))) (aSeq (aSet 5 (aBin oSub (aBin oMod (aCB bInt (aCons (aVar 0) aNil)) (aBin oAdd (aBin oMulL (aC (.int 2)) (aVar 4)) (aC (.int 1)))) (aVar 4))) (tb_law_pair_638bb791_4 G)))))
def pairM11 (d : Int) : Int := if (1 : Int) * 2 ^ (d % 38).toNat < 10 ^ (11 : Int).toNat then 1 * 2 ^ (d % 38).toNat else 10 ^ (11 : Int).toNat
theorem pairM11_in (d : Int) : 0 < pairM11 d ∧ pairM11 d ≤ 10 ^ 11 := by
  have := pow2_pos (d % 38).toNat
  have e : (10 : Int) ^ (11 : Int).toNat = 10 ^ 11 := by decide
  unfold pairM11
  rw [e]
  split <;> omega
theorem clamp2_in (x : Int) : -10 ^ 11 ≤ (if (if x < 10 ^ (11 : Int).toNat then x else 10 ^ (11 : Int).toNat) > -10 ^ (11 : Int).toNat then (if x < 10 ^ (11 : Int).toNat then x else 10 ^ (11 : Int).toNat) else -10 ^ (11 : Int).toNat) ∧ (if (if x < 10 ^ (11 : Int).toNat then x else 10 ^ (11 : Int).toNat) > -10 ^ (11 : Int).toNat then (if x < 10 ^ (11 : Int).toNat then x else 10 ^ (11 : Int).toNat) else -10 ^ (11 : Int).toNat) ≤ 10 ^ 11 := by
  have e : (10 : Int) ^ (11 : Int).toNat = 10 ^ 11 := by decide
  rw [e]
  split <;> split at * <;> omega
theorem rd_law_pair_638bb791 (G : Gx) : Reads 6 (sp_law_pair_638bb791 G) (tb_law_pair_638bb791 G) := by
  intro ds L P R h
  unfold sp_law_pair_638bb791 at h
  split at h
  · rename_i c s
    have dgs : ∀ k : Nat, k < 4 → atI ((digF s 4).map DV.int) (k : Int) = some (.int (dg s 4 k)) := fun k hk => at_nat (by rw [List.getElem?_map, dg_at hk]; rfl)
    obtain ⟨p, hp1, hp⟩ : ∃ p : Nat, dg s 4 0 % 40 = (p : Int) ∧ p ≤ 39 := ⟨(dg s 4 0 % 40).toNat, by omega, by omega⟩
    have third : ∀ (t : Int) (M : DV), -10 ^ 11 ≤ t → t ≤ 10 ^ 11 → tb_law_pair_638bb791_6 G ⟨fun _ L => P .non L, P, fun _ _ => False, fun _ _ => False, fun c _ L => R c L⟩ [some (.int c), some (.int s), some (.lst ((digF s 4).map DV.int)), some (.int (p : Nat)), some M, some (.int t)] L := fun t M h1 h2 => by
      refine ⟨_, dgs 2 (by decide), (by decide : (0 : Int) < 4), fun _ => ?_, fun _ => h (t, p) fun a b e => by cases e; exact ⟨h1, h2, hp⟩⟩
      have r1 := Int.emod_nonneg (dg s 4 3) (b := 30) (by decide)
      have r2 := Int.emod_lt_of_pos (dg s 4 3) (b := 30) (by decide)
      have r3 := Int.emod_nonneg (dg s 4 3) (b := 9) (by decide)
      have r4 := Int.emod_lt_of_pos (dg s 4 3) (b := 9) (by decide)
      have em : 0 ≤ (if (34 : Int) < (p : Nat) then (34 : Int) else (p : Nat)) ∧ (if (34 : Int) < (p : Nat) then (34 : Int) else (p : Nat)) ≤ 34 := by split <;> omega
      refine ⟨_, dgs 3 (by decide), (by decide : (0 : Int) < 9), ⟨em.1, by show (if (34 : Int) < (p : Nat) then (34 : Int) else (p : Nat)) ≤ _; omega, by show (dg s 4 3 % 9 - 4).natAbs < _; omega⟩, _, dgs 3 (by decide), (by decide : (0 : Int) < 30), ⟨r1, by show dg s 4 3 % 30 ≤ _; omega, by decide⟩, ?_, ?_⟩
      · show CDivW t (1 * 2 ^ (dg s 4 3 % 30).toNat)
        rw [one_pow2]
        exact cdiv_pow2 (by omega)
      · refine ⟨⟨by decide, by decide, by decide⟩, ⟨by decide, by decide, by decide⟩, ?_⟩
        have w := clamp2_in ((dg s 4 3 % 9 - 4) * 2 ^ (if (34 : Int) < (p : Nat) then (34 : Int) else (p : Nat)).toNat + t / (1 * 2 ^ (dg s 4 3 % 30).toNat))
        exact h (_, p) fun a b e => by cases e; exact ⟨w.1, w.2, hp⟩
    have second : ∀ (t : Int) (M : DV), -10 ^ 11 ≤ t → t ≤ 10 ^ 11 → tb_law_pair_638bb791_4 G ⟨fun _ L => P .non L, P, fun _ _ => False, fun _ _ => False, fun c _ L => R c L⟩ [some (.int c), some (.int s), some (.lst ((digF s 4).map DV.int)), some (.int (p : Nat)), some M, some (.int t)] L := fun t M h1 h2 => by
      refine ⟨_, dgs 2 (by decide), (by decide : (0 : Int) < 4), fun _ => ⟨_, dgs 3 (by decide), (by decide : (0 : Int) < 7), third _ M ?_ ?_⟩, fun _ => third t M h1 h2⟩
      · have := Int.emod_nonneg (dg s 4 3) (b := 7) (by decide); omega
      · have := Int.emod_lt_of_pos (dg s 4 3) (b := 7) (by decide); omega
    have r1 := Int.emod_nonneg (dg s 4 1) (b := 38) (by decide)
    have r2 := Int.emod_lt_of_pos (dg s 4 1) (b := 38) (by decide)
    obtain ⟨M0, M1⟩ := pairM11_in (dg s 4 1)
    refine ⟨by decide, by decide, .inr ⟨_, dgs 0 (by decide), (by decide : (0 : Int) < 40), ⟨by decide, by decide, by decide⟩, _, dgs 1 (by decide), (by decide : (0 : Int) < 38), ⟨r1, by show dg s 4 1 % 38 ≤ _; omega, by decide⟩, mulL (by decide), ?_⟩⟩
    show 0 < 2 * pairM11 (dg s 4 1) + 1 ∧ tb_law_pair_638bb791_4 G _ [some (.int c), some (.int s), some (.lst ((digF s 4).map DV.int)), some (.int (dg s 4 0 % 40)), some (.int (pairM11 (dg s 4 1))), some (.int (c % (2 * pairM11 (dg s 4 1) + 1) - pairM11 (dg s 4 1)))] L
    have m1 := Int.emod_nonneg c (b := 2 * pairM11 (dg s 4 1) + 1) (by omega)
    have m2 := Int.emod_lt_of_pos c (b := 2 * pairM11 (dg s 4 1) + 1) (by omega)
    refine ⟨by omega, ?_⟩
    rw [hp1]
    exact second _ _ (by omega) (by omega)
  · exact h.elim
def tb_law_later_f3b91afa_7 (G : Gx) : AS := (aSet 5 (aBin oAdd (aVar 5) (aC (.int 1))))
def tb_law_later_f3b91afa (G : Gx) : AS := (aSeq (aIf (aTest (aBin oEq (aBin oMod (aCB bInt (aCons (aVar 2) aNil)) (aC (.int 3))) (aC (.int 0)))) (aRet (aVar 1)) aNext) (aSeq (aSet 4 (aBin oIx (aVar 0) (aC (.int 0)))) (aSeq (aSet 5 (aBin oIx (aVar 0) (aC (.int 1)))) (aSeq (aFor (iRng rng1 (aCons (aBin oMod (aBin oDiv (aVar 2) (aC (.int 3))) (aC (.int 8))) aNil)) (gN 6) (aIf (aAnd (aTest (aBin oLt (aVar 5) (aC (.int 39)))) (aTest (aBin oLe (aCB bAbs (aCons (aVar 4) aNil)) (aBin oMulL (aC (.int 4)) (aBin oPow (aC (.int 10)) (aC (.int 10))))))) (aSeq (aSet 4 (aBin oMulL (aC (.int 2)) (aVar 4))) (tb_law_later_f3b91afa_7 G)) aNext)) (aSeq (aSet 4 (aBin oAdd (aBin oAdd (aVar 4) (aC (.int 1))) (aBin oMulL (aBin oMod (aCB bInt (aCons (aVar 3) aNil)) (aC (.int 5))) (aBin oMod (aCB bInt (aCons (aVar 3) aNil)) (aC (.int 7)))))) (aRet (aTup (aCons (aCB bMax2 (aCons (aNeg (aBin oPow (aC (.int 10)) (aC (.int 11)))) (aCons (aCB bMin2 (aCons (aBin oPow (aC (.int 10)) (aC (.int 11))) (aCons (aVar 4) aNil))) aNil))) (aCons (aVar 5) aNil)))))))))
theorem e11 : (10 : Int) ^ (11 : Int).toNat = 10 ^ 11 := by decide
theorem clamp_in (x : Int) : -10 ^ 11 ≤ (if (if x < 10 ^ (11 : Int).toNat then x else 10 ^ (11 : Int).toNat) > -10 ^ (11 : Int).toNat then (if x < 10 ^ (11 : Int).toNat then x else 10 ^ (11 : Int).toNat) else -10 ^ (11 : Int).toNat) ∧ (if (if x < 10 ^ (11 : Int).toNat then x else 10 ^ (11 : Int).toNat) > -10 ^ (11 : Int).toNat then (if x < 10 ^ (11 : Int).toNat then x else 10 ^ (11 : Int).toNat) else -10 ^ (11 : Int).toNat) ≤ 10 ^ 11 := by
  rw [e11]
  split <;> split at * <;> omega
theorem rd_law_later_f3b91afa (G : Gx) : Reads 7 (sp_law_later_f3b91afa G) (tb_law_later_f3b91afa G) := by
  intro ds L P R h
  unfold sp_law_later_f3b91afa at h
  split at h
  · rename_i d e k s
    obtain ⟨⟨t, p⟩, y, rfl, rfl, i1, i2, h0, h⟩ := h
    obtain ⟨a1, a2, a3⟩ := i1 t p rfl
    refine ⟨(by decide : (0 : Int) < 3), fun _ => h y i2, fun _ => ⟨_, rfl, _, rfl, ⟨by decide, by decide⟩, (by decide : (0 : Int) < 8), ?_⟩⟩
    have r1 := Int.emod_nonneg (k / 3) (b := 8) (by decide)
    have r2 := Int.emod_lt_of_pos (k / 3) (b := 8) (by decide)
    have e10 : (4 : Int) * 10 ^ (10 : Int).toNat = 4 * 10 ^ 10 := by decide
    refine ⟨⟨by show _ ≤ k / 3 % 8; omega, by show k / 3 % 8 < _; omega⟩, fun i ρ L' => ∃ (t' : Int) (p' : Nat) (v : Option DV), ρ = [some (bdD (some (t, p))), some (bdD (some y)), some (.int k), some (.int s), some (.int t'), some (.int (p' : Nat)), v] ∧ L' = L ∧ p' ≤ 39, ⟨t, p, none, rfl, rfl, a3⟩, fun _ _ _ _ => trivial, ?_, ?_⟩
    · rintro i d ρ L' hd ⟨t', p', v, rfl, rfl, hp⟩
      obtain ⟨hi, rfl⟩ := rangeD_get hd
      have stay : ∃ (t2 : Int) (p2 : Nat) (v : Option DV), ([some (bdD (some (t, p))), some (bdD (some y)), some (.int k), some (.int s), some (.int t'), some (.int (p' : Nat)), some (.int (0 + (i : Nat)))] : Sl) = [some (bdD (some (t, p))), some (bdD (some y)), some (.int k), some (.int s), some (.int t2), some (.int (p2 : Nat)), v] ∧ L' = L' ∧ p2 ≤ 39 := ⟨t', p', _, rfl, rfl, hp⟩
      refine ⟨fun z => ⟨⟨by decide, by decide, by decide⟩, mulL (by decide), fun z2 => ⟨mulL (by decide), 2 * t', p' + 1, some (.int (0 + (i : Nat))), rfl, rfl, by have := dt z; omega⟩, fun _ => stay⟩, fun _ => ⟨nft, fun _ => stay⟩⟩
    · rintro ρ L' ⟨t', p', v, rfl, rfl, hp⟩
      refine ⟨(by decide : (0 : Int) < 5), (by decide : (0 : Int) < 7), ?_, ?_⟩
      · have w1 := Int.emod_nonneg s (b := 5) (by decide)
        have w2 := Int.emod_lt_of_pos s (b := 5) (by decide)
        exact mulL (i := s % 5) (by omega)
      · refine ⟨⟨by decide, by decide, by decide⟩, ⟨by decide, by decide, by decide⟩, ?_⟩
        have c := clamp_in (t' + 1 + s % 5 * (s % 7))
        exact h (_, p') fun t p e => by cases e; exact ⟨c.1, c.2, hp⟩
  · exact h.elim
def tb_law_less_0394b9ff (G : Gx) : AS := (aSeq (aIf (aOr (aTest (aBin (oIsN false) (aVar 0) (aC .non))) (aTest (aBin (oIsN false) (aVar 1) (aC .non)))) (aRet (aC (.bl true))) aNext) (aRet (aBin oLt (aBin oShl (aBin oIx (aVar 0) (aC (.int 0))) (aBin oIx (aVar 1) (aC (.int 1)))) (aBin oShl (aBin oIx (aVar 1) (aC (.int 0))) (aBin oIx (aVar 0) (aC (.int 1)))))))
theorem rd_law_less_0394b9ff (G : Gx) : Reads 2 (sp_law_less_0394b9ff G) (tb_law_less_0394b9ff G) := by
  intro ds L P R h
  unfold sp_law_less_0394b9ff at h
  split at h
  · obtain ⟨b1, b2, rfl, rfl, i1, i2, h⟩ := h
    cases b1 with
    | none => exact ⟨fun _ => ⟨fun _ => h, ntf⟩, ntf⟩
    | some x =>
      cases b2 with
      | none => exact ⟨nft, fun _ => ⟨fun _ => h, ntf⟩⟩
      | some y =>
        obtain ⟨t, p⟩ := x
        obtain ⟨t2, p2⟩ := y
        obtain ⟨a1, a2⟩ := i1 t p rfl
        obtain ⟨c1, c2⟩ := i2 t2 p2 rfl
        refine ⟨nft, fun _ => ⟨nft, fun _ => ⟨_, rfl, _, rfl, ⟨by omega, by omega, a1⟩, _, rfl, _, rfl, ⟨by omega, by omega, c1⟩, ?_⟩⟩⟩
        show P (.bl (decide (t * 2 ^ ((p2 : Nat) : Int).toNat < t2 * 2 ^ ((p : Nat) : Int).toNat))) L
        rw [Int.toNat_natCast, Int.toNat_natCast, show decide (t * 2 ^ p2 < t2 * 2 ^ p) = decide (V40 t p < V40 t2 p2) from decide_eq_decide.mpr (less_V a2 c2)]
        exact h
  · exact h.elim
def tb_Dyadic_power (G : Gx) : AS := (aRet (aFld "_power" 1 (aVar 0)))
theorem rd_Dyadic_power (G : Gx) : Reads 1 (sp_Dyadic_power G) (tb_Dyadic_power G) := by
  intro ds L P R h
  unfold sp_Dyadic_power at h
  split at h
  · obtain ⟨rfl, rfl, h⟩ := h
    exact ⟨rfl, _, rfl, h⟩
  · exact h.elim
def tb_Dyadic_top (G : Gx) : AS := (aRet (aFld "_top" 0 (aVar 0)))
theorem rd_Dyadic_top (G : Gx) : Reads 1 (sp_Dyadic_top G) (tb_Dyadic_top G) := by
  intro ds L P R h
  unfold sp_Dyadic_top at h
  split at h
  · obtain ⟨rfl, rfl, h⟩ := h
    exact ⟨rfl, _, rfl, h⟩
  · exact h.elim
def tb_Dyadic_less (G : Gx) : AS := (aRet (aBin oLt (aBin oShl (aFld "_top" 0 (aVar 0)) (aProp G.Dyadic (sp_Dyadic_power G) (aVar 1))) (aBin oShl (aProp G.Dyadic (sp_Dyadic_top G) (aVar 1)) (aFld "_power" 1 (aVar 0)))))
theorem rd_Dyadic_less (G : Gx) : Reads 2 (sp_Dyadic_less G) (tb_Dyadic_less G) := by
  intro ds L P R h
  unfold sp_Dyadic_less at h
  split at h
  · rename_i C ks t p C2 ks2 t2 p2
    obtain ⟨⟨rfl, rfl, rfl, rfl⟩, ⟨h1, h2, h3, h4, h5, h6⟩, h⟩ := h
    refine ⟨rfl, _, rfl, rfl, rfl, rfl, ⟨h3, by omega, h5⟩, rfl, rfl, rfl, rfl, _, rfl, ⟨h1, by omega, h6⟩, h⟩
  · exact h.elim
def tb_is_integer (G : Gx) : AS := (aRet (aAndV (aCB (bIsi G.k.K) (aCons (aVar 0) (aCons (aC (.ty "int")) aNil))) (aNotB (aCB (bIsi G.k.K) (aCons (aVar 0) (aCons (aC (.ty "bool")) aNil))))))
theorem rd_is_integer (G : Gx) : Reads 1 (sp_is_integer G) (tb_is_integer G) := by
  intro ds L P R h
  unfold sp_is_integer at h
  split at h
  · rename_i d
    cases d <;> try exact h.elim
    case non => exact ⟨false, kit_ty (by decide +kernel), ⟨nft, fun _ => h⟩⟩
    case bl b => exact ⟨true, kit_ty (by decide +kernel), ⟨fun _ => ⟨true, kit_ty (by decide +kernel), h⟩, ntf⟩⟩
    case int b => exact ⟨true, kit_ty (by decide +kernel), ⟨fun _ => ⟨false, kit_ty (by decide +kernel), h⟩, ntf⟩⟩
    case str b => exact ⟨false, kit_ty (by decide +kernel), ⟨nft, fun _ => h⟩⟩
    case lst b => exact ⟨false, kit_ty (by decide +kernel), ⟨nft, fun _ => h⟩⟩
    case tup b => exact ⟨false, kit_ty (by decide +kernel), ⟨nft, fun _ => h⟩⟩
    case ref a =>
      obtain ⟨⟨xs, e⟩, h⟩ := h
      exact .inr (.inl ⟨xs, e, false, kit_ty (by decide +kernel), ⟨nft, fun _ => h⟩⟩)
  · exact h.elim
def tb_reduced (G : Gx) : AS := (aSeq (aWhile (aAnd (aTest (aBin oGt (aVar 1) (aC (.int 0)))) (aTest (aBin oEq (aBin oMod (aVar 0) (aC (.int 2))) (aC (.int 0))))) (aSeq (aSet 0 (aBin oDiv (aVar 0) (aC (.int 2)))) (aSet 1 (aBin oSub (aVar 1) (aC (.int 1)))))) (aRet (aTup (aCons (aVar 0) (aCons (aVar 1) aNil)))))
theorem rd_reduced (G : Gx) : Reads 2 (sp_reduced G) (tb_reduced G) := by
  intro ds L P R h
  unfold sp_reduced at h
  split at h
  · rename_i t p
    obtain ⟨h0, h⟩ := h
    refine ⟨fun m ρ L' => ∃ (t' : Int), ρ = [some (.int t'), some (.int (m : Nat))] ∧ L' = L ∧ red m t' = red p.toNat t, ⟨p.toNat, t, ?_, rfl, rfl⟩, ?_⟩
    · show [some (DV.int t), some (DV.int p)] = _
      rw [Int.toNat_of_nonneg h0]
    · rintro m ρ L' ⟨t', rfl, rfl, e⟩
      refine ⟨fun hp => ⟨?_, ?_⟩, fun hp => ⟨nft, fun _ => ?_⟩⟩
      · show (0 : Int) < 2
        decide
      · refine ⟨fun he => ?_, fun he => ?_⟩
        · have h1 : 0 < m := by simpa using hp
          have h2 : t' % 2 = 0 := by simpa using he
          obtain ⟨n, rfl⟩ : ∃ n, m = n + 1 := ⟨m - 1, by omega⟩
          refine ⟨⟨by decide, by decide⟩, n, Nat.lt_succ_self n, t' / 2, ?_, rfl, ?_⟩
          · show [some (DV.int (t' / 2)), some (DV.int (((n + 1 : Nat) : Int) - 1))] = _
            rw [show (((n + 1 : Nat) : Int) - 1) = (n : Int) by omega]
          · rw [← e]
            show red n (t' / 2) = if t' % 2 = 0 then red n (t' / 2) else (t', n + 1)
            rw [if_pos h2]
        · have h1 : 0 < m := by simpa using hp
          have h2 : ¬ t' % 2 = 0 := by simpa using he
          obtain ⟨n, rfl⟩ : ∃ n, m = n + 1 := ⟨m - 1, by omega⟩
          have e2 : red p.toNat t = (t', n + 1) := by
            rw [← e]
            show (if t' % 2 = 0 then red n (t' / 2) else (t', n + 1)) = _
            rw [if_neg h2]
          rw [e2] at h
          exact h
      · have h1 : m = 0 := by
          have : ¬ 0 < (m : Int) := by simpa using hp
          omega
        subst h1
        have e2 : red p.toNat t = (t', 0) := by rw [← e]; rfl
        rw [e2] at h
        exact h
  · exact h.elim
def tb_Dyadic_init (G : Gx) : AS := (aSeq (aIf (aOr (aNot (aTru (aCall (sp_is_integer G) [] (aCons (aVar 1) aNil)))) (aNot (aTest (aChain oLe oLe (aNeg (aC (.int 1000000000000))) (aVar 1) (aC (.int 1000000000000)))))) (aRaise G.BadValue) aNext) (aSeq (aIf (aOr (aNot (aTru (aCall (sp_is_integer G) [] (aCons (aVar 2) aNil)))) (aNot (aTest (aChain oLe oLe (aC (.int 0)) (aVar 2) (aC (.int 40)))))) (aRaise G.BadValue) aNext) (aSeq (aSet 3 (aCall (sp_reduced G) [] (aCons (aVar 1) (aCons (aVar 2) aNil)))) (aSeq (aFNew G.Dyadic "_top" (aVar 0) (aBin oIx (aVar 3) (aC (.int 0)))) (aFNew G.Dyadic "_power" (aVar 0) (aBin oIx (aVar 3) (aC (.int 1))))))))
theorem dyOf_top {t p : DV} (h : ∀ i, t = .int i → ¬ (-10 ^ 12 ≤ i ∧ i ≤ 10 ^ 12)) : dyOf t p = none := by
  unfold dyOf
  split
  · rename_i i j
    rw [if_neg (fun z => h i rfl ⟨z.1, z.2.1⟩)]
  · rfl
theorem dyOf_pow {t p : DV} (h : ∀ j, p = .int j → ¬ (0 ≤ j ∧ j ≤ 40)) : dyOf t p = none := by
  unfold dyOf
  split
  · rename_i i j
    rw [if_neg (fun z => h j rfl ⟨z.2.2.1, z.2.2.2⟩)]
  · rfl
theorem rd_Dyadic_init (G : Gx) : Reads 4 (sp_Dyadic_init G) (tb_Dyadic_init G) := by
  intro ds L P R h
  unfold sp_Dyadic_init at h
  split at h
  · rename_i x t p
    have bad : dyOf t p = none → RS R G.BadValue L := fun e => by
      obtain ⟨dx, _, q⟩ := h.get.get
      rw [e] at q
      exact q
    refine told.imp (Sub.refl L) ?_ h
    intro h
    refine ⟨fun ht => ⟨fun _ => ?_, ntf⟩, fun ht => ?_⟩
    · exact bad (dyOf_top fun i e => by subst e; cases ht)
    obtain ⟨i, rfl⟩ := isIntD_of (d := t) (by simpa using ht)
    have rng : ¬ (-10 ^ 12 ≤ i ∧ i ≤ 10 ^ 12) → RS R G.BadValue L := fun z => bad (dyOf_top fun j e => by cases e; exact z)
    have second : -10 ^ 12 ≤ i ∧ i ≤ 10 ^ 12 → aSeq (aIf (aOr (aNot (aTru (aCall (sp_is_integer G) [] (aCons (aVar 2) aNil)))) (aNot (aTest (aChain oLe oLe (aC (.int 0)) (aVar 2) (aC (.int 40)))))) (aRaise G.BadValue) aNext) (aSeq (aSet 3 (aCall (sp_reduced G) [] (aCons (aVar 1) (aCons (aVar 2) aNil)))) (aSeq (aFNew G.Dyadic "_top" (aVar 0) (aBin oIx (aVar 3) (aC (.int 0)))) (aFNew G.Dyadic "_power" (aVar 0) (aBin oIx (aVar 3) (aC (.int 1))))))
        ⟨fun _ L => P .non L, P, fun _ _ => False, fun _ _ => False, fun c _ L => R c L⟩ (startA 4 [.ref x, .int i, p]) L := fun hi => by
      refine told.imp (Sub.refl L) ?_ h
      intro h
      refine ⟨fun hp => ⟨fun _ => ?_, ntf⟩, fun hp => ?_⟩
      · exact bad (dyOf_pow fun j e => by subst e; cases hp)
      obtain ⟨j, rfl⟩ := isIntD_of (d := p) (by simpa using hp)
      have rng : ¬ (0 ≤ j ∧ j ≤ 40) → RS R G.BadValue L := fun z => bad (dyOf_pow fun j e => by cases e; exact z)
      refine ⟨fun z => ⟨fun z2 => rng fun q => df (by simpa using z2) q.2, fun z2 => ?_⟩, fun z => ⟨fun _ => rng fun q => df z q.1, ntf⟩⟩
      have z0 := dt z
      have z1 : j ≤ 40 := by simpa using z2
      obtain ⟨dx, hx, q⟩ := h
      have e : dyOf (.int i) (.int j) = some (red j.toNat i) := by
        show (if -10 ^ 12 ≤ i ∧ i ≤ 10 ^ 12 ∧ 0 ≤ j ∧ j ≤ 40 then some (red j.toNat i) else none) = _
        rw [if_pos ⟨hi.1, hi.2, z0, z1⟩]
      rw [e] at q
      refine ⟨z0, _, rfl, dx, _, _, hx, by decide +kernel, _, rfl, dx, _, _, updL_same, by decide +kernel, ?_⟩
      rw [updL_updL]
      exact q
    refine ⟨fun z => ⟨fun z2 => rng fun q => df (by simpa using z2) q.2, fun z2 => second ⟨dt z, by simpa using z2⟩⟩, fun z => ⟨fun _ => rng fun q => df z q.1, ntf⟩⟩
  · exact h.elim
theorem dyOf_in {t p : Int} (h : -10 ^ 12 ≤ t ∧ t ≤ 10 ^ 12 ∧ 0 ≤ p ∧ p ≤ 40) : dyOf (.int t) (.int p) = some (red p.toNat t) := by
  show (if -10 ^ 12 ≤ t ∧ t ≤ 10 ^ 12 ∧ 0 ≤ p ∧ p ≤ 40 then some (red p.toNat t) else none) = _
  rw [if_pos h]
theorem mk2_dy {G : Gx} {t p : Int} {L : Led} {P : PD} {R : Addr → Led → Prop} (h : -10 ^ 12 ≤ t ∧ t ≤ 10 ^ 12 ∧ 0 ≤ p ∧ p ≤ 40) (q : P (dy G (red p.toNat t).1 (red p.toNat t).2) L) : mk2_Dyadic_init G [.int t, .int p] L P R := by
  unfold mk2_Dyadic_init
  simp only [told, dyOf_in h]
  exact q
theorem mk1_dy {G : Gx} {t : Int} {L : Led} {P : PD} {R : Addr → Led → Prop} (h : -10 ^ 12 ≤ t ∧ t ≤ 10 ^ 12) (q : P (dy G t 0) L) : mk1_Dyadic_init G [.int t] L P R := by
  unfold mk1_Dyadic_init
  simp only [told, dyOf_in (p := 0) ⟨h.1, h.2, by decide, by decide⟩]
  exact q
theorem mk2_or {G : Gx} {t p : Int} {L : Led} {P : PD} {R : Addr → Led → Prop} (h0 : 0 ≤ p) (q : dyOr G (t, p.toNat) L P R) : mk2_Dyadic_init G [.int t, .int p] L P R := by
  by_cases h : -10 ^ 12 ≤ t ∧ t ≤ 10 ^ 12 ∧ 0 ≤ p ∧ p ≤ 40
  · refine mk2_dy h ?_
    unfold dyOr at q
    rw [if_pos ⟨h.1, h.2.1, by show p.toNat ≤ 40; omega⟩] at q
    exact q
  · unfold mk2_Dyadic_init
    unfold dyOr at q
    rw [if_neg (fun z => h ⟨z.1, z.2.1, h0, by have : p.toNat ≤ 40 := z.2.2; omega⟩)] at q
    have e : dyOf (.int t) (.int p) = none := by
      show (if -10 ^ 12 ≤ t ∧ t ≤ 10 ^ 12 ∧ 0 ≤ p ∧ p ≤ 40 then some (red p.toNat t) else none) = _
      rw [if_neg h]
    simp only [told, e]
    exact q
theorem mk2_bad {G : Gx} {t p : DV} {L : Led} {P : PD} {R : Addr → Led → Prop} (e : dyOf t p = none) (h : told t L (told p L (R G.BadValue L))) : mk2_Dyadic_init G [t, p] L P R := by
  unfold mk2_Dyadic_init
  refine h.imp (Sub.refl L) fun h => h.imp (Sub.refl L) fun h => ?_
  rw [e]
  exact h
def tb_Dyadic_neg (G : Gx) : AS := (aRet (aMake (mk2_Dyadic_init G) (aCons (aNeg (aFld "_top" 0 (aVar 0))) (aCons (aFld "_power" 1 (aVar 0)) aNil))))
theorem rd_Dyadic_neg (G : Gx) : Reads 1 (sp_Dyadic_neg G) (tb_Dyadic_neg G) := by
  intro ds L P R h
  unfold sp_Dyadic_neg at h
  split at h
  · rename_i C ks t p
    obtain ⟨⟨rfl, rfl⟩, ⟨h1, h2⟩, h⟩ := h
    refine ⟨rfl, _, rfl, rfl, _, rfl, ?_⟩
    refine mk2_dy ⟨by omega, by omega, h1.2.2.1, h1.2.2.2⟩ ?_
    rw [red_stop (by omega)]
    exact h
  · exact h.elim
def tb_above_2 (G : Gx) : AS := (aSeq (aWhile (aAnd (aTest (aBin (oIsN true) (aVar 1) (aC .non))) (aNot (aTru (aMeth G.Dyadic (sp_Dyadic_less G) [] (aVar 3) (aCons (aVar 1) aNil))))) (aSeq (aSet 2 (aBin oAdd (aVar 2) (aC (.int 1)))) (aSet 3 (aMake (mk2_Dyadic_init G) (aCons (aBin oAdd (aBin oShr (aBin oShl (aProp G.Dyadic (sp_Dyadic_top G) (aVar 0)) (aVar 2)) (aProp G.Dyadic (sp_Dyadic_power G) (aVar 0))) (aC (.int 1))) (aCons (aVar 2) aNil)))))) (aRet (aVar 3)))
def tb_above (G : Gx) : AS := (aSeq (aSet 2 (aC (.int 0))) (aSeq (aSet 3 (aMake (mk1_Dyadic_init G) (aCons (aBin oAdd (aBin oShr (aProp G.Dyadic (sp_Dyadic_top G) (aVar 0)) (aProp G.Dyadic (sp_Dyadic_power G) (aVar 0))) (aC (.int 1))) aNil))) (tb_above_2 G)))
theorem rd_above (G : Gx) : Reads 4 (sp_above G) (tb_above G) := by
  intro ds L P R h
  unfold sp_above at h
  split at h
  · obtain ⟨t, p, b2, rfl, rfl, i1, i2, h0, lt, h⟩ := h
    obtain ⟨j1, j2, j3⟩ := i1 t p rfl
    have hp : (red p t).2 ≤ 40 := by have := (red_val p t).1; omega
    have last : okUp (V40 t p) (bdV b2) 40 := ok_last fun x e => by
      have := lt x e
      have := bdV_even i2 e
      have := V_even (t := t) (p := p) j3
      omega
    obtain ⟨m, hm, om, lm⟩ := least_ex (P := okUp (V40 t p) (bdV b2)) 40 last
    have sm := next_small rfl h0 j2 j3 rfl i2 om hm lm lt
    have mono : ∀ k, k ≤ m → nextUp (V40 t p) k ≤ 10 ^ 12 := fun k hk => Int.le_trans (next_mono h0 hk hm) sm.2
    have posk : ∀ k, 0 < nextUp (V40 t p) k := fun k => by
      unfold nextUp
      have := Int.ediv_nonneg h0 (Int.le_of_lt (pow2_pos (40 - k)))
      omega
    have nx : ∀ k, k ≤ 40 → (red p t).1 * 2 ^ k / 2 ^ (red p t).2 + 1 = nextUp (V40 t p) k := fun k hk => by
      rw [next_is hp hk, red_V (by omega)]
    have e0 : (red p t).1 / 2 ^ (((red p t).2 : Nat) : Int).toNat + 1 = nextUp (V40 t p) 0 := by
      rw [Int.toNat_natCast, ← nx 0 (by decide)]; simp
    refine ⟨rfl, rfl, rfl, rfl, rfl, rfl, Int.natCast_nonneg _, ?_⟩
    refine mk1_dy ?_ ?_
    · show _ ≤ (red p t).1 / 2 ^ (((red p t).2 : Nat) : Int).toNat + 1 ∧ (red p t).1 / 2 ^ (((red p t).2 : Nat) : Int).toNat + 1 ≤ _
      rw [e0]
      have := mono 0 (Nat.zero_le _)
      have := posk 0
      omega
    show tb_above_2 G _ [some (bdN G (some (t, p))), some (bdN G b2), some (.int 0), some (dy G ((red p t).1 / 2 ^ (((red p t).2 : Nat) : Int).toNat + 1) 0)] L
    rw [e0]
    refine ⟨fun n ρ L' => ∃ k, k ≤ m ∧ n = m - k ∧ ρ = [some (bdN G (some (t, p))), some (bdN G b2), some (.int (k : Nat)), some (dy G (red k (nextUp (V40 t p) k)).1 (red k (nextUp (V40 t p) k)).2)] ∧ L' = L, ⟨m, 0, Nat.zero_le _, rfl, rfl, rfl⟩, ?_⟩
    rintro n ρ L' ⟨k, hk, rfl, rfl, rfl⟩
    have stop : okUp (V40 t p) (bdV b2) k → k = m := fun o => by
      rcases Nat.lt_or_eq_of_le hk with z | z
      · exact absurd o (lm k z)
      · exact z
    have fin : k = m → P (dy G (red k (nextUp (V40 t p) k)).1 (red k (nextUp (V40 t p) k)).2) L' := fun e => by
      subst e
      have s := Simp.above h0 hm om lm
      rw [red_stop s.pl]
      exact h _ _ s sm.1 sm.2
    cases b2 with
    | none =>
      refine ⟨nft, fun _ => ⟨nft, fun _ => ?_⟩⟩
      exact fin (stop fun x e => by cases e)
    | some y =>
      obtain ⟨t2, p2⟩ := y
      obtain ⟨k1, k2, k3⟩ := i2 t2 p2 rfl
      have rk := red_abs k (nextUp (V40 t p) k)
      have rv := (red_val k (nextUp (V40 t p) k)).1
      have ra := red_abs p2 t2
      have rb := (red_val p2 t2).1
      have := mono k hk
      have := posk k
      refine ⟨fun _ => ⟨rfl, ⟨rfl, rfl, rfl, rfl⟩, ⟨by omega, by omega, by omega, by omega, by omega, by omega⟩, ?_⟩, ntf⟩
      have ld := less_bd (t := nextUp (V40 t p) k) (p := k) (t2 := t2) (p2 := p2) (by omega) (by omega)
      refine ⟨fun z => ?_, fun z => ?_⟩
      · have z : (!decide ((red k (nextUp (V40 t p) k)).1 * 2 ^ (((red p2 t2).2 : Nat) : Int).toNat < (red p2 t2).1 * 2 ^ (((red k (nextUp (V40 t p) k)).2 : Nat) : Int).toNat)) = true := z
        rw [ld] at z
        have z : ¬ V40 (nextUp (V40 t p) k) k < V40 t2 p2 := by simpa using z
        have hkm : k < m := by
          rcases Nat.lt_or_eq_of_le hk with q | q
          · exact q
          · subst q
            exact absurd (om _ rfl) z
        have ek : ((k : Int) + 1).toNat = k + 1 := by omega
        have er : (red p t).1 * 2 ^ ((k : Int) + 1).toNat / 2 ^ (((red p t).2 : Nat) : Int).toNat + 1 = nextUp (V40 t p) (k + 1) := by
          rw [Int.toNat_natCast, ek]; exact nx (k + 1) (by omega)
        have ra0 := red_abs p t
        refine ⟨rfl, rfl, rfl, ⟨by show (0 : Int) ≤ (k : Int) + 1; omega, by show (k : Int) + 1 ≤ _; omega, by omega⟩, rfl, rfl, rfl, Int.natCast_nonneg _, ?_⟩
        refine mk2_dy ?_ ?_
        · show _ ≤ (red p t).1 * 2 ^ ((k : Int) + 1).toNat / 2 ^ (((red p t).2 : Nat) : Int).toNat + 1 ∧ (red p t).1 * 2 ^ ((k : Int) + 1).toNat / 2 ^ (((red p t).2 : Nat) : Int).toNat + 1 ≤ _ ∧ (0 : Int) ≤ (k : Int) + 1 ∧ (k : Int) + 1 ≤ 40
          rw [er]
          have := mono (k + 1) hkm
          have := posk (k + 1)
          omega
        refine ⟨m - (k + 1), by omega, k + 1, hkm, rfl, ?_, rfl⟩
        show [some (bdN G (some (t, p))), some (bdN G (some (t2, p2))), some (.int ((k : Int) + 1)), some (dy G (red ((k : Int) + 1).toNat ((red p t).1 * 2 ^ ((k : Int) + 1).toNat / 2 ^ (((red p t).2 : Nat) : Int).toNat + 1)).1 (red ((k : Int) + 1).toNat ((red p t).1 * 2 ^ ((k : Int) + 1).toNat / 2 ^ (((red p t).2 : Nat) : Int).toNat + 1)).2)] = _
        rw [er, ek]
        rfl
      · have z : (!decide ((red k (nextUp (V40 t p) k)).1 * 2 ^ (((red p2 t2).2 : Nat) : Int).toNat < (red p2 t2).1 * 2 ^ (((red k (nextUp (V40 t p) k)).2 : Nat) : Int).toNat)) = false := z
        rw [ld] at z
        have z : V40 (nextUp (V40 t p) k) k < V40 t2 p2 := by simpa using z
        exact fin (stop fun x e => by cases e; exact z)
  · exact h.elim
def tb_negated (G : Gx) : AS := (aSeq (aIf (aTest (aBin (oIsN false) (aVar 0) (aC .non))) (aRet (aC .non)) aNext) (aRet (aUnM G.Dyadic (sp_Dyadic_neg G) (aVar 0))))
theorem rd_negated (G : Gx) : Reads 1 (sp_negated G) (tb_negated G) := by
  intro ds L P R h
  unfold sp_negated at h
  split at h
  · obtain ⟨b, rfl, hb, h⟩ := h
    cases b with
    | none => exact ⟨fun _ => h, ntf⟩
    | some x =>
      obtain ⟨t, p⟩ := x
      refine ⟨nft, fun _ => ⟨rfl, ⟨rfl, rfl⟩, bd_dyIn hb rfl, ?_⟩⟩
      rw [Int.toNat_natCast]
      have e : bdN G (bdNeg (some (t, p))) = dy G (-(red p t).1) (red p t).2 := by
        show dy G (red p (-t)).1 (red p (-t)).2 = _
        rw [red_neg]
      rw [e] at h
      exact h
  · exact h.elim
def tb_simplest_between_2 (G : Gx) : AS := (aSeq (aSet 2 (aMake (mk1_Dyadic_init G) (aCons (aC (.int 0)) aNil))) (aSeq (aIf (aAnd (aOr (aTest (aBin (oIsN false) (aVar 0) (aC .non))) (aTru (aMeth G.Dyadic (sp_Dyadic_less G) [] (aVar 0) (aCons (aVar 2) aNil)))) (aOr (aTest (aBin (oIsN false) (aVar 1) (aC .non))) (aTru (aMeth G.Dyadic (sp_Dyadic_less G) [] (aVar 2) (aCons (aVar 1) aNil))))) (aRet (aVar 2)) aNext) (aSeq (aIf (aOr (aTest (aBin (oIsN false) (aVar 0) (aC .non))) (aTru (aMeth G.Dyadic (sp_Dyadic_less G) [] (aVar 0) (aCons (aVar 2) aNil)))) (aRet (aUnM G.Dyadic (sp_Dyadic_neg G) (aCall (sp_above G) [] (aCons (aUnM G.Dyadic (sp_Dyadic_neg G) (aVar 1)) (aCons (aCall (sp_negated G) [] (aCons (aVar 0) aNil)) aNil))))) aNext) (aRet (aCall (sp_above G) [] (aCons (aVar 0) (aCons (aVar 1) aNil)))))))
def tb_simplest_between (G : Gx) : AS := (aSeq (aIf (aAnd (aTest (aBin (oIsN true) (aVar 0) (aC .non))) (aAnd (aTest (aBin (oIsN true) (aVar 1) (aC .non))) (aNot (aTru (aMeth G.Dyadic (sp_Dyadic_less G) [] (aVar 0) (aCons (aVar 1) aNil)))))) (aRaise G.BadValue) aNext) (tb_simplest_between_2 G))
theorem rd_simplest_between (G : Gx) : Reads 3 (sp_simplest_between G) (tb_simplest_between G) := by
  intro ds L P R h
  unfold sp_simplest_between at h
  split at h
  · obtain ⟨b1, b2, rfl, rfl, i1, i2, h, bad⟩ := h
    have small : ∀ (t : Int) (p : Nat) (b : Bd), bdIn b → b = some (t, p) → (red p t).1.natAbs < 2 ^ 64 ∧ (red p t).2 ≤ 40 ∧ p ≤ 40 := fun t p b i e => by
      obtain ⟨h1, h2, h3⟩ := i t p e
      have := red_abs p t
      have := (red_val p t).1
      omega
    have rest : (∀ x y, bdV b1 = some x → bdV b2 = some y → x < y) → tb_simplest_between_2 G ⟨fun _ L => P .non L, P, fun _ _ => False, fun _ _ => False, fun c _ L => R c L⟩ [some (bdN G b1), some (bdN G b2), none] L := fun lt => by
      have h := h lt
      have zero : (∀ l, bdV b1 = some l → l < 0) → (∀ x, bdV b2 = some x → 0 < x) → P (dy G 0 0) L := fun z1 z2 => h 0 0 (simp_zero z1 z2) (by decide) (by decide)
      have up : ∀ (t : Int) (p : Nat), b1 = some (t, p) → 0 ≤ V40 t p → sp_above G [bdN G b1, bdN G b2] L P (fun c L => R c L) := fun t p e z => by
        subst e
        exact ⟨t, p, b2, rfl, rfl, i1, i2, z, fun x ex => lt _ x rfl ex, fun a b s a0 a1 => h a b s (by omega) a1⟩
      have dn : ∀ (t : Int) (p : Nat), b2 = some (t, p) → V40 t p ≤ 0 → aRet (aUnM G.Dyadic (sp_Dyadic_neg G) (aCall (sp_above G) [] (aCons (aUnM G.Dyadic (sp_Dyadic_neg G) (aVar 1)) (aCons (aCall (sp_negated G) [] (aCons (aVar 0) aNil)) aNil)))) ⟨fun _ L => P .non L, P, fun _ _ => False, fun _ _ => False, fun c _ L => R c L⟩ [some (bdN G b1), some (bdN G b2), some (dy G 0 0)] L := fun t p e z => by
        subst e
        obtain ⟨q1, q2, q3⟩ := i2 t p rfl
        refine ⟨rfl, ⟨rfl, rfl⟩, bd_dyIn i2 rfl, b1, rfl, i1, -t, p, bdNeg b1, ?_, rfl, fun t' p' e' => ?_, bdNeg_in i1, by rw [V_neg]; omega, fun x ex => ?_, fun a b s a0 a1 => ⟨rfl, ⟨rfl, rfl⟩, ⟨⟨by omega, a1, Int.natCast_nonneg _, by have := s.hb; omega⟩, by rw [Int.toNat_natCast]; exact s.pl⟩, ?_⟩⟩
        · show dy G (-(red p t).1) (((red p t).2 : Nat) : Int).toNat = dy G (red p (-t)).1 (red p (-t)).2
          rw [Int.toNat_natCast, red_neg]
        · cases e'
          exact ⟨by omega, by omega, q3⟩
        · rw [bdNeg_V] at ex
          cases eb : bdV b1 with
          | none => rw [eb] at ex; cases ex
          | some y =>
            rw [eb] at ex; cases ex
            have : y < V40 t p := lt y _ eb rfl
            show V40 (-t) p < -y
            rw [V_neg]; omega
        · rw [Int.toNat_natCast]
          have s2 := s.neg
          rw [bdNeg_V, Option.map_map] at s2
          have e1 : Option.map ((fun x => -x) ∘ fun x => -x) (bdV b1) = bdV b1 := by
            cases bdV b1 with
            | none => rfl
            | some y => exact congrArg some (Int.neg_neg y)
          rw [e1, V_neg] at s2
          have e2 : Option.map (fun x => -x) (some (-V40 t p)) = bdV (some (t, p)) := congrArg some (Int.neg_neg _)
          rw [e2] at s2
          exact h _ _ s2 (by omega) (by omega)
      refine mk1_dy (by decide) ?_
      cases b1 with
      | none =>
        cases b2 with
        | none => exact ⟨fun _ => ⟨fun _ => ⟨fun _ => ⟨fun _ => zero (fun l e => by cases e) (fun l e => by cases e), ntf⟩, ntf⟩, ntf⟩, ntf⟩
        | some y =>
          obtain ⟨t2, p2⟩ := y
          obtain ⟨s1, s2, s3⟩ := small t2 p2 _ i2 rfl
          have lz := less_z2 (t := t2) s3
          refine ⟨fun _ => ⟨fun _ => ?_, ntf⟩, ntf⟩
          refine ⟨nft, fun _ => ⟨rfl, ⟨rfl, rfl, rfl, rfl⟩, ⟨by decide, by decide, by omega, by omega, by decide, by omega⟩, fun z => ?_, fun z => ?_⟩⟩
          · have z := dt (lz ▸ z)
            exact zero (fun l e => by cases e) (fun x e => by cases e; exact z)
          · have z := df (lz ▸ z)
            exact ⟨fun _ => ⟨fun _ => dn t2 p2 rfl (by omega), ntf⟩, ntf⟩
      | some x =>
        obtain ⟨t, p⟩ := x
        obtain ⟨r1, r2, r3⟩ := small t p _ i1 rfl
        have lz1 := less_z1 (t := t) r3
        refine ⟨nft, fun _ => ⟨rfl, ⟨rfl, rfl, rfl, rfl⟩, ⟨by omega, by omega, by decide, by decide, by omega, by decide⟩, fun z => ?_, fun z => ?_⟩⟩
        · have z := dt (lz1 ▸ z)
          cases b2 with
          | none => exact ⟨fun _ => ⟨fun _ => zero (fun l e => by cases e; exact z) (fun l e => by cases e), ntf⟩, ntf⟩
          | some y =>
            obtain ⟨t2, p2⟩ := y
            obtain ⟨s1, s2, s3⟩ := small t2 p2 _ i2 rfl
            have lz := less_z2 (t := t2) s3
            refine ⟨nft, fun _ => ⟨rfl, ⟨rfl, rfl, rfl, rfl⟩, ⟨by decide, by decide, by omega, by omega, by decide, by omega⟩, fun z2 => ?_, fun z2 => ?_⟩⟩
            · have z2 := dt (lz ▸ z2)
              exact zero (fun l e => by cases e; exact z) (fun x e => by cases e; exact z2)
            · have z2 := df (lz ▸ z2)
              refine ⟨nft, fun _ => ⟨rfl, ⟨rfl, rfl, rfl, rfl⟩, ⟨by omega, by omega, by decide, by decide, by omega, by decide⟩, fun _ => dn t2 p2 rfl (by omega), fun z3 => ?_⟩⟩
              exact absurd z (df (lz1 ▸ z3))
        · have z := df (lz1 ▸ z)
          refine ⟨nft, fun _ => ⟨nft, fun _ => ⟨rfl, ⟨rfl, rfl, rfl, rfl⟩, ⟨by omega, by omega, by decide, by decide, by omega, by decide⟩, fun z3 => ?_, fun _ => up t p rfl (by omega)⟩⟩⟩
          exact absurd (dt (lz1 ▸ z3)) z
    cases b1 with
    | none => exact ⟨nft, fun _ => ⟨nft, fun _ => rest fun x y e => by cases e⟩⟩
    | some x =>
      cases b2 with
      | none => exact ⟨fun _ => ⟨nft, fun _ => ⟨nft, fun _ => rest fun x y _ e => by cases e⟩⟩, ntf⟩
      | some y =>
        obtain ⟨t, p⟩ := x
        obtain ⟨t2, p2⟩ := y
        obtain ⟨r1, r2, r3⟩ := small t p _ i1 rfl
        obtain ⟨s1, s2, s3⟩ := small t2 p2 _ i2 rfl
        have ld := less_bd (t := t) (t2 := t2) r3 s3
        refine ⟨fun _ => ⟨fun _ => ⟨rfl, ⟨rfl, rfl, rfl, rfl⟩, ⟨by omega, by omega, by omega, by omega, by omega, by omega⟩, fun z => ?_, fun z => ?_⟩, ntf⟩, ntf⟩
        · have z : (!decide ((red p t).1 * 2 ^ (((red p2 t2).2 : Nat) : Int).toNat < (red p2 t2).1 * 2 ^ (((red p t).2 : Nat) : Int).toNat)) = true := z
          rw [ld] at z
          have z : ¬ V40 t p < V40 t2 p2 := by simpa using z
          exact bad ⟨V40 t p, V40 t2 p2, rfl, rfl, by omega⟩
        · have z : (!decide ((red p t).1 * 2 ^ (((red p2 t2).2 : Nat) : Int).toNat < (red p2 t2).1 * 2 ^ (((red p t).2 : Nat) : Int).toNat)) = false := z
          rw [ld] at z
          have z : V40 t p < V40 t2 p2 := by simpa using z
          exact rest fun x y e1 e2 => by cases e1; cases e2; exact z
  · exact h.elim
def tb_law_refused_f6e51d19 (G : Gx) : AS := (aSeq (aTryA G.k.K (.ref G.PlayError) 2 (fun c_ a_ => (aSeq (aIf (aOr (aTru (aCB (bIsE G.k.K c_ a_) (aCons (aVar 2) (aCons (aC (.ref G.BadText)) aNil)))) (aOr (aTru (aCB (bIsE G.k.K c_ a_) (aCons (aVar 2) (aCons (aC (.ref G.NoMove)) aNil)))) (aTru (aCB (bIsE G.k.K c_ a_) (aCons (aVar 2) (aCons (aC (.ref G.Unknown)) aNil)))))) (aRet (aC (.bl false))) aNext) (aRet (aAndV (aCB (bIsE G.k.K c_ a_) (aCons (aVar 2) (aCons (aC (.ref G.BadValue)) aNil))) (aCB (bIsE G.k.K c_ a_) (aCons (aVar 2) (aCons (aC (.ty "ValueError")) aNil))))))) (aDrop (aCall (sp_simplest_between G) [] (aCons (aMake (mk2_Dyadic_init G) (aCons (aBin oIx (aVar 0) (aC (.int 0))) (aCons (aBin oIx (aVar 0) (aC (.int 1))) aNil))) (aCons (aMake (mk2_Dyadic_init G) (aCons (aBin oIx (aVar 1) (aC (.int 0))) (aCons (aBin oIx (aVar 1) (aC (.int 1))) aNil))) aNil))))) (aRet (aC (.bl false))))
theorem rd_law_refused_f6e51d19 (G : Gx) (er : ErrK G G.BadValue G.BadText G.Unknown G.NoMove) : Reads 3 (sp_law_refused_f6e51d19 G) (tb_law_refused_f6e51d19 G) := by
  intro ds L P R h
  unfold sp_law_refused_f6e51d19 at h
  split at h
  · obtain ⟨⟨t, p⟩, ⟨t2, p2⟩, rfl, rfl, i1, i2, le, h⟩ := h
    obtain ⟨a1, a2, a3⟩ := i1 t p rfl
    obtain ⟨c1, c2, c3⟩ := i2 t2 p2 rfl
    refine ⟨_, rfl, _, rfl, ?_⟩
    refine mk2_dy ⟨by omega, by omega, by omega, by omega⟩ ?_
    refine ⟨_, rfl, _, rfl, ?_⟩
    refine mk2_dy ⟨by omega, by omega, by omega, by omega⟩ ?_
    rw [Int.toNat_natCast, Int.toNat_natCast]
    refine ⟨some (t, p), some (t2, p2), rfl, rfl, i1, i2, fun lt => ?_, fun _ => ⟨L, Sub.refl L, ?_⟩⟩
    · have := lt (V40 t p) (V40 t2 p2) rfl rfl
      have le : V40 t2 p2 ≤ V40 t p := le
      omega
    · exact ⟨true, er.cP, fun _ a => ⟨rfl, false, er.na, nft, fun _ => ⟨rfl, false, er.nc, nft, fun _ => ⟨rfl, false, er.nb, nft, fun _ => ⟨rfl, true, kit_self, fun _ => ⟨rfl, true, er.ve, h⟩, ntf⟩⟩⟩⟩, ntf⟩
  · exact h.elim
def tb_law_bound_6b1178b8 (G : Gx) : AS := (aSeq (aIf (aTest (aBin (oIsN false) (aVar 0) (aC .non))) (aRet (aC .non)) aNext) (aRet (aMake (mk2_Dyadic_init G) (aCons (aBin oIx (aVar 0) (aC (.int 0))) (aCons (aBin oIx (aVar 0) (aC (.int 1))) aNil)))))
theorem rd_law_bound_6b1178b8 (G : Gx) : Reads 1 (sp_law_bound_6b1178b8 G) (tb_law_bound_6b1178b8 G) := by
  intro ds L P R h
  unfold sp_law_bound_6b1178b8 at h
  split at h
  · obtain ⟨b, rfl, i, h⟩ := h
    cases b with
    | none => exact ⟨fun _ => h, ntf⟩
    | some x =>
      obtain ⟨t, p⟩ := x
      obtain ⟨h1, h2, h3⟩ := i t p rfl
      refine ⟨nft, fun _ => ⟨_, rfl, _, rfl, ?_⟩⟩
      refine mk2_dy ⟨by omega, by omega, by omega, by omega⟩ ?_
      rw [Int.toNat_natCast]
      exact h
  · exact h.elim
def tb_law_is_integer_fcf59962 (G : Gx) : AS := (aRet (aAndV (aCB (bIsi G.k.K) (aCons (aVar 0) (aCons (aC (.ty "int")) aNil))) (aNotB (aCB (bIsi G.k.K) (aCons (aVar 0) (aCons (aC (.ty "bool")) aNil))))))
theorem rd_law_is_integer_fcf59962 (G : Gx) : Reads 1 (sp_law_is_integer_fcf59962 G) (tb_law_is_integer_fcf59962 G) := by
  intro ds L P R h
  unfold sp_law_is_integer_fcf59962 at h
  split at h
  · rename_i d
    cases d <;> try exact h.elim
    case non => exact ⟨false, kit_ty (by decide +kernel), ⟨nft, fun _ => h⟩⟩
    case bl b => exact ⟨true, kit_ty (by decide +kernel), ⟨fun _ => ⟨true, kit_ty (by decide +kernel), h⟩, ntf⟩⟩
    case int b => exact ⟨true, kit_ty (by decide +kernel), ⟨fun _ => ⟨false, kit_ty (by decide +kernel), h⟩, ntf⟩⟩
    case str b => exact ⟨false, kit_ty (by decide +kernel), ⟨nft, fun _ => h⟩⟩
    case lst b => exact ⟨false, kit_ty (by decide +kernel), ⟨nft, fun _ => h⟩⟩
    case tup b => exact ⟨false, kit_ty (by decide +kernel), ⟨nft, fun _ => h⟩⟩
    case ref a =>
      obtain ⟨⟨xs, e⟩, h⟩ := h
      exact .inr (.inl ⟨xs, e, false, kit_ty (by decide +kernel), ⟨nft, fun _ => h⟩⟩)
  · exact h.elim
def tb_law_plain_d4e9bf06 (G : Gx) : AS := (aSeq (aFor (iRng rng1 (aCons (aC (.int 64)) aNil)) (gN 2) (aIf (aAnd (aTest (aBin oGt (aVar 1) (aC (.int 0)))) (aTest (aBin oEq (aBin oMod (aCB bInt (aCons (aVar 0) aNil)) (aC (.int 2))) (aC (.int 0))))) (aSeq (aSet 0 (aBin oDiv (aVar 0) (aC (.int 2)))) (aSet 1 (aBin oSub (aVar 1) (aC (.int 1))))) aNext)) (aRet (aTup (aCons (aVar 0) (aCons (aVar 1) aNil)))))
theorem rd_law_plain_d4e9bf06 (G : Gx) : Reads 3 (sp_law_plain_d4e9bf06 G) (tb_law_plain_d4e9bf06 G) := by
  intro ds L P R h
  unfold sp_law_plain_d4e9bf06 at h
  split at h
  · rename_i t p
    obtain ⟨h0, h1, h⟩ := h
    refine ⟨⟨by decide, by decide⟩, fun i ρ L' => ∃ (t' : Int) (p' : Nat) (v : Option DV), ρ = [some (.int t'), some (.int (p' : Nat)), v] ∧ L' = L ∧ red p' t' = red p.toNat t ∧ (p' + i ≤ 64 ∨ p' = 0 ∨ t' % 2 ≠ 0), ⟨t, p.toNat, none, ?_, rfl, rfl, .inl (by omega)⟩, fun _ _ _ _ => trivial, ?_, ?_⟩
    · show [some (DV.int t), some (DV.int p), none] = _
      rw [Int.toNat_of_nonneg h0]
    · rintro i d ρ L' hd ⟨t', p', v, rfl, rfl, e, hs⟩
      obtain ⟨hi, rfl⟩ := rangeD_get hd
      have still : (p' = 0 ∨ t' % 2 ≠ 0) → ∃ (t2 : Int) (p2 : Nat) (v : Option DV), ([some (DV.int t'), some (.int (p' : Nat)), some (.int (0 + (i : Nat)))] : Sl) = [some (.int t2), some (.int (p2 : Nat)), v] ∧ L' = L' ∧ red p2 t2 = red p.toNat t ∧ (p2 + (i + 1) ≤ 64 ∨ p2 = 0 ∨ t2 % 2 ≠ 0) := fun z => ⟨t', p', _, rfl, rfl, e, .inr z⟩
      refine ⟨fun hp => ⟨?_, fun he => ?_, fun he => ?_⟩, fun hp => ⟨nft, fun _ => still ?_⟩⟩
      · show (0 : Int) < 2
        decide
      · have hp1 : 0 < p' := by simpa using hp
        have he1 : t' % 2 = 0 := by simpa using he
        refine ⟨⟨by decide, by decide⟩, t' / 2, p' - 1, some (.int (0 + (i : Nat))), ?_, rfl, ?_, ?_⟩
        · show [some (DV.int (t' / 2)), some (DV.int ((p' : Int) - 1)), some (.int (0 + (i : Nat)))] = _
          rw [show ((p' : Int) - 1) = ((p' - 1 : Nat) : Int) by omega]
        · rw [← red_go hp1 he1]; exact e
        · rcases hs with hs | hs | hs
          · exact .inl (by omega)
          · omega
          · exact absurd he1 hs
      · have he1 : ¬ t' % 2 = 0 := by simpa using he
        exact still (.inr he1)
      · have hp1 : ¬ 0 < p' := by simpa using hp
        exact .inl (by omega)
    · rintro ρ L' ⟨t', p', v, rfl, rfl, e, hs⟩
      rw [rangeD_length] at hs
      have hs : p' = 0 ∨ t' % 2 ≠ 0 := by
        rcases hs with hs | hs
        · exact .inl (by have : (64 : Int).toNat = 64 := rfl; omega)
        · exact hs
      rw [← e, red_stop hs] at h
      exact h
  · exact h.elim
def tb_law_simplest_728054c6_11 (G : Gx) : AS := (aSeq (aIf (aTest (aBin oGt (aBin oIx (aVar 3) (aC (.int 1))) (aC (.int 0)))) (aRet (aAndV (aVar 6) (aVar 7))) aNext) (aRet (aOrV (aBin oEq (aBin oIx (aVar 3) (aC (.int 0))) (aC (.int 0))) (aOrV (aAndV (aBin oGt (aBin oIx (aVar 3) (aC (.int 0))) (aC (.int 0))) (aVar 6)) (aAndV (aBin oLt (aBin oIx (aVar 3) (aC (.int 0))) (aC (.int 0))) (aVar 7))))))
def tb_law_simplest_728054c6_10 (G : Gx) : AS := (aSeq (aSet 7 (aAndV (aBin (oIsN true) (aVar 2) (aC .non)) (aNotB (aCall (sp_law_less_0394b9ff G) [] (aCons (aVar 5) (aCons (aVar 2) aNil)))))) (tb_law_simplest_728054c6_11 G))
def tb_law_simplest_728054c6_9 (G : Gx) : AS := (aSeq (aSet 6 (aAndV (aBin (oIsN true) (aVar 1) (aC .non)) (aNotB (aCall (sp_law_less_0394b9ff G) [] (aCons (aVar 1) (aCons (aVar 4) aNil)))))) (tb_law_simplest_728054c6_10 G))
def tb_law_simplest_728054c6 (G : Gx) : AS := (aSeq (aIf (aOr (aNot (aTru (aCB (bIsi G.k.K) (aCons (aVar 0) (aCons (aC (.ref G.Dyadic)) aNil))))) (aOr (aNot (aTru (aCall (sp_law_is_integer_fcf59962 G) [] (aCons (aProp G.Dyadic (sp_Dyadic_top G) (aVar 0)) aNil)))) (aNot (aTru (aCall (sp_law_is_integer_fcf59962 G) [] (aCons (aProp G.Dyadic (sp_Dyadic_power G) (aVar 0)) aNil)))))) (aRet (aC (.bl false))) aNext) (aSeq (aSet 3 (aTup (aCons (aProp G.Dyadic (sp_Dyadic_top G) (aVar 0)) (aCons (aProp G.Dyadic (sp_Dyadic_power G) (aVar 0)) aNil)))) (aSeq (aIf (aOr (aTest (aBin oLt (aBin oIx (aVar 3) (aC (.int 1))) (aC (.int 0)))) (aOr (aTest (aBin oGt (aBin oIx (aVar 3) (aC (.int 1))) (aC (.int 40)))) (aTest (aBin oNe (aCall (sp_law_plain_d4e9bf06 G) [] (aCons (aBin oIx (aVar 3) (aC (.int 0))) (aCons (aBin oIx (aVar 3) (aC (.int 1))) aNil))) (aVar 3))))) (aRet (aC (.bl false))) aNext) (aSeq (aIf (aOr (aNot (aTru (aCall (sp_law_less_0394b9ff G) [] (aCons (aVar 1) (aCons (aVar 3) aNil))))) (aNot (aTru (aCall (sp_law_less_0394b9ff G) [] (aCons (aVar 3) (aCons (aVar 2) aNil)))))) (aRet (aC (.bl false))) aNext) (aSeq (aSet 4 (aTup (aCons (aBin oSub (aBin oIx (aVar 3) (aC (.int 0))) (aC (.int 1))) (aCons (aBin oIx (aVar 3) (aC (.int 1))) aNil)))) (aSeq (aSet 5 (aTup (aCons (aBin oAdd (aBin oIx (aVar 3) (aC (.int 0))) (aC (.int 1))) (aCons (aBin oIx (aVar 3) (aC (.int 1))) aNil)))) (tb_law_simplest_728054c6_9 G)))))))
theorem rd_law_simplest_728054c6 (G : Gx) : Reads 8 (sp_law_simplest_728054c6 G) (tb_law_simplest_728054c6 G) := by
  intro ds L P R h
  unfold sp_law_simplest_728054c6 at h
  split at h
  · rename_i C ks a b l hh
    obtain ⟨b1, b2, ⟨rfl, rfl, h0⟩, rfl, rfl, i1, i2, s, hab, h⟩ := h
    obtain ⟨b, rfl⟩ : ∃ n : Nat, b = n := ⟨b.toNat, by omega⟩
    rw [Int.toNat_natCast] at s
    have hb := s.hb
    have sm : ∀ (b3 : Bd), bdIn b3 → ∀ t p, b3 = some (t, p) → t.natAbs < 2 ^ 64 ∧ p ≤ 40 := fun b3 i t p e => by
      obtain ⟨h1, h2, h3⟩ := i t p e
      omega
    have so : ∀ (c : Int), -10 ^ 13 ≤ c → c ≤ 10 ^ 13 → ∀ t p, (some (c, b) : Bd) = some (t, p) → t.natAbs < 2 ^ 64 ∧ p ≤ 40 := fun c h1 h2 t p e => by
      cases e
      omega
    have fin : ∀ (x6 x7 : Bool), (0 < b → x6 = true ∧ x7 = true) → (b = 0 → a = 0 ∨ (0 < a ∧ x6 = true) ∨ (a < 0 ∧ x7 = true)) → tb_law_simplest_728054c6_11 G ⟨fun _ L => P .non L, P, fun _ _ => False, fun _ _ => False, fun c _ L => R c L⟩ [some (dy G a b), some (bdD b1), some (bdD b2), some (.tup [.int a, .int (b : Nat)]), some (.tup [.int (a - 1), .int (b : Nat)]), some (.tup [.int (a + 1), .int (b : Nat)]), some (.bl x6), some (.bl x7)] L := fun x6 x7 q1 q2 => by
      refine ⟨_, rfl, fun z => ?_, fun z => ?_⟩
      · obtain ⟨rfl, rfl⟩ := q1 (by have := dt z; omega)
        exact ⟨fun _ => h, ntf⟩
      · have z : b = 0 := by have := df z; omega
        refine ⟨_, rfl, fun z2 => ?_, fun z2 => ?_⟩
        · show P (.bl true) L
          exact h
        · have z2 := ef z2
          rcases q2 z with q | ⟨q, rfl⟩ | ⟨q, rfl⟩
          · exact absurd q z2
          · refine ⟨_, rfl, fun z3 => ⟨fun _ => h, ntf⟩, fun z3 => absurd q (df z3)⟩
          · refine ⟨_, rfl, fun z3 => absurd (dt z3) (by omega), fun _ => ⟨nft, fun _ => ⟨_, rfl, fun _ => h, fun z3 => absurd q (df z3)⟩⟩⟩
    have ten : ∀ (x6 : Bool), (0 < b → x6 = true) → (b = 0 → 0 < a → (∃ l, bdV b1 = some l ∧ V40 (a - 1) 0 ≤ l) → x6 = true) → tb_law_simplest_728054c6_10 G ⟨fun _ L => P .non L, P, fun _ _ => False, fun _ _ => False, fun c _ L => R c L⟩ [some (dy G a b), some (bdD b1), some (bdD b2), some (.tup [.int a, .int (b : Nat)]), some (.tup [.int (a - 1), .int (b : Nat)]), some (.tup [.int (a + 1), .int (b : Nat)]), some (.bl x6), none] L := fun x6 q1 q2 => by
      cases b2 with
      | none =>
        refine ⟨nft, fun _ => fin x6 false (fun z => ?_) fun z => ?_⟩
        · obtain ⟨_, x, e, _⟩ := s.nb z
          cases e
        · rcases s.n0 z with q | ⟨q, w⟩ | ⟨q, x, e, _⟩
          · exact .inl q
          · exact .inr (.inl ⟨q, q2 z q w⟩)
          · cases e
      | some y =>
        obtain ⟨t2, p2⟩ := y
        refine ⟨fun _ => ⟨some (a + 1, b), some (t2, p2), rfl, rfl, so _ (by omega) (by omega), sm _ i2, ?_⟩, ntf⟩
        refine fin x6 _ (fun z => ⟨q1 z, ?_⟩) fun z => ?_
        · obtain ⟨_, x, e, w⟩ := s.nb z
          cases e
          show (!decide (V40 (a + 1) b < V40 t2 p2)) = true
          simp
          exact w
        · rcases s.n0 z with q | ⟨q, w⟩ | ⟨q, x, e, w⟩
          · exact .inl q
          · exact .inr (.inl ⟨q, q2 z q w⟩)
          · cases e
            refine .inr (.inr ⟨q, ?_⟩)
            show (!decide (V40 (a + 1) b < V40 t2 p2)) = true
            subst z
            simp
            exact w
    have nine : tb_law_simplest_728054c6_9 G ⟨fun _ L => P .non L, P, fun _ _ => False, fun _ _ => False, fun c _ L => R c L⟩ [some (dy G a b), some (bdD b1), some (bdD b2), some (.tup [.int a, .int (b : Nat)]), some (.tup [.int (a - 1), .int (b : Nat)]), some (.tup [.int (a + 1), .int (b : Nat)]), none, none] L := by
      cases b1 with
      | none =>
        refine ⟨nft, fun _ => ten false (fun z => ?_) fun _ _ ⟨x, e, _⟩ => ?_⟩
        · obtain ⟨⟨x, e, _⟩, _⟩ := s.nb z
          cases e
        · cases e
      | some y =>
        obtain ⟨t, p⟩ := y
        refine ⟨fun _ => ⟨some (t, p), some (a - 1, b), rfl, rfl, sm _ i1, so _ (by omega) (by omega), ?_⟩, ntf⟩
        refine ten _ (fun z => ?_) fun z _ ⟨x, e, w⟩ => ?_
        · obtain ⟨⟨x, e, w⟩, _⟩ := s.nb z
          cases e
          show (!decide (V40 t p < V40 (a - 1) b)) = true
          simp
          exact w
        · cases e
          show (!decide (V40 t p < V40 (a - 1) b)) = true
          subst z
          simp
          exact w
    have l1 : lessB (bdV b1) (some (V40 a b)) = true := by
      cases e : bdV b1 with
      | none => rfl
      | some x => exact decide_eq_true (s.lo_ x e)
    have l2 : lessB (some (V40 a b)) (bdV b2) = true := by
      cases e : bdV b2 with
      | none => rfl
      | some x => exact decide_eq_true (s.hi_ x e)
    refine ⟨true, kit_self, nft, fun _ => ⟨rfl, rfl, rfl, nft, fun _ => ⟨rfl, rfl, rfl, nft, fun _ => ⟨rfl, rfl, rfl, rfl, rfl, rfl, ?_⟩⟩⟩⟩
    refine ⟨_, rfl, fun z => absurd (dt z) (by omega), fun _ => ⟨_, rfl, fun z => absurd (dt z) (by omega), fun _ => ⟨_, rfl, _, rfl, by omega, by omega, ?_⟩⟩⟩
    rw [Int.toNat_natCast, red_stop s.pl]
    refine ⟨.tuple [.int a, .int (b : Nat)], .tuple [.int a, .int (b : Nat)], .tup (.cons (.int _) (.cons (.int _) .nil)), .tup (.cons (.int _) (.cons (.int _) .nil)), rfl, rfl, fun z => ?_, fun _ => ?_⟩
    · have z : (true ^^ PyData.eqv (.tuple [.int a, .int (b : Nat)]) (.tuple [.int a, .int (b : Nat)])) = true := z
      rw [pair_eqv] at z
      exact absurd ⟨rfl, rfl⟩ (nt z)
    refine ⟨b1, some (a, b), rfl, rfl, sm _ i1, so _ (by omega) (by omega), ?_⟩
    have e1 : lessB (bdV b1) (bdV (some (a, b))) = true := l1
    have e2 : lessB (bdV (some (a, b))) (bdV b2) = true := l2
    rw [e1]
    refine ⟨nft, fun _ => ⟨some (a, b), b2, rfl, rfl, so _ (by omega) (by omega), sm _ i2, ?_⟩⟩
    rw [e2]
    exact ⟨nft, fun _ => ⟨_, rfl, _, rfl, _, rfl, _, rfl, nine⟩⟩
  · exact h.elim
def tb_Dyadic_same (G : Gx) : AS := (aRet (aAndV (aBin oEq (aFld "_top" 0 (aVar 0)) (aProp G.Dyadic (sp_Dyadic_top G) (aVar 1))) (aBin oEq (aFld "_power" 1 (aVar 0)) (aProp G.Dyadic (sp_Dyadic_power G) (aVar 1)))))
theorem rd_Dyadic_same (G : Gx) : Reads 2 (sp_Dyadic_same G) (tb_Dyadic_same G) := by
  intro ds L P R h
  unfold sp_Dyadic_same at h
  split at h
  · rename_i C ks t p C2 ks2 t2 p2
    obtain ⟨⟨rfl, rfl, rfl, rfl⟩, h⟩ := h
    refine ⟨rfl, _, rfl, rfl, rfl, rfl, fun z => ⟨rfl, _, rfl, rfl, rfl, rfl, ?_⟩, fun z => ?_⟩
    · have z := et z
      show P (.bl (false ^^ decide (p = p2))) L
      rw [show (false ^^ decide (p = p2)) = decide (t = t2 ∧ p = p2) by simp [z]]
      exact h
    · have z := ef z
      rw [show decide (t = t2 ∧ p = p2) = false by simp [z]] at h
      exact h
  · exact h.elim
def tb_Dyadic_age (G : Gx) : AS := (aSeq (aSet 1 (aBin oShr (aCB bAbs (aCons (aFld "_top" 0 (aVar 0)) aNil)) (aFld "_power" 1 (aVar 0)))) (aSeq (aIf (aTest (aBin oEq (aFld "_power" 1 (aVar 0)) (aC (.int 0)))) (aRet (aVar 1)) aNext) (aRet (aBin oAdd (aBin oAdd (aVar 1) (aFld "_power" 1 (aVar 0))) (aC (.int 1))))))
theorem rd_Dyadic_age (G : Gx) : Reads 2 (sp_Dyadic_age G) (tb_Dyadic_age G) := by
  intro ds L P R h
  unfold sp_Dyadic_age at h
  split at h
  · rename_i C ks t p
    obtain ⟨rfl, rfl, h0, h⟩ := h
    refine ⟨rfl, _, rfl, rfl, _, rfl, h0, rfl, _, rfl, fun hp => ?_, fun hp => ?_⟩
    · have hp1 : p = 0 := by simpa using hp
      subst hp1
      show P (.int ((if t < 0 then -t else t) / 2 ^ (0 : Int).toNat)) L
      rw [iabs]
      have : (t.natAbs : Int) / 2 ^ (0 : Int).toNat = t.natAbs := by simp
      rw [this]
      exact h
    · have hp1 : ¬ p = 0 := by simpa using hp
      refine ⟨rfl, _, rfl, ?_⟩
      show P (.int ((if t < 0 then -t else t) / 2 ^ p.toNat + p + 1)) L
      rw [iabs]
      unfold ageF at h
      rw [if_neg (by omega), Int.toNat_of_nonneg h0] at h
      exact h
  · exact h.elim
def tb_law_older_8e2363a4 (G : Gx) : AS := (aSeq (aIf (aOr (aNot (aTru (aCall (sp_law_less_0394b9ff G) [] (aCons (aVar 2) (aCons (aVar 1) aNil))))) (aNot (aTru (aCall (sp_law_less_0394b9ff G) [] (aCons (aVar 1) (aCons (aVar 3) aNil)))))) (aRet (aC (.bl true))) aNext) (aSeq (aSet 4 (aMake (mk2_Dyadic_init G) (aCons (aBin oIx (aVar 1) (aC (.int 0))) (aCons (aBin oIx (aVar 1) (aC (.int 1))) aNil)))) (aRet (aOrV (aMeth G.Dyadic (sp_Dyadic_same G) [] (aVar 0) (aCons (aVar 4) aNil)) (aBin oLt (aMeth G.Dyadic (sp_Dyadic_age G) [] (aVar 0) aNil) (aMeth G.Dyadic (sp_Dyadic_age G) [] (aVar 4) aNil))))))
theorem lessB_l {o : Option Int} {x : Int} (h : lessB o (some x) = true) : ∀ l, o = some l → l < x := fun l e => by
  subst e
  exact of_decide_eq_true h
theorem lessB_h {o : Option Int} {x : Int} (h : lessB (some x) o = true) : ∀ l, o = some l → x < l := fun l e => by
  subst e
  exact of_decide_eq_true h
theorem bd_small {b : Bd} (i : bdIn b) : ∀ t p, b = some (t, p) → t.natAbs < 2 ^ 64 ∧ p ≤ 40 := fun t p e => by
  obtain ⟨h1, h2, h3⟩ := i t p e
  omega
theorem rd_law_older_8e2363a4 (G : Gx) : Reads 5 (sp_law_older_8e2363a4 G) (tb_law_older_8e2363a4 G) := by
  intro ds L P R h
  unfold sp_law_older_8e2363a4 at h
  split at h
  · rename_i C ks a b e l hh
    obtain ⟨⟨t, p⟩, b1, b2, ⟨rfl, rfl, h0⟩, rfl, rfl, rfl, i, i1, i2, s, h⟩ := h
    obtain ⟨k1, k2, k3⟩ := i t p rfl
    refine ⟨b1, some (t, p), rfl, rfl, bd_small i1, bd_small i, fun z => ⟨fun _ => h, ntf⟩, fun z => ⟨some (t, p), b2, rfl, rfl, bd_small i, bd_small i2, fun _ => h, fun z2 => ?_⟩⟩
    have z : lessB (bdV b1) (some (V40 t p)) = true := by
      have : (!lessB (bdV b1) (bdV (some (t, p)))) = false := z
      exact (by simpa using this : lessB (bdV b1) (bdV (some (t, p))) = true)
    have z2 : lessB (some (V40 t p)) (bdV b2) = true := by
      have : (!lessB (bdV (some (t, p))) (bdV b2)) = false := z2
      exact (by simpa using this : lessB (bdV (some (t, p))) (bdV b2) = true)
    refine ⟨_, rfl, _, rfl, ?_⟩
    refine mk2_dy ⟨by omega, by omega, by omega, by omega⟩ ?_
    rw [Int.toNat_natCast]
    refine ⟨rfl, ⟨rfl, rfl, rfl, rfl⟩, fun _ => h, fun z3 => ⟨rfl, rfl, rfl, h0, rfl, rfl, rfl, Int.natCast_nonneg _, ?_⟩⟩
    have z3 : ¬ (a = (red p t).1 ∧ b = ((red p t).2 : Nat)) := df z3
    have y := s.young (c := (red p t).1) (d := (red p t).2) (by have := (red_val p t).1; omega) (red_plain p t) (fun l e => by rw [red_V (by omega)]; exact lessB_l z l e) (fun l e => by rw [red_V (by omega)]; exact lessB_h z2 l e)
    rcases y with y | y
    · exact absurd ⟨y.1.symm, by omega⟩ z3
    · show P (.bl (decide (ageF a b.toNat < ageF (red p t).1 (((red p t).2 : Nat) : Int).toNat))) L
      rw [Int.toNat_natCast, decide_eq_true y]
      exact h
  · exact h.elim
def tb_law_turned_796bf394 (G : Gx) : AS := (aSeq (aIf (aTest (aBin (oIsN false) (aVar 0) (aC .non))) (aRet (aC .non)) aNext) (aRet (aTup (aCons (aNeg (aBin oIx (aVar 0) (aC (.int 0)))) (aCons (aBin oIx (aVar 0) (aC (.int 1))) aNil)))))
theorem rd_law_turned_796bf394 (G : Gx) : Reads 1 (sp_law_turned_796bf394 G) (tb_law_turned_796bf394 G) := by
  intro ds L P R h
  unfold sp_law_turned_796bf394 at h
  split at h
  · obtain ⟨b, rfl, h⟩ := h
    cases b with
    | none => exact ⟨fun _ => h, ntf⟩
    | some x => exact ⟨nft, fun _ => ⟨_, rfl, _, rfl, h⟩⟩
  · exact h.elim
def tb_law_kept_51dc22b8 (G : Gx) : AS := (aSeq (aIf (aTest (aBin (oIsN false) (aVar 1) (aC .non))) (aRet (aBin (oIsN false) (aVar 0) (aC .non))) aNext) (aRet (aBin oEq (aTup (aCons (aProp G.Dyadic (sp_Dyadic_top G) (aVar 0)) (aCons (aProp G.Dyadic (sp_Dyadic_power G) (aVar 0)) aNil))) (aCall (sp_law_plain_d4e9bf06 G) [] (aCons (aBin oIx (aVar 1) (aC (.int 0))) (aCons (aBin oIx (aVar 1) (aC (.int 1))) aNil))))))
theorem rd_law_kept_51dc22b8 (G : Gx) : Reads 2 (sp_law_kept_51dc22b8 G) (tb_law_kept_51dc22b8 G) := by
  intro ds L P R h
  unfold sp_law_kept_51dc22b8 at h
  split at h
  · obtain ⟨b, rfl, rfl, i, h⟩ := h
    cases b with
    | none => exact ⟨fun _ => h, ntf⟩
    | some x =>
      obtain ⟨t, p⟩ := x
      obtain ⟨h1, h2, h3⟩ := i t p rfl
      refine ⟨nft, fun _ => ⟨rfl, rfl, rfl, rfl, rfl, rfl, _, rfl, _, rfl, by omega, by omega, ?_⟩⟩
      refine pair_deep ?_
      rw [Int.toNat_natCast]
      simpa using h
  · exact h.elim
def tb_law_bfff741c_29 (G : Gx) : AS := (aSeq (aSet 9 (aCall (sp_simplest_between G) [] (aCons (aCall (sp_law_bound_6b1178b8 G) [] (aCons (aCall (sp_law_turned_796bf394 G) [] (aCons (aVar 3) aNil)) aNil)) (aCons (aCall (sp_law_bound_6b1178b8 G) [] (aCons (aCall (sp_law_turned_796bf394 G) [] (aCons (aVar 2) aNil)) aNil)) aNil)))) (aSeq (aIf (aNot (aTru (aCall (sp_law_simplest_728054c6 G) [] (aCons (aVar 9) (aCons (aCall (sp_law_turned_796bf394 G) [] (aCons (aVar 3) aNil)) (aCons (aCall (sp_law_turned_796bf394 G) [] (aCons (aVar 2) aNil)) aNil)))))) (aRet (aC (.bl false))) aNext) (aSeq (aSet 10 (aCall (sp_simplest_between G) [] (aCons (aBin oIx (aVar 5) (aC (.int 0))) (aCons (aBin oIx (aVar 5) (aC (.int 1))) aNil)))) (aSeq (aIf (aOr (aNot (aTru (aCall (sp_law_kept_51dc22b8 G) [] (aCons (aBin oIx (aVar 5) (aC (.int 0))) (aCons (aVar 2) aNil))))) (aNot (aTru (aCall (sp_law_kept_51dc22b8 G) [] (aCons (aBin oIx (aVar 5) (aC (.int 1))) (aCons (aVar 3) aNil)))))) (aRet (aC (.bl false))) aNext) (aRet (aAndV (aMeth G.Dyadic (sp_Dyadic_same G) [] (aVar 10) (aCons (aVar 6) aNil)) (aAndV (aBin oEq (aProp G.Dyadic (sp_Dyadic_top G) (aVar 9)) (aNeg (aProp G.Dyadic (sp_Dyadic_top G) (aVar 6)))) (aBin oEq (aProp G.Dyadic (sp_Dyadic_power G) (aVar 9)) (aProp G.Dyadic (sp_Dyadic_power G) (aVar 6))))))))))
def tb_law_bfff741c_19 (G : Gx) : AS := (aSeq (aSet 5 (aLst (aCons (aCall (sp_law_bound_6b1178b8 G) [] (aCons (aVar 2) aNil)) (aCons (aCall (sp_law_bound_6b1178b8 G) [] (aCons (aVar 3) aNil)) aNil)))) (aSeq (aSet 6 (aCall (sp_simplest_between G) [] (aCons (aBin oIx (aVar 5) (aC (.int 0))) (aCons (aBin oIx (aVar 5) (aC (.int 1))) aNil)))) (aSeq (aIf (aNot (aTru (aCall (sp_law_simplest_728054c6 G) [] (aCons (aVar 6) (aCons (aVar 2) (aCons (aVar 3) aNil)))))) (aRet (aC (.bl false))) aNext) (aSeq (aFor (iRng rng1 (aCons (aC (.int 6)) aNil)) (gN 7) (aSeq (aSet 8 (aCall (sp_law_pair_638bb791 G) [] (aCons (aCall (sp_law_cell_4bc9b38b G) [] (aCons (aVar 0) (aCons (aBin oAdd (aC (.int 5)) (aBin oMulL (aC (.int 2)) (aVar 7))) aNil))) (aCons (aCall (sp_law_cell_4bc9b38b G) [] (aCons (aVar 0) (aCons (aBin oAdd (aC (.int 6)) (aBin oMulL (aC (.int 2)) (aVar 7))) aNil))) aNil)))) (aSeq (aIf (aAnd (aTest (aBin oLt (aVar 7) (aC (.int 3)))) (aTest (aBin (oIsN true) (aVar 2) (aC .non)))) (aSet 8 (aCall (sp_law_later_f3b91afa G) [] (aCons (aVar 2) (aCons (aVar 8) (aCons (aBin oAdd (aC (.int 1)) (aBin oMulL (aC (.int 3)) (aVar 7))) (aCons (aVar 7) aNil)))))) aNext) (aIf (aNot (aTru (aCall (sp_law_older_8e2363a4 G) [] (aCons (aVar 6) (aCons (aVar 8) (aCons (aVar 2) (aCons (aVar 3) aNil))))))) (aRet (aC (.bl false))) aNext)))) (tb_law_bfff741c_29 G)))))
def tb_law_bfff741c_17 (G : Gx) : AS := (aSeq (aIf (aOr (aTest (aBin oEq (aBin oMod (aCB bInt (aCons (aBin oIx (aVar 1) (aC (.int 1))) aNil)) (aC (.int 8))) (aC (.int 2)))) (aTest (aBin oEq (aBin oMod (aCB bInt (aCons (aBin oIx (aVar 1) (aC (.int 1))) aNil)) (aC (.int 24))) (aC (.int 9))))) (aSet 3 (aC .non)) aNext) (tb_law_bfff741c_19 G))
def tb_law_bfff741c_15 (G : Gx) : AS := (aSeq (aIf (aTest (aBin oEq (aBin oMod (aCB bInt (aCons (aBin oIx (aVar 1) (aC (.int 1))) aNil)) (aC (.int 8))) (aC (.int 1)))) (aSet 2 (aC .non)) aNext) (tb_law_bfff741c_17 G))
def tb_law_bfff741c (G : Gx) : AS := (aSeq (aSet 1 (aCall (sp_law_digits_b31862c4 G) [] (aCons (aCall (sp_law_cell_4bc9b38b G) [] (aCons (aVar 0) (aCons (aC (.int 4)) aNil))) (aCons (aC (.int 4)) aNil)))) (aSeq (aSet 2 (aCall (sp_law_pair_638bb791 G) [] (aCons (aCall (sp_law_cell_4bc9b38b G) [] (aCons (aVar 0) (aCons (aC (.int 0)) aNil))) (aCons (aCall (sp_law_cell_4bc9b38b G) [] (aCons (aVar 0) (aCons (aC (.int 1)) aNil))) aNil)))) (aSeq (aSet 3 (aCall (sp_law_pair_638bb791 G) [] (aCons (aCall (sp_law_cell_4bc9b38b G) [] (aCons (aVar 0) (aCons (aC (.int 2)) aNil))) (aCons (aCall (sp_law_cell_4bc9b38b G) [] (aCons (aVar 0) (aCons (aC (.int 3)) aNil))) aNil)))) (aSeq (aSet 3 (aCall (sp_law_later_f3b91afa G) [] (aCons (aVar 2) (aCons (aVar 3) (aCons (aBin oIx (aVar 1) (aC (.int 0))) (aCons (aCall (sp_law_cell_4bc9b38b G) [] (aCons (aVar 0) (aCons (aC (.int 2)) aNil))) aNil)))))) (aSeq (aIf (aNot (aTru (aCall (sp_law_less_0394b9ff G) [] (aCons (aVar 2) (aCons (aVar 3) aNil))))) (aSeq (aIf (aOr (aNot (aTru (aCall (sp_law_refused_f6e51d19 G) [] (aCons (aVar 2) (aCons (aVar 3) aNil))))) (aNot (aTru (aCall (sp_law_refused_f6e51d19 G) [] (aCons (aVar 3) (aCons (aVar 3) aNil)))))) (aRet (aC (.bl false))) aNext) (aIf (aNot (aTru (aCall (sp_law_less_0394b9ff G) [] (aCons (aVar 3) (aCons (aVar 2) aNil))))) (aSeq (aSet 3 (aTup (aCons (aBin oDiv (aBin oIx (aVar 2) (aC (.int 0))) (aC (.int 2))) (aCons (aBin oIx (aVar 2) (aC (.int 1))) aNil)))) (aSet 2 (aTup (aCons (aBin oSub (aBin oDiv (aBin oIx (aVar 2) (aC (.int 0))) (aC (.int 2))) (aC (.int 1))) (aCons (aBin oIx (aVar 2) (aC (.int 1))) aNil))))) (aSeq (aSet 4 (aLst (aCons (aVar 3) (aCons (aVar 2) aNil)))) (aSeq (aSet 2 (aBin oIx (aVar 4) (aC (.int 0)))) (aSet 3 (aBin oIx (aVar 4) (aC (.int 1)))))))) (aIf (aNot (aTru (aCall (sp_law_refused_f6e51d19 G) [] (aCons (aVar 3) (aCons (aVar 2) aNil))))) (aRet (aC (.bl false))) aNext)) (tb_law_bfff741c_15 G))))))
theorem bdNeg2 (b : Bd) : bdV (bdNeg b) = (bdV b).map fun x => -x := bdNeg_V b
theorem rd_law_bfff741c (G : Gx) : Reads 11 (sp_law_bfff741c G) (tb_law_bfff741c G) := by
  intro ds L P R h
  unfold sp_law_bfff741c spLawT at h
  split at h
  · rename_i xs
    obtain ⟨⟨ns, _, rfl⟩, h⟩ := h
    have dgs : ∀ k : Nat, k < 4 → atI ((digF (cellF ns 4) 4).map DV.int) (k : Int) = some (.int (dg (cellF ns 4) 4 k)) := fun k hk => at_nat (by rw [List.getElem?_map, dg_at hk]; rfl)
    have last : ∀ (b1 b2 : Bd) (v4 v7 v8 : Option DV) (a : Int) (b : Nat), bdIn b1 → bdIn b2 → (∀ x y, bdV b1 = some x → bdV b2 = some y → x < y) → Simp (bdV b1) (bdV b2) a b → -10 ^ 12 ≤ a → a ≤ 10 ^ 12 → tb_law_bfff741c_29 G ⟨fun _ L => P .non L, P, fun _ _ => False, fun _ _ => False, fun c _ L => R c L⟩ [some (.wl (ns.map DV.int)), some (.lst ((digF (cellF ns 4) 4).map DV.int)), some (bdD b1), some (bdD b2), v4, some (.lst [bdN G b1, bdN G b2]), some (dy G a b), v7, v8, none, none] L := fun b1 b2 v4 v7 v8 a b i1 i2 lt s a1 a2 => by
      refine ⟨b2, rfl, bdNeg b2, rfl, bdNeg_in i2, b1, rfl, bdNeg b1, rfl, bdNeg_in i1, bdNeg b2, bdNeg b1, rfl, rfl, bdNeg_in i2, bdNeg_in i1, fun _ c d s2 c1 c2 => ?_, fun ⟨x, y, e1, e2, le⟩ => ?_⟩
      · have s3 := s.neg
        rw [← bdNeg_V, ← bdNeg_V] at s3
        obtain ⟨rfl, rfl⟩ := s2.uniq s3
        refine ⟨b2, rfl, b1, rfl, bdNeg b2, bdNeg b1, ⟨rfl, rfl, Int.natCast_nonneg _⟩, rfl, rfl, bdNeg_in i2, bdNeg_in i1, by rw [Int.toNat_natCast]; exact s2, ⟨c1, c2⟩, nft, fun _ => ⟨_, rfl, _, rfl, b1, b2, rfl, rfl, i1, i2, ⟨fun _ c d s4 _ _ => ?_, fun ⟨x, y, e1, e2, le⟩ => ?_⟩⟩⟩
        · obtain ⟨rfl, rfl⟩ := s4.uniq s
          refine ⟨_, rfl, b1, rfl, rfl, i1, nft, fun _ => ⟨_, rfl, b2, rfl, rfl, i2, nft, fun _ => ⟨rfl, ⟨rfl, rfl, rfl, rfl⟩, fun _ => ⟨rfl, rfl, rfl, rfl, rfl, rfl, fun _ => ⟨rfl, rfl, rfl, rfl, rfl, rfl, ?_⟩, fun z => absurd rfl (ef z)⟩, fun z => absurd ⟨rfl, rfl⟩ (df z)⟩⟩⟩
          show P (.bl (false ^^ decide ((d : Int) = d))) L
          simpa using h
        · have := lt x y e1 e2
          omega
      · exfalso
        rw [bdNeg_V] at e1 e2
        cases f1 : bdV b2 with
        | none => rw [f1] at e1; cases e1
        | some u =>
          cases f2 : bdV b1 with
          | none => rw [f2] at e2; cases e2
          | some w =>
            rw [f1] at e1; rw [f2] at e2
            cases e1; cases e2
            have := lt w u f2 f1
            have le : -w ≤ -u := le
            omega
    have mid : ∀ (b1 b2 : Bd) (v4 : Option DV), bdIn b1 → bdIn b2 → (∀ x y, bdV b1 = some x → bdV b2 = some y → x < y) → tb_law_bfff741c_19 G ⟨fun _ L => P .non L, P, fun _ _ => False, fun _ _ => False, fun c _ L => R c L⟩ [some (.wl (ns.map DV.int)), some (.lst ((digF (cellF ns 4) 4).map DV.int)), some (bdD b1), some (bdD b2), v4, none, none, none, none, none, none] L := fun b1 b2 v4 i1 i2 lt => by
      refine ⟨b1, rfl, i1, b2, rfl, i2, .inr ⟨_, rfl, _, rfl, b1, b2, rfl, rfl, i1, i2, fun _ a b s a1 a2 => ?_, fun ⟨x, y, e1, e2, le⟩ => ?_⟩⟩
      · refine ⟨b1, b2, ⟨rfl, rfl, Int.natCast_nonneg _⟩, rfl, rfl, i1, i2, by rw [Int.toNat_natCast]; exact s, ⟨a1, a2⟩, nft, fun _ => ⟨⟨by decide, by decide⟩, fun i ρ L' => ∃ v7 v8 : Option DV, ρ = [some (.wl (ns.map DV.int)), some (.lst ((digF (cellF ns 4) 4).map DV.int)), some (bdD b1), some (bdD b2), v4, some (.lst [bdN G b1, bdN G b2]), some (dy G a b), v7, v8, none, none] ∧ L' = L, ⟨none, none, rfl, rfl⟩, fun _ _ _ _ => trivial, ?_, ?_⟩⟩
        · rintro i d ρ L' hd ⟨v7, v8, rfl, rfl⟩
          obtain ⟨hi, rfl⟩ := rangeD_get hd
          have hi6 : i < 6 := hi
          refine ⟨mulL (by decide), by show 0 ≤ 5 + 2 * ((0 : Int) + (i : Nat)); omega, by show 5 + 2 * ((0 : Int) + (i : Nat)) < 1000; omega, ns, rfl, mulL (by decide), by show 0 ≤ 6 + 2 * ((0 : Int) + (i : Nat)); omega, by show 6 + 2 * ((0 : Int) + (i : Nat)) < 1000; omega, ns, rfl, fun z iz => ?_⟩
          have old : ∀ w : Int × Nat, bdIn (some w) → sp_law_older_8e2363a4 G [dy G a b, bdD (some w), bdD b1, bdD b2] L' (fun d L2 => truD d L2 fun b' => ((!b') = true → P (.bl false) L2) ∧ ((!b') = false → ∃ v7 v8 : Option DV, ([some (.wl (ns.map DV.int)), some (.lst ((digF (cellF ns 4) 4).map DV.int)), some (bdD b1), some (bdD b2), v4, some (.lst [bdN G b1, bdN G b2]), some (dy G a b), some (.int (0 + (i : Nat))), some (bdD (some w)), none, none] : Sl) = [some (.wl (ns.map DV.int)), some (.lst ((digF (cellF ns 4) 4).map DV.int)), some (bdD b1), some (bdD b2), v4, some (.lst [bdN G b1, bdN G b2]), some (dy G a b), v7, v8, none, none] ∧ L2 = L')) (fun c L => R c L) := fun w iw =>
            ⟨w, b1, b2, ⟨rfl, rfl, Int.natCast_nonneg _⟩, rfl, rfl, rfl, iw, i1, i2, by rw [Int.toNat_natCast]; exact s, nft, fun _ => ⟨_, _, rfl, rfl⟩⟩
          refine ⟨fun z3 => ?_, fun z3 => ⟨nft, fun _ => old z iz⟩⟩
          cases b1 with
          | none => exact ⟨nft, fun _ => old z iz⟩
          | some x => exact ⟨fun _ => ⟨mulL (by decide), x, z, rfl, rfl, i1, iz, by show 0 ≤ 1 + 3 * ((0 : Int) + (i : Nat)); omega, fun z4 iz4 => old z4 iz4⟩, ntf⟩
        · rintro ρ L' ⟨v7, v8, rfl, rfl⟩
          exact last b1 b2 v4 v7 v8 a b i1 i2 lt s a1 a2
      · have := lt x y e1 e2
        omega
    have fif : ∀ (x y : Int × Nat) (v4 : Option DV), bdIn (some x) → bdIn (some y) → V40 x.1 x.2 < V40 y.1 y.2 → tb_law_bfff741c_15 G ⟨fun _ L => P .non L, P, fun _ _ => False, fun _ _ => False, fun c _ L => R c L⟩ [some (.wl (ns.map DV.int)), some (.lst ((digF (cellF ns 4) 4).map DV.int)), some (bdD (some x)), some (bdD (some y)), v4, none, none, none, none, none, none] L := fun x y v4 i1 i2 lt => by
      have sev : ∀ b1 : Bd, bdIn b1 → (b1 = none ∨ b1 = some x) → tb_law_bfff741c_17 G ⟨fun _ L => P .non L, P, fun _ _ => False, fun _ _ => False, fun c _ L => R c L⟩ [some (.wl (ns.map DV.int)), some (.lst ((digF (cellF ns 4) 4).map DV.int)), some (bdD b1), some (bdD (some y)), v4, none, none, none, none, none, none] L := fun b1 j e => by
        have n2 := mid b1 none v4 j (fun _ _ e => by cases e) (fun _ _ _ e => by cases e)
        have s2 := mid b1 (some y) v4 j i2 (fun u w e1 e2 => by
          rcases e with rfl | rfl
          · cases e1
          · cases e1; cases e2; exact lt)
        exact ⟨_, dgs 1 (by decide), (by decide : (0 : Int) < 8), fun _ => ⟨fun _ => n2, ntf⟩, fun _ => ⟨_, dgs 1 (by decide), (by decide : (0 : Int) < 24), fun _ => n2, fun _ => s2⟩⟩
      exact ⟨_, dgs 1 (by decide), (by decide : (0 : Int) < 8), fun _ => sev none (fun _ _ e => by cases e) (.inl rfl), fun _ => sev (some x) i1 (.inr rfl)⟩
    refine ⟨by decide, by decide, ns, rfl, by decide, by decide, .inr ⟨by decide, by decide, ns, rfl, by decide, by decide, ns, rfl, fun x ix => ⟨by decide, by decide, ns, rfl, by decide, by decide, ns, rfl, fun y0 iy0 => ⟨_, dgs 0 (by decide), by decide, by decide, ns, rfl, x, y0, rfl, rfl, ix, iy0, (dg_lt _ _ _).1, fun y iy => ?_⟩⟩⟩⟩
    refine ⟨some x, some y, rfl, rfl, bd_small ix, bd_small iy, fun z => ?_, fun z => ?_⟩
    · have z : (!decide (V40 x.1 x.2 < V40 y.1 y.2)) = true := z
      have z : ¬ V40 x.1 x.2 < V40 y.1 y.2 := by simpa using z
      refine ⟨x, y, rfl, rfl, ix, iy, by omega, nft, fun _ => ⟨y, y, rfl, rfl, iy, iy, Int.le_refl _, nft, fun _ => ⟨some y, some x, rfl, rfl, bd_small iy, bd_small ix, fun z2 => ?_, fun z2 => ?_⟩⟩⟩
      · obtain ⟨h1, h2, h3⟩ := ix x.1 x.2 rfl
        refine ⟨_, rfl, cdiv_small (by decide) (by decide), _, rfl, _, rfl, cdiv_small (by decide) (by decide), _, rfl, ?_⟩
        exact fif (x.1 / 2 - 1, x.2) (x.1 / 2, x.2) none (fun t p e => by cases e; omega) (fun t p e => by cases e; omega) (V_lt.mpr (by show x.1 / 2 - 1 < x.1 / 2; omega))
      · have z2 : (!decide (V40 y.1 y.2 < V40 x.1 x.2)) = false := z2
        have z2 : V40 y.1 y.2 < V40 x.1 x.2 := by simpa using z2
        exact .inr ⟨_, rfl, _, rfl, fif y x _ iy ix z2⟩
    · have z : (!decide (V40 x.1 x.2 < V40 y.1 y.2)) = false := z
      have z : V40 x.1 x.2 < V40 y.1 y.2 := by simpa using z
      exact ⟨y, x, rfl, rfl, iy, ix, by omega, nft, fun _ => fif x y none ix iy z⟩
  · exact h.elim
abbrev lawPr : Program := PySem.Challenge.pw_sumsplay_k07_whole_simplest_between
def topS (i : Nat) : Stmt := lawPr.main.body.getD i (.Pass ⟨0, 0, 0, 0⟩)
abbrev s_law_digits_b31862c4 : Stmt := (topS 18)
theorem sc_law_digits_b31862c4 : FnScope ["_law_cell_here", "_law_count", "_law_row", "_law_k", "_law_seed"] ["_law_cell_here", "_law_count"] (defScope s_law_digits_b31862c4) := ⟨rfl, rfl, rfl, by decide +kernel, rfl, by decide +kernel, by decide +kernel⟩
abbrev s_law_cell_4bc9b38b : Stmt := (topS 17)
theorem sc_law_cell_4bc9b38b : FnScope ["_law_script", "_law_k", "_law_mixed", "_law_cell_here"] ["_law_script", "_law_k"] (defScope s_law_cell_4bc9b38b) := ⟨rfl, rfl, rfl, by decide +kernel, rfl, by decide +kernel, by decide +kernel⟩
abbrev s_law_pair_638bb791 : Stmt := (topS 21)
theorem sc_law_pair_638bb791 : FnScope ["_law_cell_here", "_law_shape", "_law_digits_here", "_law_power", "_law_most", "_law_top"] ["_law_cell_here", "_law_shape"] (defScope s_law_pair_638bb791) := ⟨rfl, rfl, rfl, by decide +kernel, rfl, by decide +kernel, by decide +kernel⟩
abbrev s_law_later_f3b91afa : Stmt := (topS 22)
theorem sc_law_later_f3b91afa : FnScope ["_law_pair_here", "_law_other", "_law_k", "_law_step", "_law_top", "_law_power", "_law_at"] ["_law_pair_here", "_law_other", "_law_k", "_law_step"] (defScope s_law_later_f3b91afa) := ⟨rfl, rfl, rfl, by decide +kernel, rfl, by decide +kernel, by decide +kernel⟩
abbrev s_law_less_0394b9ff : Stmt := (topS 23)
theorem sc_law_less_0394b9ff : FnScope ["_law_first", "_law_second"] ["_law_first", "_law_second"] (defScope s_law_less_0394b9ff) := ⟨rfl, rfl, rfl, by decide +kernel, rfl, by decide +kernel, by decide +kernel⟩
abbrev s_Dyadic_power : Stmt := (inClass (topS 12) 2)
theorem sc_Dyadic_power : FnScope ["self"] ["self"] (defScope s_Dyadic_power) := ⟨rfl, rfl, rfl, by decide +kernel, rfl, by decide +kernel, by decide +kernel⟩
abbrev s_Dyadic_top : Stmt := (inClass (topS 12) 1)
theorem sc_Dyadic_top : FnScope ["self"] ["self"] (defScope s_Dyadic_top) := ⟨rfl, rfl, rfl, by decide +kernel, rfl, by decide +kernel, by decide +kernel⟩
abbrev s_Dyadic_less : Stmt := (inClass (topS 12) 6)
theorem sc_Dyadic_less : FnScope ["self", "other"] ["self", "other"] (defScope s_Dyadic_less) := ⟨rfl, rfl, rfl, by decide +kernel, rfl, by decide +kernel, by decide +kernel⟩
abbrev s_is_integer : Stmt := (topS 10)
theorem sc_is_integer : FnScope ["thing"] ["thing"] (defScope s_is_integer) := ⟨rfl, rfl, rfl, by decide +kernel, rfl, by decide +kernel, by decide +kernel⟩
abbrev s_reduced : Stmt := (topS 11)
theorem sc_reduced : FnScope ["top", "power"] ["top", "power"] (defScope s_reduced) := ⟨rfl, rfl, rfl, by decide +kernel, rfl, by decide +kernel, by decide +kernel⟩
abbrev s_Dyadic_init : Stmt := (inClass (topS 12) 0)
theorem sc_Dyadic_init : FnScope ["self", "top", "power", "plain"] ["self", "top", "power"] (defScope s_Dyadic_init) := ⟨rfl, rfl, rfl, by decide +kernel, rfl, by decide +kernel, by decide +kernel⟩
abbrev s_Dyadic_neg : Stmt := (inClass (topS 12) 4)
theorem sc_Dyadic_neg : FnScope ["self"] ["self"] (defScope s_Dyadic_neg) := ⟨rfl, rfl, rfl, by decide +kernel, rfl, by decide +kernel, by decide +kernel⟩
abbrev s_above : Stmt := (topS 15)
theorem sc_above : FnScope ["low", "high", "power", "found"] ["low", "high"] (defScope s_above) := ⟨rfl, rfl, rfl, by decide +kernel, rfl, by decide +kernel, by decide +kernel⟩
abbrev s_negated : Stmt := (topS 14)
theorem sc_negated : FnScope ["number"] ["number"] (defScope s_negated) := ⟨rfl, rfl, rfl, by decide +kernel, rfl, by decide +kernel, by decide +kernel⟩
abbrev s_simplest_between : Stmt := (topS 13)
theorem sc_simplest_between : FnScope ["low", "high", "zero"] ["low", "high"] (defScope s_simplest_between) := ⟨rfl, rfl, rfl, by decide +kernel, rfl, by decide +kernel, by decide +kernel⟩
abbrev s_law_refused_f6e51d19 : Stmt := (topS 27)
theorem sc_law_refused_f6e51d19 : FnScope ["_law_low", "_law_high", "e"] ["_law_low", "_law_high"] (defScope s_law_refused_f6e51d19) := ⟨rfl, rfl, rfl, by decide +kernel, rfl, by decide +kernel, by decide +kernel⟩
abbrev s_law_bound_6b1178b8 : Stmt := (topS 24)
theorem sc_law_bound_6b1178b8 : FnScope ["_law_pair_here"] ["_law_pair_here"] (defScope s_law_bound_6b1178b8) := ⟨rfl, rfl, rfl, by decide +kernel, rfl, by decide +kernel, by decide +kernel⟩
abbrev s_law_is_integer_fcf59962 : Stmt := (topS 19)
theorem sc_law_is_integer_fcf59962 : FnScope ["_law_thing"] ["_law_thing"] (defScope s_law_is_integer_fcf59962) := ⟨rfl, rfl, rfl, by decide +kernel, rfl, by decide +kernel, by decide +kernel⟩
abbrev s_law_plain_d4e9bf06 : Stmt := (topS 20)
theorem sc_law_plain_d4e9bf06 : FnScope ["_law_top", "_law_power", "_law_k"] ["_law_top", "_law_power"] (defScope s_law_plain_d4e9bf06) := ⟨rfl, rfl, rfl, by decide +kernel, rfl, by decide +kernel, by decide +kernel⟩
abbrev s_law_simplest_728054c6 : Stmt := (topS 26)
theorem sc_law_simplest_728054c6 : FnScope ["_law_found", "_law_low", "_law_high", "_law_pair_here", "_law_below", "_law_above", "_law_below_out", "_law_above_out"] ["_law_found", "_law_low", "_law_high"] (defScope s_law_simplest_728054c6) := ⟨rfl, rfl, rfl, by decide +kernel, rfl, by decide +kernel, by decide +kernel⟩
abbrev s_Dyadic_same : Stmt := (inClass (topS 12) 7)
theorem sc_Dyadic_same : FnScope ["self", "other"] ["self", "other"] (defScope s_Dyadic_same) := ⟨rfl, rfl, rfl, by decide +kernel, rfl, by decide +kernel, by decide +kernel⟩
abbrev s_Dyadic_age : Stmt := (inClass (topS 12) 10)
theorem sc_Dyadic_age : FnScope ["self", "whole"] ["self"] (defScope s_Dyadic_age) := ⟨rfl, rfl, rfl, by decide +kernel, rfl, by decide +kernel, by decide +kernel⟩
abbrev s_law_older_8e2363a4 : Stmt := (topS 28)
theorem sc_law_older_8e2363a4 : FnScope ["_law_found", "_law_third", "_law_low", "_law_high", "_law_number"] ["_law_found", "_law_third", "_law_low", "_law_high"] (defScope s_law_older_8e2363a4) := ⟨rfl, rfl, rfl, by decide +kernel, rfl, by decide +kernel, by decide +kernel⟩
abbrev s_law_turned_796bf394 : Stmt := (topS 25)
theorem sc_law_turned_796bf394 : FnScope ["_law_pair_here"] ["_law_pair_here"] (defScope s_law_turned_796bf394) := ⟨rfl, rfl, rfl, by decide +kernel, rfl, by decide +kernel, by decide +kernel⟩
abbrev s_law_kept_51dc22b8 : Stmt := (topS 29)
theorem sc_law_kept_51dc22b8 : FnScope ["_law_bound_here", "_law_pair_here"] ["_law_bound_here", "_law_pair_here"] (defScope s_law_kept_51dc22b8) := ⟨rfl, rfl, rfl, by decide +kernel, rfl, by decide +kernel, by decide +kernel⟩
abbrev s_law_bfff741c : Stmt := (topS 30)
theorem sc_law_bfff741c : FnScope ["_law_script", "_law_digits_here", "_law_low", "_law_high", "_law_both", "_law_bounds", "_law_found", "_law_k", "_law_third", "_law_other", "_law_again"] ["_law_script"] (defScope s_law_bfff741c) := ⟨rfl, rfl, rfl, by decide +kernel, rfl, by decide +kernel, by decide +kernel⟩
structure Ad where
  f_law_digits_b31862c4 : Addr
  fd_law_digits_b31862c4 : FuncData
  f_law_cell_4bc9b38b : Addr
  fd_law_cell_4bc9b38b : FuncData
  f_law_pair_638bb791 : Addr
  fd_law_pair_638bb791 : FuncData
  f_law_later_f3b91afa : Addr
  fd_law_later_f3b91afa : FuncData
  f_law_less_0394b9ff : Addr
  fd_law_less_0394b9ff : FuncData
  f_Dyadic_power : Addr
  fd_Dyadic_power : FuncData
  p_Dyadic_power : Addr
  f_Dyadic_top : Addr
  fd_Dyadic_top : FuncData
  p_Dyadic_top : Addr
  f_Dyadic_less : Addr
  fd_Dyadic_less : FuncData
  f_is_integer : Addr
  fd_is_integer : FuncData
  f_reduced : Addr
  fd_reduced : FuncData
  f_Dyadic_init : Addr
  fd_Dyadic_init : FuncData
  f_Dyadic_neg : Addr
  fd_Dyadic_neg : FuncData
  f_above : Addr
  fd_above : FuncData
  f_negated : Addr
  fd_negated : FuncData
  f_simplest_between : Addr
  fd_simplest_between : FuncData
  f_law_refused_f6e51d19 : Addr
  fd_law_refused_f6e51d19 : FuncData
  f_law_bound_6b1178b8 : Addr
  fd_law_bound_6b1178b8 : FuncData
  f_law_is_integer_fcf59962 : Addr
  fd_law_is_integer_fcf59962 : FuncData
  f_law_plain_d4e9bf06 : Addr
  fd_law_plain_d4e9bf06 : FuncData
  f_law_simplest_728054c6 : Addr
  fd_law_simplest_728054c6 : FuncData
  f_Dyadic_same : Addr
  fd_Dyadic_same : FuncData
  f_Dyadic_age : Addr
  fd_Dyadic_age : FuncData
  f_law_older_8e2363a4 : Addr
  fd_law_older_8e2363a4 : FuncData
  f_law_turned_796bf394 : Addr
  fd_law_turned_796bf394 : FuncData
  f_law_kept_51dc22b8 : Addr
  fd_law_kept_51dc22b8 : FuncData
  f_law_bfff741c : Addr
  fd_law_bfff741c : FuncData
structure Txt (G : Gx) (mg : Str → Option Value) (A : Ad) : Prop where
  g_Dyadic : mg "Dyadic" = some (.ref G.Dyadic)
  cl_Dyadic : Cls G.k.K G.Dyadic
  fo_Dyadic : FOk G.k.K G.Dyadic []
  no_Dyadic__top : NoAttr G.k.K G.Dyadic "_top"
  no_Dyadic__power : NoAttr G.k.K G.Dyadic "_power"
  mk_Dyadic : Mk G.k.K G.Dyadic A.f_Dyadic_init
  g_BadText : mg "BadText" = some (.ref G.BadText)
  g_BadValue : mg "BadValue" = some (.ref G.BadValue)
  x_BadValue : PySem.W.excIn G.k.K G.BadValue [.type "ValueError", .type "Exception", .type "BaseException", .type "object"] "ValueError.__new__" = true
  k_BadValue : PySem.W.keepIn G.k.K (.ref G.BadValue) = true
  eb_BadValue : PySem.W.subIn G.k.K (.ref G.BadValue) (.type "BaseException") = some true
  et_BadValue : PySem.W.typeIn G.k.K (.ref G.BadValue) = some (.type "type")
  g_NoMove : mg "NoMove" = some (.ref G.NoMove)
  g_PlayError : mg "PlayError" = some (.ref G.PlayError)
  g_Unknown : mg "Unknown" = some (.ref G.Unknown)
  er_BadValue : ErrK G G.BadValue G.BadText G.Unknown G.NoMove
  g_POWER_MOST : ∃ tk_POWER_MOST : Tok, mg "POWER_MOST" = some (.int 40 tk_POWER_MOST)
  g_TOP_MOST : ∃ tk_TOP_MOST : Tok, mg "TOP_MOST" = some (.int 1000000000000 tk_TOP_MOST)
  n_ValueError : mg "ValueError" = none
  n_abs : mg "abs" = none
  n_bool : mg "bool" = none
  n_int : mg "int" = none
  n_isinstance : mg "isinstance" = none
  n_len : mg "len" = none
  n_max : mg "max" = none
  n_min : mg "min" = none
  n_range : mg "range" = none
  m_law_digits_b31862c4 : mg "_law_digits" = some (.ref A.f_law_digits_b31862c4)
  F_law_digits_b31862c4 : Fun G.k.K "_law_digits" "_law_digits" s_law_digits_b31862c4 A.f_law_digits_b31862c4 A.fd_law_digits_b31862c4
  b_law_digits_b31862c4 : Binds G.k.K A.fd_law_digits_b31862c4 ["_law_cell_here", "_law_count"] []
  m_law_cell_4bc9b38b : mg "_law_cell" = some (.ref A.f_law_cell_4bc9b38b)
  F_law_cell_4bc9b38b : Fun G.k.K "_law_cell" "_law_cell" s_law_cell_4bc9b38b A.f_law_cell_4bc9b38b A.fd_law_cell_4bc9b38b
  b_law_cell_4bc9b38b : Binds G.k.K A.fd_law_cell_4bc9b38b ["_law_script", "_law_k"] []
  m_law_pair_638bb791 : mg "_law_pair" = some (.ref A.f_law_pair_638bb791)
  F_law_pair_638bb791 : Fun G.k.K "_law_pair" "_law_pair" s_law_pair_638bb791 A.f_law_pair_638bb791 A.fd_law_pair_638bb791
  b_law_pair_638bb791 : Binds G.k.K A.fd_law_pair_638bb791 ["_law_cell_here", "_law_shape"] []
  m_law_later_f3b91afa : mg "_law_later" = some (.ref A.f_law_later_f3b91afa)
  F_law_later_f3b91afa : Fun G.k.K "_law_later" "_law_later" s_law_later_f3b91afa A.f_law_later_f3b91afa A.fd_law_later_f3b91afa
  b_law_later_f3b91afa : Binds G.k.K A.fd_law_later_f3b91afa ["_law_pair_here", "_law_other", "_law_k", "_law_step"] []
  m_law_less_0394b9ff : mg "_law_less" = some (.ref A.f_law_less_0394b9ff)
  F_law_less_0394b9ff : Fun G.k.K "_law_less" "_law_less" s_law_less_0394b9ff A.f_law_less_0394b9ff A.fd_law_less_0394b9ff
  b_law_less_0394b9ff : Binds G.k.K A.fd_law_less_0394b9ff ["_law_first", "_law_second"] []
  P_Dyadic_power : PropOf G.k.K G.Dyadic "power" A.p_Dyadic_power A.f_Dyadic_power
  F_Dyadic_power : Fun G.k.K "power" "Dyadic.power" s_Dyadic_power A.f_Dyadic_power A.fd_Dyadic_power
  b_Dyadic_power : Binds G.k.K A.fd_Dyadic_power ["self"] []
  P_Dyadic_top : PropOf G.k.K G.Dyadic "top" A.p_Dyadic_top A.f_Dyadic_top
  F_Dyadic_top : Fun G.k.K "top" "Dyadic.top" s_Dyadic_top A.f_Dyadic_top A.fd_Dyadic_top
  b_Dyadic_top : Binds G.k.K A.fd_Dyadic_top ["self"] []
  Mt_Dyadic_less : Meth G.k.K G.Dyadic "less" A.f_Dyadic_less
  F_Dyadic_less : Fun G.k.K "less" "Dyadic.less" s_Dyadic_less A.f_Dyadic_less A.fd_Dyadic_less
  b_Dyadic_less : Binds G.k.K A.fd_Dyadic_less ["self", "other"] []
  m_is_integer : mg "is_integer" = some (.ref A.f_is_integer)
  F_is_integer : Fun G.k.K "is_integer" "is_integer" s_is_integer A.f_is_integer A.fd_is_integer
  b_is_integer : Binds G.k.K A.fd_is_integer ["thing"] []
  m_reduced : mg "reduced" = some (.ref A.f_reduced)
  F_reduced : Fun G.k.K "reduced" "reduced" s_reduced A.f_reduced A.fd_reduced
  b_reduced : Binds G.k.K A.fd_reduced ["top", "power"] []
  F_Dyadic_init : FunD G.k.K "__init__" "Dyadic.__init__" (defArgs s_Dyadic_init) (defBody s_Dyadic_init) (defScope s_Dyadic_init) [V.int 0] [] A.f_Dyadic_init A.fd_Dyadic_init
  b1_Dyadic_init : ∃ ds, Vals ([V.int 0].drop 0) ds ∧ Binds G.k.K A.fd_Dyadic_init ["self", "top", "power"] ds
  b2_Dyadic_init : ∃ ds, Vals ([V.int 0].drop 1) ds ∧ Binds G.k.K A.fd_Dyadic_init ["self", "top", "power"] ds
  Mt_Dyadic_neg : Meth G.k.K G.Dyadic "__neg__" A.f_Dyadic_neg
  F_Dyadic_neg : Fun G.k.K "__neg__" "Dyadic.__neg__" s_Dyadic_neg A.f_Dyadic_neg A.fd_Dyadic_neg
  b_Dyadic_neg : Binds G.k.K A.fd_Dyadic_neg ["self"] []
  m_above : mg "above" = some (.ref A.f_above)
  F_above : Fun G.k.K "above" "above" s_above A.f_above A.fd_above
  b_above : Binds G.k.K A.fd_above ["low", "high"] []
  m_negated : mg "negated" = some (.ref A.f_negated)
  F_negated : Fun G.k.K "negated" "negated" s_negated A.f_negated A.fd_negated
  b_negated : Binds G.k.K A.fd_negated ["number"] []
  m_simplest_between : mg "simplest_between" = some (.ref A.f_simplest_between)
  F_simplest_between : Fun G.k.K "simplest_between" "simplest_between" s_simplest_between A.f_simplest_between A.fd_simplest_between
  b_simplest_between : Binds G.k.K A.fd_simplest_between ["low", "high"] []
  m_law_refused_f6e51d19 : mg "_law_refused" = some (.ref A.f_law_refused_f6e51d19)
  F_law_refused_f6e51d19 : Fun G.k.K "_law_refused" "_law_refused" s_law_refused_f6e51d19 A.f_law_refused_f6e51d19 A.fd_law_refused_f6e51d19
  b_law_refused_f6e51d19 : Binds G.k.K A.fd_law_refused_f6e51d19 ["_law_low", "_law_high"] []
  m_law_bound_6b1178b8 : mg "_law_bound" = some (.ref A.f_law_bound_6b1178b8)
  F_law_bound_6b1178b8 : Fun G.k.K "_law_bound" "_law_bound" s_law_bound_6b1178b8 A.f_law_bound_6b1178b8 A.fd_law_bound_6b1178b8
  b_law_bound_6b1178b8 : Binds G.k.K A.fd_law_bound_6b1178b8 ["_law_pair_here"] []
  m_law_is_integer_fcf59962 : mg "_law_is_integer" = some (.ref A.f_law_is_integer_fcf59962)
  F_law_is_integer_fcf59962 : Fun G.k.K "_law_is_integer" "_law_is_integer" s_law_is_integer_fcf59962 A.f_law_is_integer_fcf59962 A.fd_law_is_integer_fcf59962
  b_law_is_integer_fcf59962 : Binds G.k.K A.fd_law_is_integer_fcf59962 ["_law_thing"] []
  m_law_plain_d4e9bf06 : mg "_law_plain" = some (.ref A.f_law_plain_d4e9bf06)
  F_law_plain_d4e9bf06 : Fun G.k.K "_law_plain" "_law_plain" s_law_plain_d4e9bf06 A.f_law_plain_d4e9bf06 A.fd_law_plain_d4e9bf06
  b_law_plain_d4e9bf06 : Binds G.k.K A.fd_law_plain_d4e9bf06 ["_law_top", "_law_power"] []
  m_law_simplest_728054c6 : mg "_law_simplest" = some (.ref A.f_law_simplest_728054c6)
  F_law_simplest_728054c6 : Fun G.k.K "_law_simplest" "_law_simplest" s_law_simplest_728054c6 A.f_law_simplest_728054c6 A.fd_law_simplest_728054c6
  b_law_simplest_728054c6 : Binds G.k.K A.fd_law_simplest_728054c6 ["_law_found", "_law_low", "_law_high"] []
  Mt_Dyadic_same : Meth G.k.K G.Dyadic "same" A.f_Dyadic_same
  F_Dyadic_same : Fun G.k.K "same" "Dyadic.same" s_Dyadic_same A.f_Dyadic_same A.fd_Dyadic_same
  b_Dyadic_same : Binds G.k.K A.fd_Dyadic_same ["self", "other"] []
  Mt_Dyadic_age : Meth G.k.K G.Dyadic "age" A.f_Dyadic_age
  F_Dyadic_age : Fun G.k.K "age" "Dyadic.age" s_Dyadic_age A.f_Dyadic_age A.fd_Dyadic_age
  b_Dyadic_age : Binds G.k.K A.fd_Dyadic_age ["self"] []
  m_law_older_8e2363a4 : mg "_law_older" = some (.ref A.f_law_older_8e2363a4)
  F_law_older_8e2363a4 : Fun G.k.K "_law_older" "_law_older" s_law_older_8e2363a4 A.f_law_older_8e2363a4 A.fd_law_older_8e2363a4
  b_law_older_8e2363a4 : Binds G.k.K A.fd_law_older_8e2363a4 ["_law_found", "_law_third", "_law_low", "_law_high"] []
  m_law_turned_796bf394 : mg "_law_turned" = some (.ref A.f_law_turned_796bf394)
  F_law_turned_796bf394 : Fun G.k.K "_law_turned" "_law_turned" s_law_turned_796bf394 A.f_law_turned_796bf394 A.fd_law_turned_796bf394
  b_law_turned_796bf394 : Binds G.k.K A.fd_law_turned_796bf394 ["_law_pair_here"] []
  m_law_kept_51dc22b8 : mg "_law_kept" = some (.ref A.f_law_kept_51dc22b8)
  F_law_kept_51dc22b8 : Fun G.k.K "_law_kept" "_law_kept" s_law_kept_51dc22b8 A.f_law_kept_51dc22b8 A.fd_law_kept_51dc22b8
  b_law_kept_51dc22b8 : Binds G.k.K A.fd_law_kept_51dc22b8 ["_law_bound_here", "_law_pair_here"] []
  m_law_bfff741c : mg "law" = some (.ref A.f_law_bfff741c)
  F_law_bfff741c : Fun G.k.K "law" "law" s_law_bfff741c A.f_law_bfff741c A.fd_law_bfff741c
  b_law_bfff741c : Binds G.k.K A.fd_law_bfff741c ["_law_script"] []
theorem ok_law_digits_b31862c4 {G : Gx} {mg : Str → Option Value} {A : Ad} {base : Heap} (T : Txt G mg A) : FnOk G.k.P G.k.w G.k.K mg base (L2.CX G.k.P G.k.w) 1 A.f_law_digits_b31862c4 A.fd_law_digits_b31862c4 ["_law_cell_here", "_law_count"] (liftSp G.k (sp_law_digits_b31862c4 G)) :=
  fun_ok (k := 0) (tb := tb_law_digits_b31862c4 G) T.F_law_digits_b31862c4 sc_law_digits_b31862c4 (by intro ds L Q R h; unfold sp_law_digits_b31862c4 at h; split at h <;> first | rfl | exact h.elim) (fun cdv A_ outer s H E hr => by
    have sc := sc_law_digits_b31862c4
    exact (b_cons (s_set (i := 2) sc.nd (a_lst g_nil)) (b_cons (s_if (t_ge (av 0) (a_pow a_int a_int)) (b_cons (s_for (passes_of rfl) rfl (i_rng1 rfl T.n_range (g_cons (av 1) g_nil)) (g_name 3 sc.nd) (gok_name 3) (b_cons (s_expr (a_append (av 2) (g_cons (a_mod (a_intc rfl T.n_int (g_cons (av 0) g_nil)) a_int) g_nil))) (b_one (s_set (i := 0) sc.nd (a_div (av 0) a_int))))) (b_one (s_ret (a_frz (av 2))))) b_nil) (b_cons (s_set (i := 4) sc.nd (a_mod (a_intc rfl T.n_int (g_cons (a_add (a_mul (av 0) a_int) a_int) g_nil)) a_int)) (b_cons (s_for (passes_of rfl) rfl (i_rng1 rfl T.n_range (g_cons (av 1) g_nil)) (g_name 3 sc.nd) (gok_name 3) (b_cons (s_set (i := 4) sc.nd (a_mod (a_intc rfl T.n_int (g_cons (a_add (a_add (a_mul (av 4) a_int) (a_mul a_int (av 3))) a_int) g_nil)) a_int)) (b_one (s_expr (a_append (av 2) (g_cons (a_mod (a_intc rfl T.n_int (g_cons (a_div (av 4) a_int) g_nil)) a_int) g_nil)))))) (b_one (s_ret (a_frz (av 2))))))))) (rd_law_digits_b31862c4 G)
theorem ok_law_cell_4bc9b38b {G : Gx} {mg : Str → Option Value} {A : Ad} {base : Heap} (T : Txt G mg A) : FnOk G.k.P G.k.w G.k.K mg base (L2.CX G.k.P G.k.w) 1 A.f_law_cell_4bc9b38b A.fd_law_cell_4bc9b38b ["_law_script", "_law_k"] (liftSp G.k (sp_law_cell_4bc9b38b G)) :=
  fun_ok (k := 0) (tb := tb_law_cell_4bc9b38b G) T.F_law_cell_4bc9b38b sc_law_cell_4bc9b38b (by intro ds L Q R h; unfold sp_law_cell_4bc9b38b at h; split at h <;> first | rfl | exact h.elim) (fun cdv A_ outer s H E hr => by
    have sc := sc_law_cell_4bc9b38b
    exact (b_cons (s_if (t_lt (av 1) (a_len rfl T.n_len (g_cons (av 0) g_nil))) (b_one (s_ret (a_item (av 0) (av 1)))) b_nil) (b_cons (s_set (i := 2) sc.nd (a_add (a_mul a_int (av 1)) a_int)) (b_cons (s_for (passes_of rfl) rfl (i_seq (av 0)) (g_name 3 sc.nd) (gok_name 3) (b_one (s_set (i := 2) sc.nd (a_mod (a_intc rfl T.n_int (g_cons (a_add (a_mul (av 2) a_int) (av 3)) g_nil)) a_int)))) (b_one (s_ret (av 2))))))) (rd_law_cell_4bc9b38b G)
theorem ok_law_pair_638bb791 {G : Gx} {mg : Str → Option Value} {A : Ad} {base : Heap} (T : Txt G mg A) : FnOk G.k.P G.k.w G.k.K mg base (L2.CX G.k.P G.k.w) 2 A.f_law_pair_638bb791 A.fd_law_pair_638bb791 ["_law_cell_here", "_law_shape"] (liftSp G.k (sp_law_pair_638bb791 G)) :=
  fun_ok (k := 1) (tb := tb_law_pair_638bb791 G) T.F_law_pair_638bb791 sc_law_pair_638bb791 (by intro ds L Q R h; unfold sp_law_pair_638bb791 at h; split at h <;> first | rfl | exact h.elim) (fun cdv A_ outer s H E hr => by
    have sc := sc_law_pair_638bb791
    exact (b_cons (s_set (i := 2) sc.nd (a_call (ok_law_digits_b31862c4 T) (hr.mono (by decide)) rfl T.m_law_digits_b31862c4 T.F_law_digits_b31862c4.kp T.b_law_digits_b31862c4 .nil (fun _ => .nil) (takes_of rfl rfl rfl rfl) (args1 (g_cons (av 1) (g_cons a_int g_nil))))) (b_cons (s_set (i := 3) sc.nd (a_mod (a_intc rfl T.n_int (g_cons (a_item (av 2) a_int) g_nil)) a_int)) (b_cons (s_set (i := 4) sc.nd (a_min2 rfl rfl T.n_min (g_cons (a_pow a_int a_int) (g_cons (a_shl a_int (a_mod (a_intc rfl T.n_int (g_cons (a_item (av 2) a_int) g_nil)) a_int)) g_nil)))) (b_cons (s_set (i := 5) sc.nd (a_sub (a_mod (a_intc rfl T.n_int (g_cons (av 0) g_nil)) (a_add (a_mul a_int (av 4)) a_int)) (av 4))) (b_cons (s_if (t_eq hr.units (a_mod (a_intc rfl T.n_int (g_cons (a_item (av 2) a_int) g_nil)) a_int) a_int) (b_one (s_set (i := 5) sc.nd (a_sub (a_mod (a_intc rfl T.n_int (g_cons (a_item (av 2) a_int) g_nil)) a_int) a_int))) b_nil) (b_cons (s_if (t_eq hr.units (a_mod (a_intc rfl T.n_int (g_cons (a_item (av 2) a_int) g_nil)) a_int) a_int) (b_cons (s_set (i := 5) sc.nd (a_add (a_shl (a_sub (a_mod (a_intc rfl T.n_int (g_cons (a_item (av 2) a_int) g_nil)) a_int) a_int) (a_min2 rfl rfl T.n_min (g_cons (av 3) (g_cons a_int g_nil)))) (a_div (av 5) (a_shl a_int (a_mod (a_intc rfl T.n_int (g_cons (a_item (av 2) a_int) g_nil)) a_int))))) (b_one (s_set (i := 5) sc.nd (a_max2 rfl rfl T.n_max (g_cons (a_neg (a_pow a_int a_int)) (g_cons (a_min2 rfl rfl T.n_min (g_cons (a_pow a_int a_int) (g_cons (av 5) g_nil))) g_nil)))))) b_nil) (b_one (s_ret (a_tup (g_cons (av 5) (g_cons (av 3) g_nil)))))))))))) (rd_law_pair_638bb791 G)
theorem ok_law_later_f3b91afa {G : Gx} {mg : Str → Option Value} {A : Ad} {base : Heap} (T : Txt G mg A) : FnOk G.k.P G.k.w G.k.K mg base (L2.CX G.k.P G.k.w) 1 A.f_law_later_f3b91afa A.fd_law_later_f3b91afa ["_law_pair_here", "_law_other", "_law_k", "_law_step"] (liftSp G.k (sp_law_later_f3b91afa G)) :=
  fun_ok (k := 0) (tb := tb_law_later_f3b91afa G) T.F_law_later_f3b91afa sc_law_later_f3b91afa (by intro ds L Q R h; unfold sp_law_later_f3b91afa at h; split at h <;> first | rfl | exact h.elim) (fun cdv A_ outer s H E hr => by
    have sc := sc_law_later_f3b91afa
    exact (b_cons (s_if (t_eq hr.units (a_mod (a_intc rfl T.n_int (g_cons (av 2) g_nil)) a_int) a_int) (b_one (s_ret (av 1))) b_nil) (b_cons (s_set (i := 4) sc.nd (a_item (av 0) a_int)) (b_cons (s_set (i := 5) sc.nd (a_item (av 0) a_int)) (b_cons (s_for (passes_of rfl) rfl (i_rng1 rfl T.n_range (g_cons (a_mod (a_div (av 2) a_int) a_int) g_nil)) (g_name 6 sc.nd) (gok_name 6) (b_one (s_if (PW.pt (w_and (t_lt (av 5) a_int) (w_and1 (t_le (a_abs rfl T.n_abs (g_cons (av 4) g_nil)) (a_mul a_int (a_pow a_int a_int)))))) (b_cons (s_set (i := 4) sc.nd (a_mul a_int (av 4))) (b_one (s_set (i := 5) sc.nd (a_add (av 5) a_int)))) b_nil))) (b_cons (s_set (i := 4) sc.nd (a_add (a_add (av 4) a_int) (a_mul (a_mod (a_intc rfl T.n_int (g_cons (av 3) g_nil)) a_int) (a_mod (a_intc rfl T.n_int (g_cons (av 3) g_nil)) a_int)))) (b_one (s_ret (a_tup (g_cons (a_max2 rfl rfl T.n_max (g_cons (a_neg (a_pow a_int a_int)) (g_cons (a_min2 rfl rfl T.n_min (g_cons (a_pow a_int a_int) (g_cons (av 4) g_nil))) g_nil))) (g_cons (av 5) g_nil))))))))))) (rd_law_later_f3b91afa G)
theorem ok_law_less_0394b9ff {G : Gx} {mg : Str → Option Value} {A : Ad} {base : Heap} (T : Txt G mg A) : FnOk G.k.P G.k.w G.k.K mg base (L2.CX G.k.P G.k.w) 1 A.f_law_less_0394b9ff A.fd_law_less_0394b9ff ["_law_first", "_law_second"] (liftSp G.k (sp_law_less_0394b9ff G)) :=
  fun_ok (k := 0) (tb := tb_law_less_0394b9ff G) T.F_law_less_0394b9ff sc_law_less_0394b9ff (by intro ds L Q R h; unfold sp_law_less_0394b9ff at h; split at h <;> first | rfl | exact h.elim) (fun cdv A_ outer s H E hr => by
    have sc := sc_law_less_0394b9ff
    exact (b_cons (s_if (PW.pt (w_or (t_isN (av 0) a_non) (w_or1 (t_isN (av 1) a_non)))) (b_one (s_ret a_bl)) b_nil) (b_one (s_ret (a_lt (a_shl (a_item (av 0) a_int) (a_item (av 1) a_int)) (a_shl (a_item (av 1) a_int) (a_item (av 0) a_int))))))) (rd_law_less_0394b9ff G)
theorem ok_Dyadic_power {G : Gx} {mg : Str → Option Value} {A : Ad} {base : Heap} (T : Txt G mg A) : FnOk G.k.P G.k.w G.k.K mg base (L2.CX G.k.P G.k.w) 1 A.f_Dyadic_power A.fd_Dyadic_power ["self"] (liftSp G.k (sp_Dyadic_power G)) :=
  fun_ok (k := 0) (tb := tb_Dyadic_power G) T.F_Dyadic_power sc_Dyadic_power (by intro ds L Q R h; unfold sp_Dyadic_power at h; split at h <;> first | rfl | exact h.elim) (fun cdv A_ outer s H E hr => by
    have sc := sc_Dyadic_power
    exact (b_one (s_ret (a_fld 1 (av 0))))) (rd_Dyadic_power G)
theorem ok_Dyadic_top {G : Gx} {mg : Str → Option Value} {A : Ad} {base : Heap} (T : Txt G mg A) : FnOk G.k.P G.k.w G.k.K mg base (L2.CX G.k.P G.k.w) 1 A.f_Dyadic_top A.fd_Dyadic_top ["self"] (liftSp G.k (sp_Dyadic_top G)) :=
  fun_ok (k := 0) (tb := tb_Dyadic_top G) T.F_Dyadic_top sc_Dyadic_top (by intro ds L Q R h; unfold sp_Dyadic_top at h; split at h <;> first | rfl | exact h.elim) (fun cdv A_ outer s H E hr => by
    have sc := sc_Dyadic_top
    exact (b_one (s_ret (a_fld 0 (av 0))))) (rd_Dyadic_top G)
theorem ok_Dyadic_less {G : Gx} {mg : Str → Option Value} {A : Ad} {base : Heap} (T : Txt G mg A) : FnOk G.k.P G.k.w G.k.K mg base (L2.CX G.k.P G.k.w) 3 A.f_Dyadic_less A.fd_Dyadic_less ["self", "other"] (liftSp G.k (sp_Dyadic_less G)) :=
  fun_ok (k := 2) (tb := tb_Dyadic_less G) T.F_Dyadic_less sc_Dyadic_less (by intro ds L Q R h; unfold sp_Dyadic_less at h; split at h <;> first | rfl | exact h.elim) (fun cdv A_ outer s H E hr => by
    have sc := sc_Dyadic_less
    exact (b_one (s_ret (a_lt (a_shl (a_fld 0 (av 0)) (a_prop (av 1) T.cl_Dyadic T.P_Dyadic_power (ok_Dyadic_power T) (hr.mono (by decide)) T.b_Dyadic_power)) (a_shl (a_prop (av 1) T.cl_Dyadic T.P_Dyadic_top (ok_Dyadic_top T) (hr.mono (by decide)) T.b_Dyadic_top) (a_fld 1 (av 0))))))) (rd_Dyadic_less G)
theorem ok_is_integer {G : Gx} {mg : Str → Option Value} {A : Ad} {base : Heap} (T : Txt G mg A) : FnOk G.k.P G.k.w G.k.K mg base (L2.CX G.k.P G.k.w) 1 A.f_is_integer A.fd_is_integer ["thing"] (liftSp G.k (sp_is_integer G)) :=
  fun_ok (k := 0) (tb := tb_is_integer G) T.F_is_integer sc_is_integer (by intro ds L Q R h; unfold sp_is_integer at h; split at h <;> first | rfl | exact h.elim) (fun cdv A_ outer s H E hr => by
    have sc := sc_is_integer
    exact (b_one (s_ret (a_and (a_isi rfl T.n_isinstance (g_cons (av 0) (g_cons (a_bltn rfl T.n_int (by decide +kernel)) g_nil))) (a_one (a_notB (a_isi rfl T.n_isinstance (g_cons (av 0) (g_cons (a_bltn rfl T.n_bool (by decide +kernel)) g_nil))))))))) (rd_is_integer G)
theorem ok_reduced {G : Gx} {mg : Str → Option Value} {A : Ad} {base : Heap} (T : Txt G mg A) : FnOk G.k.P G.k.w G.k.K mg base (L2.CX G.k.P G.k.w) 1 A.f_reduced A.fd_reduced ["top", "power"] (liftSp G.k (sp_reduced G)) :=
  fun_ok (k := 0) (tb := tb_reduced G) T.F_reduced sc_reduced (by intro ds L Q R h; unfold sp_reduced at h; split at h <;> first | rfl | exact h.elim) (fun cdv A_ outer s H E hr => by
    have sc := sc_reduced
    exact (b_cons (s_while (passes_of rfl) (PW.pt (w_and (t_gt (av 1) a_int) (w_and1 (t_eq hr.units (a_mod (av 0) a_int) a_int)))) (b_cons (s_set (i := 0) sc.nd (a_div (av 0) a_int)) (b_one (s_set (i := 1) sc.nd (a_sub (av 1) a_int))))) (b_one (s_ret (a_tup (g_cons (av 0) (g_cons (av 1) g_nil))))))) (rd_reduced G)
theorem ok_Dyadic_init {G : Gx} {mg : Str → Option Value} {A : Ad} {base : Heap} (T : Txt G mg A) : FnOk G.k.P G.k.w G.k.K mg base (L2.CX G.k.P G.k.w) 2 A.f_Dyadic_init A.fd_Dyadic_init ["self", "top", "power"] (liftSp G.k (sp_Dyadic_init G)) :=
  fun_okD (k := 1) (tb := tb_Dyadic_init G) T.F_Dyadic_init sc_Dyadic_init (by intro ds L Q R h; unfold sp_Dyadic_init at h; split at h <;> first | rfl | exact h.elim) (fun cdv A_ outer s H E hr => by
    have sc := sc_Dyadic_init
    exact (b_cons (s_if (PW.pt (w_or (t_not (t_tru (a_call (ok_is_integer T) (hr.mono (by decide)) rfl T.m_is_integer T.F_is_integer.kp T.b_is_integer .nil (fun _ => .nil) (takes_of rfl rfl rfl rfl) (args1 (g_cons (av 1) g_nil))))) (w_or1 (t_not (t_leLe (a_neg (a_glob rfl T.g_TOP_MOST.choose_spec rel_int (fun _ => .int _))) (av 1) (a_glob rfl T.g_TOP_MOST.choose_spec rel_int (fun _ => .int _))))))) (b_one (s_raise rfl (takes_of rfl rfl rfl rfl) PySem.F.excBase_ValueError T.x_BadValue T.g_BadValue T.k_BadValue (raises_own T.eb_BadValue T.et_BadValue) rfl)) b_nil) (b_cons (s_if (PW.pt (w_or (t_not (t_tru (a_call (ok_is_integer T) (hr.mono (by decide)) rfl T.m_is_integer T.F_is_integer.kp T.b_is_integer .nil (fun _ => .nil) (takes_of rfl rfl rfl rfl) (args1 (g_cons (av 2) g_nil))))) (w_or1 (t_not (t_leLe a_int (av 2) (a_glob rfl T.g_POWER_MOST.choose_spec rel_int (fun _ => .int _))))))) (b_one (s_raise rfl (takes_of rfl rfl rfl rfl) PySem.F.excBase_ValueError T.x_BadValue T.g_BadValue T.k_BadValue (raises_own T.eb_BadValue T.et_BadValue) rfl)) b_nil) (b_cons (s_set (i := 3) sc.nd (a_call (ok_reduced T) (hr.mono (by decide)) rfl T.m_reduced T.F_reduced.kp T.b_reduced .nil (fun _ => .nil) (takes_of rfl rfl rfl rfl) (args1 (g_cons (av 1) (g_cons (av 2) g_nil))))) (b_cons (s_fnew (av 0) (a_item (av 3) a_int) T.no_Dyadic__top) (b_one (s_fnew (av 0) (a_item (av 3) a_int) T.no_Dyadic__power))))))) (rd_Dyadic_init G)
theorem ok_Dyadic_neg {G : Gx} {mg : Str → Option Value} {A : Ad} {base : Heap} (T : Txt G mg A) : FnOk G.k.P G.k.w G.k.K mg base (L2.CX G.k.P G.k.w) 4 A.f_Dyadic_neg A.fd_Dyadic_neg ["self"] (liftSp G.k (sp_Dyadic_neg G)) :=
  fun_ok (k := 3) (tb := tb_Dyadic_neg G) T.F_Dyadic_neg sc_Dyadic_neg (by intro ds L Q R h; unfold sp_Dyadic_neg at h; split at h <;> first | rfl | exact h.elim) (fun cdv A_ outer s H E hr => by
    have sc := sc_Dyadic_neg
    exact (b_one (s_ret (a_make T.mk_Dyadic T.fo_Dyadic (ok_Dyadic_init T) (mkok2_Dyadic_init G) (hr.mono (by decide)) rfl T.g_Dyadic T.b2_Dyadic_init.choose_spec.2 T.b2_Dyadic_init.choose_spec.1 (fun _ => .nil) (takes_of rfl rfl rfl rfl) (args1 (g_cons (a_neg (a_fld 0 (av 0))) (g_cons (a_fld 1 (av 0)) g_nil))))))) (rd_Dyadic_neg G)
theorem ok_above {G : Gx} {mg : Str → Option Value} {A : Ad} {base : Heap} (T : Txt G mg A) : FnOk G.k.P G.k.w G.k.K mg base (L2.CX G.k.P G.k.w) 4 A.f_above A.fd_above ["low", "high"] (liftSp G.k (sp_above G)) :=
  fun_ok (k := 3) (tb := tb_above G) T.F_above sc_above (by intro ds L Q R h; unfold sp_above at h; split at h <;> first | rfl | exact h.elim) (fun cdv A_ outer s H E hr => by
    have sc := sc_above
    exact (b_cons (s_set (i := 2) sc.nd a_int) (b_cons (s_set (i := 3) sc.nd (a_make T.mk_Dyadic T.fo_Dyadic (ok_Dyadic_init T) (mkok1_Dyadic_init G) (hr.mono (by decide)) rfl T.g_Dyadic T.b1_Dyadic_init.choose_spec.2 T.b1_Dyadic_init.choose_spec.1 (fun _ => dflt_Dyadic_init _) (takes_of rfl rfl rfl rfl) (args1 (g_cons (a_add (a_shr (a_prop (av 0) T.cl_Dyadic T.P_Dyadic_top (ok_Dyadic_top T) (hr.mono (by decide)) T.b_Dyadic_top) (a_prop (av 0) T.cl_Dyadic T.P_Dyadic_power (ok_Dyadic_power T) (hr.mono (by decide)) T.b_Dyadic_power)) a_int) g_nil)))) (b_cons (s_while (passes_of rfl) (PW.pt (w_and (t_isNN (av 1) a_non) (w_and1 (t_not (t_tru (a_meth (av 3) T.cl_Dyadic T.Mt_Dyadic_less (ok_Dyadic_less T) (hr.mono (by decide)) T.b_Dyadic_less .nil (fun _ => .nil) (takes_of rfl rfl rfl rfl) (args1 (g_cons (av 1) g_nil)))))))) (b_cons (s_set (i := 2) sc.nd (a_add (av 2) a_int)) (b_one (s_set (i := 3) sc.nd (a_make T.mk_Dyadic T.fo_Dyadic (ok_Dyadic_init T) (mkok2_Dyadic_init G) (hr.mono (by decide)) rfl T.g_Dyadic T.b2_Dyadic_init.choose_spec.2 T.b2_Dyadic_init.choose_spec.1 (fun _ => .nil) (takes_of rfl rfl rfl rfl) (args1 (g_cons (a_add (a_shr (a_shl (a_prop (av 0) T.cl_Dyadic T.P_Dyadic_top (ok_Dyadic_top T) (hr.mono (by decide)) T.b_Dyadic_top) (av 2)) (a_prop (av 0) T.cl_Dyadic T.P_Dyadic_power (ok_Dyadic_power T) (hr.mono (by decide)) T.b_Dyadic_power)) a_int) (g_cons (av 2) g_nil)))))))) (b_one (s_ret (av 3))))))) (rd_above G)
theorem ok_negated {G : Gx} {mg : Str → Option Value} {A : Ad} {base : Heap} (T : Txt G mg A) : FnOk G.k.P G.k.w G.k.K mg base (L2.CX G.k.P G.k.w) 5 A.f_negated A.fd_negated ["number"] (liftSp G.k (sp_negated G)) :=
  fun_ok (k := 4) (tb := tb_negated G) T.F_negated sc_negated (by intro ds L Q R h; unfold sp_negated at h; split at h <;> first | rfl | exact h.elim) (fun cdv A_ outer s H E hr => by
    have sc := sc_negated
    exact (b_cons (s_if (t_isN (av 0) a_non) (b_one (s_ret a_non)) b_nil) (b_one (s_ret (a_unM (av 0) T.Mt_Dyadic_neg (ok_Dyadic_neg T) (hr.mono (by decide)) T.b_Dyadic_neg (takes_of rfl rfl rfl rfl)))))) (rd_negated G)
theorem ok_simplest_between {G : Gx} {mg : Str → Option Value} {A : Ad} {base : Heap} (T : Txt G mg A) : FnOk G.k.P G.k.w G.k.K mg base (L2.CX G.k.P G.k.w) 6 A.f_simplest_between A.fd_simplest_between ["low", "high"] (liftSp G.k (sp_simplest_between G)) :=
  fun_ok (k := 5) (tb := tb_simplest_between G) T.F_simplest_between sc_simplest_between (by intro ds L Q R h; unfold sp_simplest_between at h; split at h <;> first | rfl | exact h.elim) (fun cdv A_ outer s H E hr => by
    have sc := sc_simplest_between
    exact (b_cons (s_if (PW.pt (w_and (t_isNN (av 0) a_non) (w_and (t_isNN (av 1) a_non) (w_and1 (t_not (t_tru (a_meth (av 0) T.cl_Dyadic T.Mt_Dyadic_less (ok_Dyadic_less T) (hr.mono (by decide)) T.b_Dyadic_less .nil (fun _ => .nil) (takes_of rfl rfl rfl rfl) (args1 (g_cons (av 1) g_nil))))))))) (b_one (s_raise rfl (takes_of rfl rfl rfl rfl) PySem.F.excBase_ValueError T.x_BadValue T.g_BadValue T.k_BadValue (raises_own T.eb_BadValue T.et_BadValue) rfl)) b_nil) (b_cons (s_set (i := 2) sc.nd (a_make T.mk_Dyadic T.fo_Dyadic (ok_Dyadic_init T) (mkok1_Dyadic_init G) (hr.mono (by decide)) rfl T.g_Dyadic T.b1_Dyadic_init.choose_spec.2 T.b1_Dyadic_init.choose_spec.1 (fun _ => dflt_Dyadic_init _) (takes_of rfl rfl rfl rfl) (args1 (g_cons a_int g_nil)))) (b_cons (s_if (PW.pt (w_and (PW.pt (w_or (t_isN (av 0) a_non) (w_or1 (t_tru (a_meth (av 0) T.cl_Dyadic T.Mt_Dyadic_less (ok_Dyadic_less T) (hr.mono (by decide)) T.b_Dyadic_less .nil (fun _ => .nil) (takes_of rfl rfl rfl rfl) (args1 (g_cons (av 2) g_nil))))))) (w_and1 (PW.pt (w_or (t_isN (av 1) a_non) (w_or1 (t_tru (a_meth (av 2) T.cl_Dyadic T.Mt_Dyadic_less (ok_Dyadic_less T) (hr.mono (by decide)) T.b_Dyadic_less .nil (fun _ => .nil) (takes_of rfl rfl rfl rfl) (args1 (g_cons (av 1) g_nil)))))))))) (b_one (s_ret (av 2))) b_nil) (b_cons (s_if (PW.pt (w_or (t_isN (av 0) a_non) (w_or1 (t_tru (a_meth (av 0) T.cl_Dyadic T.Mt_Dyadic_less (ok_Dyadic_less T) (hr.mono (by decide)) T.b_Dyadic_less .nil (fun _ => .nil) (takes_of rfl rfl rfl rfl) (args1 (g_cons (av 2) g_nil))))))) (b_one (s_ret (a_unM (a_call (ok_above T) (hr.mono (by decide)) rfl T.m_above T.F_above.kp T.b_above .nil (fun _ => .nil) (takes_of rfl rfl rfl rfl) (args1 (g_cons (a_unM (av 1) T.Mt_Dyadic_neg (ok_Dyadic_neg T) (hr.mono (by decide)) T.b_Dyadic_neg (takes_of rfl rfl rfl rfl)) (g_cons (a_call (ok_negated T) (hr.mono (by decide)) rfl T.m_negated T.F_negated.kp T.b_negated .nil (fun _ => .nil) (takes_of rfl rfl rfl rfl) (args1 (g_cons (av 0) g_nil))) g_nil)))) T.Mt_Dyadic_neg (ok_Dyadic_neg T) (hr.mono (by decide)) T.b_Dyadic_neg (takes_of rfl rfl rfl rfl)))) b_nil) (b_one (s_ret (a_call (ok_above T) (hr.mono (by decide)) rfl T.m_above T.F_above.kp T.b_above .nil (fun _ => .nil) (takes_of rfl rfl rfl rfl) (args1 (g_cons (av 0) (g_cons (av 1) g_nil))))))))))) (rd_simplest_between G)
theorem ok_law_refused_f6e51d19 {G : Gx} {mg : Str → Option Value} {A : Ad} {base : Heap} (T : Txt G mg A) : FnOk G.k.P G.k.w G.k.K mg base (L2.CX G.k.P G.k.w) 7 A.f_law_refused_f6e51d19 A.fd_law_refused_f6e51d19 ["_law_low", "_law_high"] (liftSp G.k (sp_law_refused_f6e51d19 G)) :=
  fun_ok (k := 6) (tb := tb_law_refused_f6e51d19 G) T.F_law_refused_f6e51d19 sc_law_refused_f6e51d19 (by intro ds L Q R h; unfold sp_law_refused_f6e51d19 at h; split at h <;> first | rfl | exact h.elim) (fun cdv A_ outer s H E hr => by
    have sc := sc_law_refused_f6e51d19
    exact (b_cons (s_tryA (i := 2) rfl rfl sc.nd rfl rfl ⟨rfl, by decide, .inl T.g_PlayError⟩ (takes_of rfl rfl rfl rfl) (fun W_ pn_ xe_ tk_ hp_ => (b_one (s_expr (a_call (ok_simplest_between T) (hr.mono (by decide)) rfl T.m_simplest_between T.F_simplest_between.kp T.b_simplest_between .nil (fun _ => .nil) tk_ (args1 (g_cons (a_make T.mk_Dyadic T.fo_Dyadic (ok_Dyadic_init T) (mkok2_Dyadic_init G) (hr.mono (by decide)) rfl T.g_Dyadic T.b2_Dyadic_init.choose_spec.2 T.b2_Dyadic_init.choose_spec.1 (fun _ => .nil) tk_ (args1 (g_cons (a_item (av 0) a_int) (g_cons (a_item (av 0) a_int) g_nil)))) (g_cons (a_make T.mk_Dyadic T.fo_Dyadic (ok_Dyadic_init T) (mkok2_Dyadic_init G) (hr.mono (by decide)) rfl T.g_Dyadic T.b2_Dyadic_init.choose_spec.2 T.b2_Dyadic_init.choose_spec.1 (fun _ => .nil) tk_ (args1 (g_cons (a_item (av 1) a_int) (g_cons (a_item (av 1) a_int) g_nil)))) g_nil))))))) (fun a_ oe_ c_ pn_ hC hz hv => (b_cons (s_if (PW.pt (w_or (t_tru (a_isE hC hz hv rfl T.n_isinstance (g_cons (av 2) (g_cons (a_glob rfl T.g_BadText rel_ref (fun _ => .ref _)) g_nil)))) (w_or (t_tru (a_isE hC hz hv rfl T.n_isinstance (g_cons (av 2) (g_cons (a_glob rfl T.g_NoMove rel_ref (fun _ => .ref _)) g_nil)))) (w_or1 (t_tru (a_isE hC hz hv rfl T.n_isinstance (g_cons (av 2) (g_cons (a_glob rfl T.g_Unknown rel_ref (fun _ => .ref _)) g_nil)))))))) (b_one (s_ret a_bl)) b_nil) (b_one (s_ret (a_and (a_isE hC hz hv rfl T.n_isinstance (g_cons (av 2) (g_cons (a_glob rfl T.g_BadValue rel_ref (fun _ => .ref _)) g_nil))) (a_one (a_isE hC hz hv rfl T.n_isinstance (g_cons (av 2) (g_cons (a_bltn rfl T.n_ValueError (by decide +kernel)) g_nil)))))))))) (b_one (s_ret a_bl)))) (rd_law_refused_f6e51d19 G T.er_BadValue)
theorem ok_law_bound_6b1178b8 {G : Gx} {mg : Str → Option Value} {A : Ad} {base : Heap} (T : Txt G mg A) : FnOk G.k.P G.k.w G.k.K mg base (L2.CX G.k.P G.k.w) 4 A.f_law_bound_6b1178b8 A.fd_law_bound_6b1178b8 ["_law_pair_here"] (liftSp G.k (sp_law_bound_6b1178b8 G)) :=
  fun_ok (k := 3) (tb := tb_law_bound_6b1178b8 G) T.F_law_bound_6b1178b8 sc_law_bound_6b1178b8 (by intro ds L Q R h; unfold sp_law_bound_6b1178b8 at h; split at h <;> first | rfl | exact h.elim) (fun cdv A_ outer s H E hr => by
    have sc := sc_law_bound_6b1178b8
    exact (b_cons (s_if (t_isN (av 0) a_non) (b_one (s_ret a_non)) b_nil) (b_one (s_ret (a_make T.mk_Dyadic T.fo_Dyadic (ok_Dyadic_init T) (mkok2_Dyadic_init G) (hr.mono (by decide)) rfl T.g_Dyadic T.b2_Dyadic_init.choose_spec.2 T.b2_Dyadic_init.choose_spec.1 (fun _ => .nil) (takes_of rfl rfl rfl rfl) (args1 (g_cons (a_item (av 0) a_int) (g_cons (a_item (av 0) a_int) g_nil)))))))) (rd_law_bound_6b1178b8 G)
theorem ok_law_is_integer_fcf59962 {G : Gx} {mg : Str → Option Value} {A : Ad} {base : Heap} (T : Txt G mg A) : FnOk G.k.P G.k.w G.k.K mg base (L2.CX G.k.P G.k.w) 1 A.f_law_is_integer_fcf59962 A.fd_law_is_integer_fcf59962 ["_law_thing"] (liftSp G.k (sp_law_is_integer_fcf59962 G)) :=
  fun_ok (k := 0) (tb := tb_law_is_integer_fcf59962 G) T.F_law_is_integer_fcf59962 sc_law_is_integer_fcf59962 (by intro ds L Q R h; unfold sp_law_is_integer_fcf59962 at h; split at h <;> first | rfl | exact h.elim) (fun cdv A_ outer s H E hr => by
    have sc := sc_law_is_integer_fcf59962
    exact (b_one (s_ret (a_and (a_isi rfl T.n_isinstance (g_cons (av 0) (g_cons (a_bltn rfl T.n_int (by decide +kernel)) g_nil))) (a_one (a_notB (a_isi rfl T.n_isinstance (g_cons (av 0) (g_cons (a_bltn rfl T.n_bool (by decide +kernel)) g_nil))))))))) (rd_law_is_integer_fcf59962 G)
theorem ok_law_plain_d4e9bf06 {G : Gx} {mg : Str → Option Value} {A : Ad} {base : Heap} (T : Txt G mg A) : FnOk G.k.P G.k.w G.k.K mg base (L2.CX G.k.P G.k.w) 1 A.f_law_plain_d4e9bf06 A.fd_law_plain_d4e9bf06 ["_law_top", "_law_power"] (liftSp G.k (sp_law_plain_d4e9bf06 G)) :=
  fun_ok (k := 0) (tb := tb_law_plain_d4e9bf06 G) T.F_law_plain_d4e9bf06 sc_law_plain_d4e9bf06 (by intro ds L Q R h; unfold sp_law_plain_d4e9bf06 at h; split at h <;> first | rfl | exact h.elim) (fun cdv A_ outer s H E hr => by
    have sc := sc_law_plain_d4e9bf06
    exact (b_cons (s_for (passes_of rfl) rfl (i_rng1 rfl T.n_range (g_cons a_int g_nil)) (g_name 2 sc.nd) (gok_name 2) (b_one (s_if (PW.pt (w_and (t_gt (av 1) a_int) (w_and1 (t_eq hr.units (a_mod (a_intc rfl T.n_int (g_cons (av 0) g_nil)) a_int) a_int)))) (b_cons (s_set (i := 0) sc.nd (a_div (av 0) a_int)) (b_one (s_set (i := 1) sc.nd (a_sub (av 1) a_int)))) b_nil))) (b_one (s_ret (a_tup (g_cons (av 0) (g_cons (av 1) g_nil))))))) (rd_law_plain_d4e9bf06 G)
theorem ok_law_simplest_728054c6 {G : Gx} {mg : Str → Option Value} {A : Ad} {base : Heap} (T : Txt G mg A) : FnOk G.k.P G.k.w G.k.K mg base (L2.CX G.k.P G.k.w) 3 A.f_law_simplest_728054c6 A.fd_law_simplest_728054c6 ["_law_found", "_law_low", "_law_high"] (liftSp G.k (sp_law_simplest_728054c6 G)) :=
  fun_ok (k := 2) (tb := tb_law_simplest_728054c6 G) T.F_law_simplest_728054c6 sc_law_simplest_728054c6 (by intro ds L Q R h; unfold sp_law_simplest_728054c6 at h; split at h <;> first | rfl | exact h.elim) (fun cdv A_ outer s H E hr => by
    have sc := sc_law_simplest_728054c6
    exact (b_cons (s_if (PW.pt (w_or (t_not (t_tru (a_isi rfl T.n_isinstance (g_cons (av 0) (g_cons (a_glob rfl T.g_Dyadic rel_ref (fun _ => .ref _)) g_nil))))) (w_or (t_not (t_tru (a_call (ok_law_is_integer_fcf59962 T) (hr.mono (by decide)) rfl T.m_law_is_integer_fcf59962 T.F_law_is_integer_fcf59962.kp T.b_law_is_integer_fcf59962 .nil (fun _ => .nil) (takes_of rfl rfl rfl rfl) (args1 (g_cons (a_prop (av 0) T.cl_Dyadic T.P_Dyadic_top (ok_Dyadic_top T) (hr.mono (by decide)) T.b_Dyadic_top) g_nil))))) (w_or1 (t_not (t_tru (a_call (ok_law_is_integer_fcf59962 T) (hr.mono (by decide)) rfl T.m_law_is_integer_fcf59962 T.F_law_is_integer_fcf59962.kp T.b_law_is_integer_fcf59962 .nil (fun _ => .nil) (takes_of rfl rfl rfl rfl) (args1 (g_cons (a_prop (av 0) T.cl_Dyadic T.P_Dyadic_power (ok_Dyadic_power T) (hr.mono (by decide)) T.b_Dyadic_power) g_nil))))))))) (b_one (s_ret a_bl)) b_nil) (b_cons (s_set (i := 3) sc.nd (a_tup (g_cons (a_prop (av 0) T.cl_Dyadic T.P_Dyadic_top (ok_Dyadic_top T) (hr.mono (by decide)) T.b_Dyadic_top) (g_cons (a_prop (av 0) T.cl_Dyadic T.P_Dyadic_power (ok_Dyadic_power T) (hr.mono (by decide)) T.b_Dyadic_power) g_nil)))) (b_cons (s_if (PW.pt (w_or (t_lt (a_item (av 3) a_int) a_int) (w_or (t_gt (a_item (av 3) a_int) a_int) (w_or1 (t_ne hr.units (a_call (ok_law_plain_d4e9bf06 T) (hr.mono (by decide)) rfl T.m_law_plain_d4e9bf06 T.F_law_plain_d4e9bf06.kp T.b_law_plain_d4e9bf06 .nil (fun _ => .nil) (takes_of rfl rfl rfl rfl) (args1 (g_cons (a_item (av 3) a_int) (g_cons (a_item (av 3) a_int) g_nil)))) (av 3)))))) (b_one (s_ret a_bl)) b_nil) (b_cons (s_if (PW.pt (w_or (t_not (t_tru (a_call (ok_law_less_0394b9ff T) (hr.mono (by decide)) rfl T.m_law_less_0394b9ff T.F_law_less_0394b9ff.kp T.b_law_less_0394b9ff .nil (fun _ => .nil) (takes_of rfl rfl rfl rfl) (args1 (g_cons (av 1) (g_cons (av 3) g_nil)))))) (w_or1 (t_not (t_tru (a_call (ok_law_less_0394b9ff T) (hr.mono (by decide)) rfl T.m_law_less_0394b9ff T.F_law_less_0394b9ff.kp T.b_law_less_0394b9ff .nil (fun _ => .nil) (takes_of rfl rfl rfl rfl) (args1 (g_cons (av 3) (g_cons (av 2) g_nil))))))))) (b_one (s_ret a_bl)) b_nil) (b_cons (s_set (i := 4) sc.nd (a_tup (g_cons (a_sub (a_item (av 3) a_int) a_int) (g_cons (a_item (av 3) a_int) g_nil)))) (b_cons (s_set (i := 5) sc.nd (a_tup (g_cons (a_add (a_item (av 3) a_int) a_int) (g_cons (a_item (av 3) a_int) g_nil)))) (b_cons (s_set (i := 6) sc.nd (a_and (a_isNN (av 1) a_non) (a_one (a_notB (a_call (ok_law_less_0394b9ff T) (hr.mono (by decide)) rfl T.m_law_less_0394b9ff T.F_law_less_0394b9ff.kp T.b_law_less_0394b9ff .nil (fun _ => .nil) (takes_of rfl rfl rfl rfl) (args1 (g_cons (av 1) (g_cons (av 4) g_nil)))))))) (b_cons (s_set (i := 7) sc.nd (a_and (a_isNN (av 2) a_non) (a_one (a_notB (a_call (ok_law_less_0394b9ff T) (hr.mono (by decide)) rfl T.m_law_less_0394b9ff T.F_law_less_0394b9ff.kp T.b_law_less_0394b9ff .nil (fun _ => .nil) (takes_of rfl rfl rfl rfl) (args1 (g_cons (av 5) (g_cons (av 2) g_nil)))))))) (b_cons (s_if (t_gt (a_item (av 3) a_int) a_int) (b_one (s_ret (a_and (av 6) (a_one (av 7))))) b_nil) (b_one (s_ret (a_or (a_eq hr.units (a_item (av 3) a_int) a_int) (a_or (a_and (a_gt (a_item (av 3) a_int) a_int) (a_one (av 6))) (a_one (a_and (a_lt (a_item (av 3) a_int) a_int) (a_one (av 7)))))))))))))))))) (rd_law_simplest_728054c6 G)
theorem ok_Dyadic_same {G : Gx} {mg : Str → Option Value} {A : Ad} {base : Heap} (T : Txt G mg A) : FnOk G.k.P G.k.w G.k.K mg base (L2.CX G.k.P G.k.w) 3 A.f_Dyadic_same A.fd_Dyadic_same ["self", "other"] (liftSp G.k (sp_Dyadic_same G)) :=
  fun_ok (k := 2) (tb := tb_Dyadic_same G) T.F_Dyadic_same sc_Dyadic_same (by intro ds L Q R h; unfold sp_Dyadic_same at h; split at h <;> first | rfl | exact h.elim) (fun cdv A_ outer s H E hr => by
    have sc := sc_Dyadic_same
    exact (b_one (s_ret (a_and (a_eq hr.units (a_fld 0 (av 0)) (a_prop (av 1) T.cl_Dyadic T.P_Dyadic_top (ok_Dyadic_top T) (hr.mono (by decide)) T.b_Dyadic_top)) (a_one (a_eq hr.units (a_fld 1 (av 0)) (a_prop (av 1) T.cl_Dyadic T.P_Dyadic_power (ok_Dyadic_power T) (hr.mono (by decide)) T.b_Dyadic_power))))))) (rd_Dyadic_same G)
theorem ok_Dyadic_age {G : Gx} {mg : Str → Option Value} {A : Ad} {base : Heap} (T : Txt G mg A) : FnOk G.k.P G.k.w G.k.K mg base (L2.CX G.k.P G.k.w) 1 A.f_Dyadic_age A.fd_Dyadic_age ["self"] (liftSp G.k (sp_Dyadic_age G)) :=
  fun_ok (k := 0) (tb := tb_Dyadic_age G) T.F_Dyadic_age sc_Dyadic_age (by intro ds L Q R h; unfold sp_Dyadic_age at h; split at h <;> first | rfl | exact h.elim) (fun cdv A_ outer s H E hr => by
    have sc := sc_Dyadic_age
    exact (b_cons (s_set (i := 1) sc.nd (a_shr (a_abs rfl T.n_abs (g_cons (a_fld 0 (av 0)) g_nil)) (a_fld 1 (av 0)))) (b_cons (s_if (t_eq hr.units (a_fld 1 (av 0)) a_int) (b_one (s_ret (av 1))) b_nil) (b_one (s_ret (a_add (a_add (av 1) (a_fld 1 (av 0))) a_int)))))) (rd_Dyadic_age G)
theorem ok_law_older_8e2363a4 {G : Gx} {mg : Str → Option Value} {A : Ad} {base : Heap} (T : Txt G mg A) : FnOk G.k.P G.k.w G.k.K mg base (L2.CX G.k.P G.k.w) 4 A.f_law_older_8e2363a4 A.fd_law_older_8e2363a4 ["_law_found", "_law_third", "_law_low", "_law_high"] (liftSp G.k (sp_law_older_8e2363a4 G)) :=
  fun_ok (k := 3) (tb := tb_law_older_8e2363a4 G) T.F_law_older_8e2363a4 sc_law_older_8e2363a4 (by intro ds L Q R h; unfold sp_law_older_8e2363a4 at h; split at h <;> first | rfl | exact h.elim) (fun cdv A_ outer s H E hr => by
    have sc := sc_law_older_8e2363a4
    exact (b_cons (s_if (PW.pt (w_or (t_not (t_tru (a_call (ok_law_less_0394b9ff T) (hr.mono (by decide)) rfl T.m_law_less_0394b9ff T.F_law_less_0394b9ff.kp T.b_law_less_0394b9ff .nil (fun _ => .nil) (takes_of rfl rfl rfl rfl) (args1 (g_cons (av 2) (g_cons (av 1) g_nil)))))) (w_or1 (t_not (t_tru (a_call (ok_law_less_0394b9ff T) (hr.mono (by decide)) rfl T.m_law_less_0394b9ff T.F_law_less_0394b9ff.kp T.b_law_less_0394b9ff .nil (fun _ => .nil) (takes_of rfl rfl rfl rfl) (args1 (g_cons (av 1) (g_cons (av 3) g_nil))))))))) (b_one (s_ret a_bl)) b_nil) (b_cons (s_set (i := 4) sc.nd (a_make T.mk_Dyadic T.fo_Dyadic (ok_Dyadic_init T) (mkok2_Dyadic_init G) (hr.mono (by decide)) rfl T.g_Dyadic T.b2_Dyadic_init.choose_spec.2 T.b2_Dyadic_init.choose_spec.1 (fun _ => .nil) (takes_of rfl rfl rfl rfl) (args1 (g_cons (a_item (av 1) a_int) (g_cons (a_item (av 1) a_int) g_nil))))) (b_one (s_ret (a_or (a_meth (av 0) T.cl_Dyadic T.Mt_Dyadic_same (ok_Dyadic_same T) (hr.mono (by decide)) T.b_Dyadic_same .nil (fun _ => .nil) (takes_of rfl rfl rfl rfl) (args1 (g_cons (av 4) g_nil))) (a_one (a_lt (a_meth (av 0) T.cl_Dyadic T.Mt_Dyadic_age (ok_Dyadic_age T) (hr.mono (by decide)) T.b_Dyadic_age .nil (fun _ => .nil) (takes_of rfl rfl rfl rfl) args0) (a_meth (av 4) T.cl_Dyadic T.Mt_Dyadic_age (ok_Dyadic_age T) (hr.mono (by decide)) T.b_Dyadic_age .nil (fun _ => .nil) (takes_of rfl rfl rfl rfl) args0))))))))) (rd_law_older_8e2363a4 G)
theorem ok_law_turned_796bf394 {G : Gx} {mg : Str → Option Value} {A : Ad} {base : Heap} (T : Txt G mg A) : FnOk G.k.P G.k.w G.k.K mg base (L2.CX G.k.P G.k.w) 1 A.f_law_turned_796bf394 A.fd_law_turned_796bf394 ["_law_pair_here"] (liftSp G.k (sp_law_turned_796bf394 G)) :=
  fun_ok (k := 0) (tb := tb_law_turned_796bf394 G) T.F_law_turned_796bf394 sc_law_turned_796bf394 (by intro ds L Q R h; unfold sp_law_turned_796bf394 at h; split at h <;> first | rfl | exact h.elim) (fun cdv A_ outer s H E hr => by
    have sc := sc_law_turned_796bf394
    exact (b_cons (s_if (t_isN (av 0) a_non) (b_one (s_ret a_non)) b_nil) (b_one (s_ret (a_tup (g_cons (a_neg (a_item (av 0) a_int)) (g_cons (a_item (av 0) a_int) g_nil))))))) (rd_law_turned_796bf394 G)
theorem ok_law_kept_51dc22b8 {G : Gx} {mg : Str → Option Value} {A : Ad} {base : Heap} (T : Txt G mg A) : FnOk G.k.P G.k.w G.k.K mg base (L2.CX G.k.P G.k.w) 3 A.f_law_kept_51dc22b8 A.fd_law_kept_51dc22b8 ["_law_bound_here", "_law_pair_here"] (liftSp G.k (sp_law_kept_51dc22b8 G)) :=
  fun_ok (k := 2) (tb := tb_law_kept_51dc22b8 G) T.F_law_kept_51dc22b8 sc_law_kept_51dc22b8 (by intro ds L Q R h; unfold sp_law_kept_51dc22b8 at h; split at h <;> first | rfl | exact h.elim) (fun cdv A_ outer s H E hr => by
    have sc := sc_law_kept_51dc22b8
    exact (b_cons (s_if (t_isN (av 1) a_non) (b_one (s_ret (a_isN (av 0) a_non))) b_nil) (b_one (s_ret (a_eq hr.units (a_tup (g_cons (a_prop (av 0) T.cl_Dyadic T.P_Dyadic_top (ok_Dyadic_top T) (hr.mono (by decide)) T.b_Dyadic_top) (g_cons (a_prop (av 0) T.cl_Dyadic T.P_Dyadic_power (ok_Dyadic_power T) (hr.mono (by decide)) T.b_Dyadic_power) g_nil))) (a_call (ok_law_plain_d4e9bf06 T) (hr.mono (by decide)) rfl T.m_law_plain_d4e9bf06 T.F_law_plain_d4e9bf06.kp T.b_law_plain_d4e9bf06 .nil (fun _ => .nil) (takes_of rfl rfl rfl rfl) (args1 (g_cons (a_item (av 1) a_int) (g_cons (a_item (av 1) a_int) g_nil))))))))) (rd_law_kept_51dc22b8 G)
theorem ok_law_bfff741c {G : Gx} {mg : Str → Option Value} {A : Ad} {base : Heap} (T : Txt G mg A) : FnOk G.k.P G.k.w G.k.K mg base (L2.CX G.k.P G.k.w) 8 A.f_law_bfff741c A.fd_law_bfff741c ["_law_script"] (liftSp G.k (sp_law_bfff741c G)) :=
  fun_ok (k := 7) (tb := tb_law_bfff741c G) T.F_law_bfff741c sc_law_bfff741c (fun ds L Q R h => spLawT_len h) (fun cdv A_ outer s H E hr => by
    have sc := sc_law_bfff741c
    exact (b_cons (s_set (i := 1) sc.nd (a_call (ok_law_digits_b31862c4 T) (hr.mono (by decide)) rfl T.m_law_digits_b31862c4 T.F_law_digits_b31862c4.kp T.b_law_digits_b31862c4 .nil (fun _ => .nil) (takes_of rfl rfl rfl rfl) (args1 (g_cons (a_call (ok_law_cell_4bc9b38b T) (hr.mono (by decide)) rfl T.m_law_cell_4bc9b38b T.F_law_cell_4bc9b38b.kp T.b_law_cell_4bc9b38b .nil (fun _ => .nil) (takes_of rfl rfl rfl rfl) (args1 (g_cons (av 0) (g_cons a_int g_nil)))) (g_cons a_int g_nil))))) (b_cons (s_set (i := 2) sc.nd (a_call (ok_law_pair_638bb791 T) (hr.mono (by decide)) rfl T.m_law_pair_638bb791 T.F_law_pair_638bb791.kp T.b_law_pair_638bb791 .nil (fun _ => .nil) (takes_of rfl rfl rfl rfl) (args1 (g_cons (a_call (ok_law_cell_4bc9b38b T) (hr.mono (by decide)) rfl T.m_law_cell_4bc9b38b T.F_law_cell_4bc9b38b.kp T.b_law_cell_4bc9b38b .nil (fun _ => .nil) (takes_of rfl rfl rfl rfl) (args1 (g_cons (av 0) (g_cons a_int g_nil)))) (g_cons (a_call (ok_law_cell_4bc9b38b T) (hr.mono (by decide)) rfl T.m_law_cell_4bc9b38b T.F_law_cell_4bc9b38b.kp T.b_law_cell_4bc9b38b .nil (fun _ => .nil) (takes_of rfl rfl rfl rfl) (args1 (g_cons (av 0) (g_cons a_int g_nil)))) g_nil))))) (b_cons (s_set (i := 3) sc.nd (a_call (ok_law_pair_638bb791 T) (hr.mono (by decide)) rfl T.m_law_pair_638bb791 T.F_law_pair_638bb791.kp T.b_law_pair_638bb791 .nil (fun _ => .nil) (takes_of rfl rfl rfl rfl) (args1 (g_cons (a_call (ok_law_cell_4bc9b38b T) (hr.mono (by decide)) rfl T.m_law_cell_4bc9b38b T.F_law_cell_4bc9b38b.kp T.b_law_cell_4bc9b38b .nil (fun _ => .nil) (takes_of rfl rfl rfl rfl) (args1 (g_cons (av 0) (g_cons a_int g_nil)))) (g_cons (a_call (ok_law_cell_4bc9b38b T) (hr.mono (by decide)) rfl T.m_law_cell_4bc9b38b T.F_law_cell_4bc9b38b.kp T.b_law_cell_4bc9b38b .nil (fun _ => .nil) (takes_of rfl rfl rfl rfl) (args1 (g_cons (av 0) (g_cons a_int g_nil)))) g_nil))))) (b_cons (s_set (i := 3) sc.nd (a_call (ok_law_later_f3b91afa T) (hr.mono (by decide)) rfl T.m_law_later_f3b91afa T.F_law_later_f3b91afa.kp T.b_law_later_f3b91afa .nil (fun _ => .nil) (takes_of rfl rfl rfl rfl) (args1 (g_cons (av 2) (g_cons (av 3) (g_cons (a_item (av 1) a_int) (g_cons (a_call (ok_law_cell_4bc9b38b T) (hr.mono (by decide)) rfl T.m_law_cell_4bc9b38b T.F_law_cell_4bc9b38b.kp T.b_law_cell_4bc9b38b .nil (fun _ => .nil) (takes_of rfl rfl rfl rfl) (args1 (g_cons (av 0) (g_cons a_int g_nil)))) g_nil))))))) (b_cons (s_if (t_not (t_tru (a_call (ok_law_less_0394b9ff T) (hr.mono (by decide)) rfl T.m_law_less_0394b9ff T.F_law_less_0394b9ff.kp T.b_law_less_0394b9ff .nil (fun _ => .nil) (takes_of rfl rfl rfl rfl) (args1 (g_cons (av 2) (g_cons (av 3) g_nil)))))) (b_cons (s_if (PW.pt (w_or (t_not (t_tru (a_call (ok_law_refused_f6e51d19 T) (hr.mono (by decide)) rfl T.m_law_refused_f6e51d19 T.F_law_refused_f6e51d19.kp T.b_law_refused_f6e51d19 .nil (fun _ => .nil) (takes_of rfl rfl rfl rfl) (args1 (g_cons (av 2) (g_cons (av 3) g_nil)))))) (w_or1 (t_not (t_tru (a_call (ok_law_refused_f6e51d19 T) (hr.mono (by decide)) rfl T.m_law_refused_f6e51d19 T.F_law_refused_f6e51d19.kp T.b_law_refused_f6e51d19 .nil (fun _ => .nil) (takes_of rfl rfl rfl rfl) (args1 (g_cons (av 3) (g_cons (av 3) g_nil))))))))) (b_one (s_ret a_bl)) b_nil) (b_one (s_if (t_not (t_tru (a_call (ok_law_less_0394b9ff T) (hr.mono (by decide)) rfl T.m_law_less_0394b9ff T.F_law_less_0394b9ff.kp T.b_law_less_0394b9ff .nil (fun _ => .nil) (takes_of rfl rfl rfl rfl) (args1 (g_cons (av 3) (g_cons (av 2) g_nil)))))) (b_cons (s_set (i := 3) sc.nd (a_tup (g_cons (a_div (a_item (av 2) a_int) a_int) (g_cons (a_item (av 2) a_int) g_nil)))) (b_one (s_set (i := 2) sc.nd (a_tup (g_cons (a_sub (a_div (a_item (av 2) a_int) a_int) a_int) (g_cons (a_item (av 2) a_int) g_nil)))))) (b_cons (s_set (i := 4) sc.nd (a_lst (g_cons (av 3) (g_cons (av 2) g_nil)))) (b_cons (s_set (i := 2) sc.nd (a_item (av 4) a_int)) (b_one (s_set (i := 3) sc.nd (a_item (av 4) a_int)))))))) (b_one (s_if (t_not (t_tru (a_call (ok_law_refused_f6e51d19 T) (hr.mono (by decide)) rfl T.m_law_refused_f6e51d19 T.F_law_refused_f6e51d19.kp T.b_law_refused_f6e51d19 .nil (fun _ => .nil) (takes_of rfl rfl rfl rfl) (args1 (g_cons (av 3) (g_cons (av 2) g_nil)))))) (b_one (s_ret a_bl)) b_nil))) (b_cons (s_if (t_eq hr.units (a_mod (a_intc rfl T.n_int (g_cons (a_item (av 1) a_int) g_nil)) a_int) a_int) (b_one (s_set (i := 2) sc.nd a_non)) b_nil) (b_cons (s_if (PW.pt (w_or (t_eq hr.units (a_mod (a_intc rfl T.n_int (g_cons (a_item (av 1) a_int) g_nil)) a_int) a_int) (w_or1 (t_eq hr.units (a_mod (a_intc rfl T.n_int (g_cons (a_item (av 1) a_int) g_nil)) a_int) a_int)))) (b_one (s_set (i := 3) sc.nd a_non)) b_nil) (b_cons (s_set (i := 5) sc.nd (a_lst (g_cons (a_call (ok_law_bound_6b1178b8 T) (hr.mono (by decide)) rfl T.m_law_bound_6b1178b8 T.F_law_bound_6b1178b8.kp T.b_law_bound_6b1178b8 .nil (fun _ => .nil) (takes_of rfl rfl rfl rfl) (args1 (g_cons (av 2) g_nil))) (g_cons (a_call (ok_law_bound_6b1178b8 T) (hr.mono (by decide)) rfl T.m_law_bound_6b1178b8 T.F_law_bound_6b1178b8.kp T.b_law_bound_6b1178b8 .nil (fun _ => .nil) (takes_of rfl rfl rfl rfl) (args1 (g_cons (av 3) g_nil))) g_nil)))) (b_cons (s_set (i := 6) sc.nd (a_call (ok_simplest_between T) (hr.mono (by decide)) rfl T.m_simplest_between T.F_simplest_between.kp T.b_simplest_between .nil (fun _ => .nil) (takes_of rfl rfl rfl rfl) (args1 (g_cons (a_item (av 5) a_int) (g_cons (a_item (av 5) a_int) g_nil))))) (b_cons (s_if (t_not (t_tru (a_call (ok_law_simplest_728054c6 T) (hr.mono (by decide)) rfl T.m_law_simplest_728054c6 T.F_law_simplest_728054c6.kp T.b_law_simplest_728054c6 .nil (fun _ => .nil) (takes_of rfl rfl rfl rfl) (args1 (g_cons (av 6) (g_cons (av 2) (g_cons (av 3) g_nil))))))) (b_one (s_ret a_bl)) b_nil) (b_cons (s_for (passes_of rfl) rfl (i_rng1 rfl T.n_range (g_cons a_int g_nil)) (g_name 7 sc.nd) (gok_name 7) (b_cons (s_set (i := 8) sc.nd (a_call (ok_law_pair_638bb791 T) (hr.mono (by decide)) rfl T.m_law_pair_638bb791 T.F_law_pair_638bb791.kp T.b_law_pair_638bb791 .nil (fun _ => .nil) (takes_of rfl rfl rfl rfl) (args1 (g_cons (a_call (ok_law_cell_4bc9b38b T) (hr.mono (by decide)) rfl T.m_law_cell_4bc9b38b T.F_law_cell_4bc9b38b.kp T.b_law_cell_4bc9b38b .nil (fun _ => .nil) (takes_of rfl rfl rfl rfl) (args1 (g_cons (av 0) (g_cons (a_add a_int (a_mul a_int (av 7))) g_nil)))) (g_cons (a_call (ok_law_cell_4bc9b38b T) (hr.mono (by decide)) rfl T.m_law_cell_4bc9b38b T.F_law_cell_4bc9b38b.kp T.b_law_cell_4bc9b38b .nil (fun _ => .nil) (takes_of rfl rfl rfl rfl) (args1 (g_cons (av 0) (g_cons (a_add a_int (a_mul a_int (av 7))) g_nil)))) g_nil))))) (b_cons (s_if (PW.pt (w_and (t_lt (av 7) a_int) (w_and1 (t_isNN (av 2) a_non)))) (b_one (s_set (i := 8) sc.nd (a_call (ok_law_later_f3b91afa T) (hr.mono (by decide)) rfl T.m_law_later_f3b91afa T.F_law_later_f3b91afa.kp T.b_law_later_f3b91afa .nil (fun _ => .nil) (takes_of rfl rfl rfl rfl) (args1 (g_cons (av 2) (g_cons (av 8) (g_cons (a_add a_int (a_mul a_int (av 7))) (g_cons (av 7) g_nil)))))))) b_nil) (b_one (s_if (t_not (t_tru (a_call (ok_law_older_8e2363a4 T) (hr.mono (by decide)) rfl T.m_law_older_8e2363a4 T.F_law_older_8e2363a4.kp T.b_law_older_8e2363a4 .nil (fun _ => .nil) (takes_of rfl rfl rfl rfl) (args1 (g_cons (av 6) (g_cons (av 8) (g_cons (av 2) (g_cons (av 3) g_nil)))))))) (b_one (s_ret a_bl)) b_nil))))) (b_cons (s_set (i := 9) sc.nd (a_call (ok_simplest_between T) (hr.mono (by decide)) rfl T.m_simplest_between T.F_simplest_between.kp T.b_simplest_between .nil (fun _ => .nil) (takes_of rfl rfl rfl rfl) (args1 (g_cons (a_call (ok_law_bound_6b1178b8 T) (hr.mono (by decide)) rfl T.m_law_bound_6b1178b8 T.F_law_bound_6b1178b8.kp T.b_law_bound_6b1178b8 .nil (fun _ => .nil) (takes_of rfl rfl rfl rfl) (args1 (g_cons (a_call (ok_law_turned_796bf394 T) (hr.mono (by decide)) rfl T.m_law_turned_796bf394 T.F_law_turned_796bf394.kp T.b_law_turned_796bf394 .nil (fun _ => .nil) (takes_of rfl rfl rfl rfl) (args1 (g_cons (av 3) g_nil))) g_nil))) (g_cons (a_call (ok_law_bound_6b1178b8 T) (hr.mono (by decide)) rfl T.m_law_bound_6b1178b8 T.F_law_bound_6b1178b8.kp T.b_law_bound_6b1178b8 .nil (fun _ => .nil) (takes_of rfl rfl rfl rfl) (args1 (g_cons (a_call (ok_law_turned_796bf394 T) (hr.mono (by decide)) rfl T.m_law_turned_796bf394 T.F_law_turned_796bf394.kp T.b_law_turned_796bf394 .nil (fun _ => .nil) (takes_of rfl rfl rfl rfl) (args1 (g_cons (av 2) g_nil))) g_nil))) g_nil))))) (b_cons (s_if (t_not (t_tru (a_call (ok_law_simplest_728054c6 T) (hr.mono (by decide)) rfl T.m_law_simplest_728054c6 T.F_law_simplest_728054c6.kp T.b_law_simplest_728054c6 .nil (fun _ => .nil) (takes_of rfl rfl rfl rfl) (args1 (g_cons (av 9) (g_cons (a_call (ok_law_turned_796bf394 T) (hr.mono (by decide)) rfl T.m_law_turned_796bf394 T.F_law_turned_796bf394.kp T.b_law_turned_796bf394 .nil (fun _ => .nil) (takes_of rfl rfl rfl rfl) (args1 (g_cons (av 3) g_nil))) (g_cons (a_call (ok_law_turned_796bf394 T) (hr.mono (by decide)) rfl T.m_law_turned_796bf394 T.F_law_turned_796bf394.kp T.b_law_turned_796bf394 .nil (fun _ => .nil) (takes_of rfl rfl rfl rfl) (args1 (g_cons (av 2) g_nil))) g_nil))))))) (b_one (s_ret a_bl)) b_nil) (b_cons (s_set (i := 10) sc.nd (a_call (ok_simplest_between T) (hr.mono (by decide)) rfl T.m_simplest_between T.F_simplest_between.kp T.b_simplest_between .nil (fun _ => .nil) (takes_of rfl rfl rfl rfl) (args1 (g_cons (a_item (av 5) a_int) (g_cons (a_item (av 5) a_int) g_nil))))) (b_cons (s_if (PW.pt (w_or (t_not (t_tru (a_call (ok_law_kept_51dc22b8 T) (hr.mono (by decide)) rfl T.m_law_kept_51dc22b8 T.F_law_kept_51dc22b8.kp T.b_law_kept_51dc22b8 .nil (fun _ => .nil) (takes_of rfl rfl rfl rfl) (args1 (g_cons (a_item (av 5) a_int) (g_cons (av 2) g_nil)))))) (w_or1 (t_not (t_tru (a_call (ok_law_kept_51dc22b8 T) (hr.mono (by decide)) rfl T.m_law_kept_51dc22b8 T.F_law_kept_51dc22b8.kp T.b_law_kept_51dc22b8 .nil (fun _ => .nil) (takes_of rfl rfl rfl rfl) (args1 (g_cons (a_item (av 5) a_int) (g_cons (av 3) g_nil))))))))) (b_one (s_ret a_bl)) b_nil) (b_one (s_ret (a_and (a_meth (av 10) T.cl_Dyadic T.Mt_Dyadic_same (ok_Dyadic_same T) (hr.mono (by decide)) T.b_Dyadic_same .nil (fun _ => .nil) (takes_of rfl rfl rfl rfl) (args1 (g_cons (av 6) g_nil))) (a_and (a_eq hr.units (a_prop (av 9) T.cl_Dyadic T.P_Dyadic_top (ok_Dyadic_top T) (hr.mono (by decide)) T.b_Dyadic_top) (a_neg (a_prop (av 6) T.cl_Dyadic T.P_Dyadic_top (ok_Dyadic_top T) (hr.mono (by decide)) T.b_Dyadic_top))) (a_one (a_eq hr.units (a_prop (av 9) T.cl_Dyadic T.P_Dyadic_power (ok_Dyadic_power T) (hr.mono (by decide)) T.b_Dyadic_power) (a_prop (av 6) T.cl_Dyadic T.P_Dyadic_power (ok_Dyadic_power T) (hr.mono (by decide)) T.b_Dyadic_power))))))))))))))))))))))) (rd_law_bfff741c G)
theorem all_mk {w : World} {K : PySem.W.Frag} {h : Heap} {mg : Str → Option Value} {fa : Addr} {C_Dyadic : Addr} {C_BadText : Addr} {C_BadValue : Addr} {C_NoMove : Addr} {C_PlayError : Addr} {C_Unknown : Addr} {tk_POWER_MOST : Tok} {tk_TOP_MOST : Tok} {f_law_digits_b31862c4 : Addr} {oc_law_digits_b31862c4 kV_law_digits_b31862c4 dc_law_digits_b31862c4 pm_law_digits_b31862c4 cd_law_digits_b31862c4 ct_law_digits_b31862c4 : Value} {od_law_digits_b31862c4 an_law_digits_b31862c4 : Option Addr} {sl_law_digits_b31862c4 : Array (Option Value)} {f_law_cell_4bc9b38b : Addr} {oc_law_cell_4bc9b38b kV_law_cell_4bc9b38b dc_law_cell_4bc9b38b pm_law_cell_4bc9b38b cd_law_cell_4bc9b38b ct_law_cell_4bc9b38b : Value} {od_law_cell_4bc9b38b an_law_cell_4bc9b38b : Option Addr} {sl_law_cell_4bc9b38b : Array (Option Value)} {f_law_pair_638bb791 : Addr} {oc_law_pair_638bb791 kV_law_pair_638bb791 dc_law_pair_638bb791 pm_law_pair_638bb791 cd_law_pair_638bb791 ct_law_pair_638bb791 : Value} {od_law_pair_638bb791 an_law_pair_638bb791 : Option Addr} {sl_law_pair_638bb791 : Array (Option Value)} {f_law_later_f3b91afa : Addr} {oc_law_later_f3b91afa kV_law_later_f3b91afa dc_law_later_f3b91afa pm_law_later_f3b91afa cd_law_later_f3b91afa ct_law_later_f3b91afa : Value} {od_law_later_f3b91afa an_law_later_f3b91afa : Option Addr} {sl_law_later_f3b91afa : Array (Option Value)} {f_law_less_0394b9ff : Addr} {oc_law_less_0394b9ff kV_law_less_0394b9ff dc_law_less_0394b9ff pm_law_less_0394b9ff cd_law_less_0394b9ff ct_law_less_0394b9ff : Value} {od_law_less_0394b9ff an_law_less_0394b9ff : Option Addr} {sl_law_less_0394b9ff : Array (Option Value)} {f_Dyadic_power : Addr} {oc_Dyadic_power kV_Dyadic_power dc_Dyadic_power pm_Dyadic_power cd_Dyadic_power ct_Dyadic_power : Value} {od_Dyadic_power an_Dyadic_power : Option Addr} {sl_Dyadic_power : Array (Option Value)} {p_Dyadic_power : Addr} {rest_Dyadic_power : List Value} {f_Dyadic_top : Addr} {oc_Dyadic_top kV_Dyadic_top dc_Dyadic_top pm_Dyadic_top cd_Dyadic_top ct_Dyadic_top : Value} {od_Dyadic_top an_Dyadic_top : Option Addr} {sl_Dyadic_top : Array (Option Value)} {p_Dyadic_top : Addr} {rest_Dyadic_top : List Value} {f_Dyadic_less : Addr} {oc_Dyadic_less kV_Dyadic_less dc_Dyadic_less pm_Dyadic_less cd_Dyadic_less ct_Dyadic_less : Value} {od_Dyadic_less an_Dyadic_less : Option Addr} {sl_Dyadic_less : Array (Option Value)} {f_is_integer : Addr} {oc_is_integer kV_is_integer dc_is_integer pm_is_integer cd_is_integer ct_is_integer : Value} {od_is_integer an_is_integer : Option Addr} {sl_is_integer : Array (Option Value)} {f_reduced : Addr} {oc_reduced kV_reduced dc_reduced pm_reduced cd_reduced ct_reduced : Value} {od_reduced an_reduced : Option Addr} {sl_reduced : Array (Option Value)} {f_Dyadic_init : Addr} {oc_Dyadic_init kV_Dyadic_init dc_Dyadic_init pm_Dyadic_init cd_Dyadic_init ct_Dyadic_init : Value} {od_Dyadic_init an_Dyadic_init : Option Addr} {sl_Dyadic_init : Array (Option Value)} {T_Dyadic_init nT_Dyadic_init : Nat} {ocT_Dyadic_init : Value} {odT_Dyadic_init : Option Addr} {slT_Dyadic_init : Array (Option Value)} {tk0_Dyadic_init : Tok} {f_Dyadic_neg : Addr} {oc_Dyadic_neg kV_Dyadic_neg dc_Dyadic_neg pm_Dyadic_neg cd_Dyadic_neg ct_Dyadic_neg : Value} {od_Dyadic_neg an_Dyadic_neg : Option Addr} {sl_Dyadic_neg : Array (Option Value)} {f_above : Addr} {oc_above kV_above dc_above pm_above cd_above ct_above : Value} {od_above an_above : Option Addr} {sl_above : Array (Option Value)} {f_negated : Addr} {oc_negated kV_negated dc_negated pm_negated cd_negated ct_negated : Value} {od_negated an_negated : Option Addr} {sl_negated : Array (Option Value)} {f_simplest_between : Addr} {oc_simplest_between kV_simplest_between dc_simplest_between pm_simplest_between cd_simplest_between ct_simplest_between : Value} {od_simplest_between an_simplest_between : Option Addr} {sl_simplest_between : Array (Option Value)} {f_law_refused_f6e51d19 : Addr} {oc_law_refused_f6e51d19 kV_law_refused_f6e51d19 dc_law_refused_f6e51d19 pm_law_refused_f6e51d19 cd_law_refused_f6e51d19 ct_law_refused_f6e51d19 : Value} {od_law_refused_f6e51d19 an_law_refused_f6e51d19 : Option Addr} {sl_law_refused_f6e51d19 : Array (Option Value)} {f_law_bound_6b1178b8 : Addr} {oc_law_bound_6b1178b8 kV_law_bound_6b1178b8 dc_law_bound_6b1178b8 pm_law_bound_6b1178b8 cd_law_bound_6b1178b8 ct_law_bound_6b1178b8 : Value} {od_law_bound_6b1178b8 an_law_bound_6b1178b8 : Option Addr} {sl_law_bound_6b1178b8 : Array (Option Value)} {f_law_is_integer_fcf59962 : Addr} {oc_law_is_integer_fcf59962 kV_law_is_integer_fcf59962 dc_law_is_integer_fcf59962 pm_law_is_integer_fcf59962 cd_law_is_integer_fcf59962 ct_law_is_integer_fcf59962 : Value} {od_law_is_integer_fcf59962 an_law_is_integer_fcf59962 : Option Addr} {sl_law_is_integer_fcf59962 : Array (Option Value)} {f_law_plain_d4e9bf06 : Addr} {oc_law_plain_d4e9bf06 kV_law_plain_d4e9bf06 dc_law_plain_d4e9bf06 pm_law_plain_d4e9bf06 cd_law_plain_d4e9bf06 ct_law_plain_d4e9bf06 : Value} {od_law_plain_d4e9bf06 an_law_plain_d4e9bf06 : Option Addr} {sl_law_plain_d4e9bf06 : Array (Option Value)} {f_law_simplest_728054c6 : Addr} {oc_law_simplest_728054c6 kV_law_simplest_728054c6 dc_law_simplest_728054c6 pm_law_simplest_728054c6 cd_law_simplest_728054c6 ct_law_simplest_728054c6 : Value} {od_law_simplest_728054c6 an_law_simplest_728054c6 : Option Addr} {sl_law_simplest_728054c6 : Array (Option Value)} {f_Dyadic_same : Addr} {oc_Dyadic_same kV_Dyadic_same dc_Dyadic_same pm_Dyadic_same cd_Dyadic_same ct_Dyadic_same : Value} {od_Dyadic_same an_Dyadic_same : Option Addr} {sl_Dyadic_same : Array (Option Value)} {f_Dyadic_age : Addr} {oc_Dyadic_age kV_Dyadic_age dc_Dyadic_age pm_Dyadic_age cd_Dyadic_age ct_Dyadic_age : Value} {od_Dyadic_age an_Dyadic_age : Option Addr} {sl_Dyadic_age : Array (Option Value)} {f_law_older_8e2363a4 : Addr} {oc_law_older_8e2363a4 kV_law_older_8e2363a4 dc_law_older_8e2363a4 pm_law_older_8e2363a4 cd_law_older_8e2363a4 ct_law_older_8e2363a4 : Value} {od_law_older_8e2363a4 an_law_older_8e2363a4 : Option Addr} {sl_law_older_8e2363a4 : Array (Option Value)} {f_law_turned_796bf394 : Addr} {oc_law_turned_796bf394 kV_law_turned_796bf394 dc_law_turned_796bf394 pm_law_turned_796bf394 cd_law_turned_796bf394 ct_law_turned_796bf394 : Value} {od_law_turned_796bf394 an_law_turned_796bf394 : Option Addr} {sl_law_turned_796bf394 : Array (Option Value)} {f_law_kept_51dc22b8 : Addr} {oc_law_kept_51dc22b8 kV_law_kept_51dc22b8 dc_law_kept_51dc22b8 pm_law_kept_51dc22b8 cd_law_kept_51dc22b8 ct_law_kept_51dc22b8 : Value} {od_law_kept_51dc22b8 an_law_kept_51dc22b8 : Option Addr} {sl_law_kept_51dc22b8 : Array (Option Value)} {f_law_bfff741c : Addr} {oc_law_bfff741c kV_law_bfff741c dc_law_bfff741c pm_law_bfff741c cd_law_bfff741c ct_law_bfff741c : Value} {od_law_bfff741c an_law_bfff741c : Option Addr} {sl_law_bfff741c : Array (Option Value)} (X : K.In h) (G0 : h.Ns mainGlobals mg) (hfa : mg "law" = some (.ref fa))
    (h_aC_Dyadic : PySem.W.nsIn K mainGlobals "Dyadic" = some (some (.ref C_Dyadic)))
    (h_pg_Dyadic : PySem.W.plainGet K C_Dyadic Str.empty = true)
    (h_hd_Dyadic : PySem.W.hasDictIn K C_Dyadic = true)
    (h_po_Dyadic : PySem.W.plainOver K C_Dyadic = true)
    (h_sa_Dyadic : PySem.W.findIn K (.ref C_Dyadic) "__setattr__" = some (some (.builtin "object.__setattr__")))
    (h_ha_Dyadic : PySem.W.findIn K (.ref C_Dyadic) "__class__" = some (some (.builtin "object.__class__")))
    (h_mr_Dyadic : PySem.W.mroIn K C_Dyadic (.type "object") = some true)
    (h_kc_Dyadic : PySem.W.keepIn K (.ref C_Dyadic) = true)
    (h_no_Dyadic__top : PySem.W.findIn K (.ref C_Dyadic) "_top" = some none)
    (h_no_Dyadic__power : PySem.W.findIn K (.ref C_Dyadic) "_power" = some none)
    (h_mk_Dyadic : PySem.W.makesIn K C_Dyadic = true)
    (h_hn_ : PySem.W.specialIn K (.builtin "object.__class__") "__get__" = some (some (.builtin "getset_descriptor.__get__")))
    (h_htk_ : PySem.W.takesIn K (.builtin "object.__class__") = some true)
    (h_aC_BadText : PySem.W.nsIn K mainGlobals "BadText" = some (some (.ref C_BadText)))
    (h_aC_BadValue : PySem.W.nsIn K mainGlobals "BadValue" = some (some (.ref C_BadValue)))
    (h_x_BadValue : PySem.W.excIn K C_BadValue [.type "ValueError", .type "Exception", .type "BaseException", .type "object"] "ValueError.__new__" = true)
    (h_k_BadValue : PySem.W.keepIn K (.ref C_BadValue) = true)
    (h_eb_BadValue : PySem.W.subIn K (.ref C_BadValue) (.type "BaseException") = some true)
    (h_et_BadValue : PySem.W.typeIn K (.ref C_BadValue) = some (.type "type"))
    (h_aC_NoMove : PySem.W.nsIn K mainGlobals "NoMove" = some (some (.ref C_NoMove)))
    (h_aC_PlayError : PySem.W.nsIn K mainGlobals "PlayError" = some (some (.ref C_PlayError)))
    (h_aC_Unknown : PySem.W.nsIn K mainGlobals "Unknown" = some (some (.ref C_Unknown)))
    (h_xg_BadValue : PySem.W.findIn K (.ref C_BadValue) "__getattribute__" = some (some (.builtin "BaseException.__getattribute__")))
    (h_xk_BadValue : PySem.W.findIn K (.ref C_BadValue) "__getattr__" = some none)
    (h_xa_BadValue : PySem.W.findIn K (.ref C_BadValue) "__class__" = some (some (.builtin "object.__class__")))
    (h_xm_BadValue : PySem.W.mroIn K C_BadValue (.type "object") = some true)
    (h_eb_PlayError : PySem.W.subIn K (.ref C_PlayError) (.type "BaseException") = some true)
    (h_xd_BadValue : PySem.W.hasDictIn K C_BadValue = true)
    (h_xs_BadValue_BadValue : PySem.W.subIn K (.ref C_BadValue) (.ref C_BadValue) = some true)
    (h_xd_PlayError : PySem.W.hasDictIn K C_PlayError = true)
    (h_et_PlayError : PySem.W.typeIn K (.ref C_PlayError) = some (.type "type"))
    (h_xs_BadValue_PlayError : PySem.W.subIn K (.ref C_BadValue) (.ref C_PlayError) = some true)
    (h_xd_BadText : PySem.W.hasDictIn K C_BadText = true)
    (h_et_BadText : PySem.W.typeIn K (.ref C_BadText) = some (.type "type"))
    (h_xs_BadValue_BadText : PySem.W.subIn K (.ref C_BadValue) (.ref C_BadText) = some false)
    (h_xs_BadText_BadText : PySem.W.subIn K (.ref C_BadText) (.ref C_BadText) = some true)
    (h_xd_Unknown : PySem.W.hasDictIn K C_Unknown = true)
    (h_et_Unknown : PySem.W.typeIn K (.ref C_Unknown) = some (.type "type"))
    (h_xs_BadValue_Unknown : PySem.W.subIn K (.ref C_BadValue) (.ref C_Unknown) = some false)
    (h_xs_Unknown_Unknown : PySem.W.subIn K (.ref C_Unknown) (.ref C_Unknown) = some true)
    (h_xd_NoMove : PySem.W.hasDictIn K C_NoMove = true)
    (h_et_NoMove : PySem.W.typeIn K (.ref C_NoMove) = some (.type "type"))
    (h_xs_BadValue_NoMove : PySem.W.subIn K (.ref C_BadValue) (.ref C_NoMove) = some false)
    (h_xs_NoMove_NoMove : PySem.W.subIn K (.ref C_NoMove) (.ref C_NoMove) = some true)
    (h_xv_BadValue : PySem.W.subIn K (.ref C_BadValue) (.type "ValueError") = some true)
    (h_g_POWER_MOST : PySem.W.nsIn K mainGlobals "POWER_MOST" = some (some (.int 40 tk_POWER_MOST)))
    (h_g_TOP_MOST : PySem.W.nsIn K mainGlobals "TOP_MOST" = some (some (.int 1000000000000 tk_TOP_MOST)))
    (h_n_ValueError : PySem.W.nsIn K mainGlobals "ValueError" = some none)
    (h_n_abs : PySem.W.nsIn K mainGlobals "abs" = some none)
    (h_n_bool : PySem.W.nsIn K mainGlobals "bool" = some none)
    (h_n_int : PySem.W.nsIn K mainGlobals "int" = some none)
    (h_n_isinstance : PySem.W.nsIn K mainGlobals "isinstance" = some none)
    (h_n_len : PySem.W.nsIn K mainGlobals "len" = some none)
    (h_n_max : PySem.W.nsIn K mainGlobals "max" = some none)
    (h_n_min : PySem.W.nsIn K mainGlobals "min" = some none)
    (h_n_range : PySem.W.nsIn K mainGlobals "range" = some none)
    (h_a_law_digits_b31862c4 : PySem.W.nsIn K mainGlobals "_law_digits" = some (some (.ref f_law_digits_b31862c4)))
    (h_l_law_digits_b31862c4 : K.lookup f_law_digits_b31862c4 = some ⟨oc_law_digits_b31862c4, od_law_digits_b31862c4, .func (PySem.W.fnOf "_law_digits" "_law_digits" (defArgs s_law_digits_b31862c4) (defBody s_law_digits_b31862c4) (defScope s_law_digits_b31862c4) .none kV_law_digits_b31862c4 dc_law_digits_b31862c4 pm_law_digits_b31862c4 an_law_digits_b31862c4 cd_law_digits_b31862c4 ct_law_digits_b31862c4), sl_law_digits_b31862c4⟩)
    (h_c_law_digits_b31862c4 : PySem.W.codeIn K cd_law_digits_b31862c4 "_law_digits" = true)
    (h_k_law_digits_b31862c4 : PySem.W.keepIn K (.ref f_law_digits_b31862c4) = true)
    (h_a_law_cell_4bc9b38b : PySem.W.nsIn K mainGlobals "_law_cell" = some (some (.ref f_law_cell_4bc9b38b)))
    (h_l_law_cell_4bc9b38b : K.lookup f_law_cell_4bc9b38b = some ⟨oc_law_cell_4bc9b38b, od_law_cell_4bc9b38b, .func (PySem.W.fnOf "_law_cell" "_law_cell" (defArgs s_law_cell_4bc9b38b) (defBody s_law_cell_4bc9b38b) (defScope s_law_cell_4bc9b38b) .none kV_law_cell_4bc9b38b dc_law_cell_4bc9b38b pm_law_cell_4bc9b38b an_law_cell_4bc9b38b cd_law_cell_4bc9b38b ct_law_cell_4bc9b38b), sl_law_cell_4bc9b38b⟩)
    (h_c_law_cell_4bc9b38b : PySem.W.codeIn K cd_law_cell_4bc9b38b "_law_cell" = true)
    (h_k_law_cell_4bc9b38b : PySem.W.keepIn K (.ref f_law_cell_4bc9b38b) = true)
    (h_a_law_pair_638bb791 : PySem.W.nsIn K mainGlobals "_law_pair" = some (some (.ref f_law_pair_638bb791)))
    (h_l_law_pair_638bb791 : K.lookup f_law_pair_638bb791 = some ⟨oc_law_pair_638bb791, od_law_pair_638bb791, .func (PySem.W.fnOf "_law_pair" "_law_pair" (defArgs s_law_pair_638bb791) (defBody s_law_pair_638bb791) (defScope s_law_pair_638bb791) .none kV_law_pair_638bb791 dc_law_pair_638bb791 pm_law_pair_638bb791 an_law_pair_638bb791 cd_law_pair_638bb791 ct_law_pair_638bb791), sl_law_pair_638bb791⟩)
    (h_c_law_pair_638bb791 : PySem.W.codeIn K cd_law_pair_638bb791 "_law_pair" = true)
    (h_k_law_pair_638bb791 : PySem.W.keepIn K (.ref f_law_pair_638bb791) = true)
    (h_a_law_later_f3b91afa : PySem.W.nsIn K mainGlobals "_law_later" = some (some (.ref f_law_later_f3b91afa)))
    (h_l_law_later_f3b91afa : K.lookup f_law_later_f3b91afa = some ⟨oc_law_later_f3b91afa, od_law_later_f3b91afa, .func (PySem.W.fnOf "_law_later" "_law_later" (defArgs s_law_later_f3b91afa) (defBody s_law_later_f3b91afa) (defScope s_law_later_f3b91afa) .none kV_law_later_f3b91afa dc_law_later_f3b91afa pm_law_later_f3b91afa an_law_later_f3b91afa cd_law_later_f3b91afa ct_law_later_f3b91afa), sl_law_later_f3b91afa⟩)
    (h_c_law_later_f3b91afa : PySem.W.codeIn K cd_law_later_f3b91afa "_law_later" = true)
    (h_k_law_later_f3b91afa : PySem.W.keepIn K (.ref f_law_later_f3b91afa) = true)
    (h_a_law_less_0394b9ff : PySem.W.nsIn K mainGlobals "_law_less" = some (some (.ref f_law_less_0394b9ff)))
    (h_l_law_less_0394b9ff : K.lookup f_law_less_0394b9ff = some ⟨oc_law_less_0394b9ff, od_law_less_0394b9ff, .func (PySem.W.fnOf "_law_less" "_law_less" (defArgs s_law_less_0394b9ff) (defBody s_law_less_0394b9ff) (defScope s_law_less_0394b9ff) .none kV_law_less_0394b9ff dc_law_less_0394b9ff pm_law_less_0394b9ff an_law_less_0394b9ff cd_law_less_0394b9ff ct_law_less_0394b9ff), sl_law_less_0394b9ff⟩)
    (h_c_law_less_0394b9ff : PySem.W.codeIn K cd_law_less_0394b9ff "_law_less" = true)
    (h_k_law_less_0394b9ff : PySem.W.keepIn K (.ref f_law_less_0394b9ff) = true)
    (h_a_Dyadic_power : PySem.W.findIn K (.ref C_Dyadic) "power" = some (some (.ref p_Dyadic_power)))
    (h_pget_Dyadic_power : PySem.W.specialIn K (.ref p_Dyadic_power) "__get__" = some (some (.builtin "property.__get__")))
    (h_ptak_Dyadic_power : PySem.W.takesIn K (.ref p_Dyadic_power) = some true)
    (h_prec_Dyadic_power : PySem.W.recIn K p_Dyadic_power "property" = some (.ref f_Dyadic_power :: rest_Dyadic_power))
    (h_l_Dyadic_power : K.lookup f_Dyadic_power = some ⟨oc_Dyadic_power, od_Dyadic_power, .func (PySem.W.fnOf "power" "Dyadic.power" (defArgs s_Dyadic_power) (defBody s_Dyadic_power) (defScope s_Dyadic_power) .none kV_Dyadic_power dc_Dyadic_power pm_Dyadic_power an_Dyadic_power cd_Dyadic_power ct_Dyadic_power), sl_Dyadic_power⟩)
    (h_c_Dyadic_power : PySem.W.codeIn K cd_Dyadic_power "Dyadic.power" = true)
    (h_k_Dyadic_power : PySem.W.keepIn K (.ref f_Dyadic_power) = true)
    (h_a_Dyadic_top : PySem.W.findIn K (.ref C_Dyadic) "top" = some (some (.ref p_Dyadic_top)))
    (h_pget_Dyadic_top : PySem.W.specialIn K (.ref p_Dyadic_top) "__get__" = some (some (.builtin "property.__get__")))
    (h_ptak_Dyadic_top : PySem.W.takesIn K (.ref p_Dyadic_top) = some true)
    (h_prec_Dyadic_top : PySem.W.recIn K p_Dyadic_top "property" = some (.ref f_Dyadic_top :: rest_Dyadic_top))
    (h_l_Dyadic_top : K.lookup f_Dyadic_top = some ⟨oc_Dyadic_top, od_Dyadic_top, .func (PySem.W.fnOf "top" "Dyadic.top" (defArgs s_Dyadic_top) (defBody s_Dyadic_top) (defScope s_Dyadic_top) .none kV_Dyadic_top dc_Dyadic_top pm_Dyadic_top an_Dyadic_top cd_Dyadic_top ct_Dyadic_top), sl_Dyadic_top⟩)
    (h_c_Dyadic_top : PySem.W.codeIn K cd_Dyadic_top "Dyadic.top" = true)
    (h_k_Dyadic_top : PySem.W.keepIn K (.ref f_Dyadic_top) = true)
    (h_a_Dyadic_less : PySem.W.findIn K (.ref C_Dyadic) "less" = some (some (.ref f_Dyadic_less)))
    (h_i_Dyadic_less : PySem.W.isFn K (.ref f_Dyadic_less) = true)
    (h_l_Dyadic_less : K.lookup f_Dyadic_less = some ⟨oc_Dyadic_less, od_Dyadic_less, .func (PySem.W.fnOf "less" "Dyadic.less" (defArgs s_Dyadic_less) (defBody s_Dyadic_less) (defScope s_Dyadic_less) .none kV_Dyadic_less dc_Dyadic_less pm_Dyadic_less an_Dyadic_less cd_Dyadic_less ct_Dyadic_less), sl_Dyadic_less⟩)
    (h_c_Dyadic_less : PySem.W.codeIn K cd_Dyadic_less "Dyadic.less" = true)
    (h_k_Dyadic_less : PySem.W.keepIn K (.ref f_Dyadic_less) = true)
    (h_a_is_integer : PySem.W.nsIn K mainGlobals "is_integer" = some (some (.ref f_is_integer)))
    (h_l_is_integer : K.lookup f_is_integer = some ⟨oc_is_integer, od_is_integer, .func (PySem.W.fnOf "is_integer" "is_integer" (defArgs s_is_integer) (defBody s_is_integer) (defScope s_is_integer) .none kV_is_integer dc_is_integer pm_is_integer an_is_integer cd_is_integer ct_is_integer), sl_is_integer⟩)
    (h_c_is_integer : PySem.W.codeIn K cd_is_integer "is_integer" = true)
    (h_k_is_integer : PySem.W.keepIn K (.ref f_is_integer) = true)
    (h_a_reduced : PySem.W.nsIn K mainGlobals "reduced" = some (some (.ref f_reduced)))
    (h_l_reduced : K.lookup f_reduced = some ⟨oc_reduced, od_reduced, .func (PySem.W.fnOf "reduced" "reduced" (defArgs s_reduced) (defBody s_reduced) (defScope s_reduced) .none kV_reduced dc_reduced pm_reduced an_reduced cd_reduced ct_reduced), sl_reduced⟩)
    (h_c_reduced : PySem.W.codeIn K cd_reduced "reduced" = true)
    (h_k_reduced : PySem.W.keepIn K (.ref f_reduced) = true)
    (h_a_Dyadic_init : PySem.W.findIn K (.ref C_Dyadic) "__init__" = some (some (.ref f_Dyadic_init)))
    (h_i_Dyadic_init : PySem.W.isFn K (.ref f_Dyadic_init) = true)
    (h_l_Dyadic_init : K.lookup f_Dyadic_init = some ⟨oc_Dyadic_init, od_Dyadic_init, .func (PySem.W.fnOf "__init__" "Dyadic.__init__" (defArgs s_Dyadic_init) (defBody s_Dyadic_init) (defScope s_Dyadic_init) (.ref T_Dyadic_init) kV_Dyadic_init dc_Dyadic_init pm_Dyadic_init an_Dyadic_init cd_Dyadic_init ct_Dyadic_init), sl_Dyadic_init⟩)
    (h_c_Dyadic_init : PySem.W.codeIn K cd_Dyadic_init "Dyadic.__init__" = true)
    (h_k_Dyadic_init : PySem.W.keepIn K (.ref f_Dyadic_init) = true)
    (h_lT_Dyadic_init : K.lookup T_Dyadic_init = some ⟨ocT_Dyadic_init, odT_Dyadic_init, .seq #[.int 0 tk0_Dyadic_init] nT_Dyadic_init, slT_Dyadic_init⟩)
    (h_a_Dyadic_neg : PySem.W.findIn K (.ref C_Dyadic) "__neg__" = some (some (.ref f_Dyadic_neg)))
    (h_i_Dyadic_neg : PySem.W.isFn K (.ref f_Dyadic_neg) = true)
    (h_l_Dyadic_neg : K.lookup f_Dyadic_neg = some ⟨oc_Dyadic_neg, od_Dyadic_neg, .func (PySem.W.fnOf "__neg__" "Dyadic.__neg__" (defArgs s_Dyadic_neg) (defBody s_Dyadic_neg) (defScope s_Dyadic_neg) .none kV_Dyadic_neg dc_Dyadic_neg pm_Dyadic_neg an_Dyadic_neg cd_Dyadic_neg ct_Dyadic_neg), sl_Dyadic_neg⟩)
    (h_c_Dyadic_neg : PySem.W.codeIn K cd_Dyadic_neg "Dyadic.__neg__" = true)
    (h_k_Dyadic_neg : PySem.W.keepIn K (.ref f_Dyadic_neg) = true)
    (h_a_above : PySem.W.nsIn K mainGlobals "above" = some (some (.ref f_above)))
    (h_l_above : K.lookup f_above = some ⟨oc_above, od_above, .func (PySem.W.fnOf "above" "above" (defArgs s_above) (defBody s_above) (defScope s_above) .none kV_above dc_above pm_above an_above cd_above ct_above), sl_above⟩)
    (h_c_above : PySem.W.codeIn K cd_above "above" = true)
    (h_k_above : PySem.W.keepIn K (.ref f_above) = true)
    (h_a_negated : PySem.W.nsIn K mainGlobals "negated" = some (some (.ref f_negated)))
    (h_l_negated : K.lookup f_negated = some ⟨oc_negated, od_negated, .func (PySem.W.fnOf "negated" "negated" (defArgs s_negated) (defBody s_negated) (defScope s_negated) .none kV_negated dc_negated pm_negated an_negated cd_negated ct_negated), sl_negated⟩)
    (h_c_negated : PySem.W.codeIn K cd_negated "negated" = true)
    (h_k_negated : PySem.W.keepIn K (.ref f_negated) = true)
    (h_a_simplest_between : PySem.W.nsIn K mainGlobals "simplest_between" = some (some (.ref f_simplest_between)))
    (h_l_simplest_between : K.lookup f_simplest_between = some ⟨oc_simplest_between, od_simplest_between, .func (PySem.W.fnOf "simplest_between" "simplest_between" (defArgs s_simplest_between) (defBody s_simplest_between) (defScope s_simplest_between) .none kV_simplest_between dc_simplest_between pm_simplest_between an_simplest_between cd_simplest_between ct_simplest_between), sl_simplest_between⟩)
    (h_c_simplest_between : PySem.W.codeIn K cd_simplest_between "simplest_between" = true)
    (h_k_simplest_between : PySem.W.keepIn K (.ref f_simplest_between) = true)
    (h_a_law_refused_f6e51d19 : PySem.W.nsIn K mainGlobals "_law_refused" = some (some (.ref f_law_refused_f6e51d19)))
    (h_l_law_refused_f6e51d19 : K.lookup f_law_refused_f6e51d19 = some ⟨oc_law_refused_f6e51d19, od_law_refused_f6e51d19, .func (PySem.W.fnOf "_law_refused" "_law_refused" (defArgs s_law_refused_f6e51d19) (defBody s_law_refused_f6e51d19) (defScope s_law_refused_f6e51d19) .none kV_law_refused_f6e51d19 dc_law_refused_f6e51d19 pm_law_refused_f6e51d19 an_law_refused_f6e51d19 cd_law_refused_f6e51d19 ct_law_refused_f6e51d19), sl_law_refused_f6e51d19⟩)
    (h_c_law_refused_f6e51d19 : PySem.W.codeIn K cd_law_refused_f6e51d19 "_law_refused" = true)
    (h_k_law_refused_f6e51d19 : PySem.W.keepIn K (.ref f_law_refused_f6e51d19) = true)
    (h_a_law_bound_6b1178b8 : PySem.W.nsIn K mainGlobals "_law_bound" = some (some (.ref f_law_bound_6b1178b8)))
    (h_l_law_bound_6b1178b8 : K.lookup f_law_bound_6b1178b8 = some ⟨oc_law_bound_6b1178b8, od_law_bound_6b1178b8, .func (PySem.W.fnOf "_law_bound" "_law_bound" (defArgs s_law_bound_6b1178b8) (defBody s_law_bound_6b1178b8) (defScope s_law_bound_6b1178b8) .none kV_law_bound_6b1178b8 dc_law_bound_6b1178b8 pm_law_bound_6b1178b8 an_law_bound_6b1178b8 cd_law_bound_6b1178b8 ct_law_bound_6b1178b8), sl_law_bound_6b1178b8⟩)
    (h_c_law_bound_6b1178b8 : PySem.W.codeIn K cd_law_bound_6b1178b8 "_law_bound" = true)
    (h_k_law_bound_6b1178b8 : PySem.W.keepIn K (.ref f_law_bound_6b1178b8) = true)
    (h_a_law_is_integer_fcf59962 : PySem.W.nsIn K mainGlobals "_law_is_integer" = some (some (.ref f_law_is_integer_fcf59962)))
    (h_l_law_is_integer_fcf59962 : K.lookup f_law_is_integer_fcf59962 = some ⟨oc_law_is_integer_fcf59962, od_law_is_integer_fcf59962, .func (PySem.W.fnOf "_law_is_integer" "_law_is_integer" (defArgs s_law_is_integer_fcf59962) (defBody s_law_is_integer_fcf59962) (defScope s_law_is_integer_fcf59962) .none kV_law_is_integer_fcf59962 dc_law_is_integer_fcf59962 pm_law_is_integer_fcf59962 an_law_is_integer_fcf59962 cd_law_is_integer_fcf59962 ct_law_is_integer_fcf59962), sl_law_is_integer_fcf59962⟩)
    (h_c_law_is_integer_fcf59962 : PySem.W.codeIn K cd_law_is_integer_fcf59962 "_law_is_integer" = true)
    (h_k_law_is_integer_fcf59962 : PySem.W.keepIn K (.ref f_law_is_integer_fcf59962) = true)
    (h_a_law_plain_d4e9bf06 : PySem.W.nsIn K mainGlobals "_law_plain" = some (some (.ref f_law_plain_d4e9bf06)))
    (h_l_law_plain_d4e9bf06 : K.lookup f_law_plain_d4e9bf06 = some ⟨oc_law_plain_d4e9bf06, od_law_plain_d4e9bf06, .func (PySem.W.fnOf "_law_plain" "_law_plain" (defArgs s_law_plain_d4e9bf06) (defBody s_law_plain_d4e9bf06) (defScope s_law_plain_d4e9bf06) .none kV_law_plain_d4e9bf06 dc_law_plain_d4e9bf06 pm_law_plain_d4e9bf06 an_law_plain_d4e9bf06 cd_law_plain_d4e9bf06 ct_law_plain_d4e9bf06), sl_law_plain_d4e9bf06⟩)
    (h_c_law_plain_d4e9bf06 : PySem.W.codeIn K cd_law_plain_d4e9bf06 "_law_plain" = true)
    (h_k_law_plain_d4e9bf06 : PySem.W.keepIn K (.ref f_law_plain_d4e9bf06) = true)
    (h_a_law_simplest_728054c6 : PySem.W.nsIn K mainGlobals "_law_simplest" = some (some (.ref f_law_simplest_728054c6)))
    (h_l_law_simplest_728054c6 : K.lookup f_law_simplest_728054c6 = some ⟨oc_law_simplest_728054c6, od_law_simplest_728054c6, .func (PySem.W.fnOf "_law_simplest" "_law_simplest" (defArgs s_law_simplest_728054c6) (defBody s_law_simplest_728054c6) (defScope s_law_simplest_728054c6) .none kV_law_simplest_728054c6 dc_law_simplest_728054c6 pm_law_simplest_728054c6 an_law_simplest_728054c6 cd_law_simplest_728054c6 ct_law_simplest_728054c6), sl_law_simplest_728054c6⟩)
    (h_c_law_simplest_728054c6 : PySem.W.codeIn K cd_law_simplest_728054c6 "_law_simplest" = true)
    (h_k_law_simplest_728054c6 : PySem.W.keepIn K (.ref f_law_simplest_728054c6) = true)
    (h_a_Dyadic_same : PySem.W.findIn K (.ref C_Dyadic) "same" = some (some (.ref f_Dyadic_same)))
    (h_i_Dyadic_same : PySem.W.isFn K (.ref f_Dyadic_same) = true)
    (h_l_Dyadic_same : K.lookup f_Dyadic_same = some ⟨oc_Dyadic_same, od_Dyadic_same, .func (PySem.W.fnOf "same" "Dyadic.same" (defArgs s_Dyadic_same) (defBody s_Dyadic_same) (defScope s_Dyadic_same) .none kV_Dyadic_same dc_Dyadic_same pm_Dyadic_same an_Dyadic_same cd_Dyadic_same ct_Dyadic_same), sl_Dyadic_same⟩)
    (h_c_Dyadic_same : PySem.W.codeIn K cd_Dyadic_same "Dyadic.same" = true)
    (h_k_Dyadic_same : PySem.W.keepIn K (.ref f_Dyadic_same) = true)
    (h_a_Dyadic_age : PySem.W.findIn K (.ref C_Dyadic) "age" = some (some (.ref f_Dyadic_age)))
    (h_i_Dyadic_age : PySem.W.isFn K (.ref f_Dyadic_age) = true)
    (h_l_Dyadic_age : K.lookup f_Dyadic_age = some ⟨oc_Dyadic_age, od_Dyadic_age, .func (PySem.W.fnOf "age" "Dyadic.age" (defArgs s_Dyadic_age) (defBody s_Dyadic_age) (defScope s_Dyadic_age) .none kV_Dyadic_age dc_Dyadic_age pm_Dyadic_age an_Dyadic_age cd_Dyadic_age ct_Dyadic_age), sl_Dyadic_age⟩)
    (h_c_Dyadic_age : PySem.W.codeIn K cd_Dyadic_age "Dyadic.age" = true)
    (h_k_Dyadic_age : PySem.W.keepIn K (.ref f_Dyadic_age) = true)
    (h_a_law_older_8e2363a4 : PySem.W.nsIn K mainGlobals "_law_older" = some (some (.ref f_law_older_8e2363a4)))
    (h_l_law_older_8e2363a4 : K.lookup f_law_older_8e2363a4 = some ⟨oc_law_older_8e2363a4, od_law_older_8e2363a4, .func (PySem.W.fnOf "_law_older" "_law_older" (defArgs s_law_older_8e2363a4) (defBody s_law_older_8e2363a4) (defScope s_law_older_8e2363a4) .none kV_law_older_8e2363a4 dc_law_older_8e2363a4 pm_law_older_8e2363a4 an_law_older_8e2363a4 cd_law_older_8e2363a4 ct_law_older_8e2363a4), sl_law_older_8e2363a4⟩)
    (h_c_law_older_8e2363a4 : PySem.W.codeIn K cd_law_older_8e2363a4 "_law_older" = true)
    (h_k_law_older_8e2363a4 : PySem.W.keepIn K (.ref f_law_older_8e2363a4) = true)
    (h_a_law_turned_796bf394 : PySem.W.nsIn K mainGlobals "_law_turned" = some (some (.ref f_law_turned_796bf394)))
    (h_l_law_turned_796bf394 : K.lookup f_law_turned_796bf394 = some ⟨oc_law_turned_796bf394, od_law_turned_796bf394, .func (PySem.W.fnOf "_law_turned" "_law_turned" (defArgs s_law_turned_796bf394) (defBody s_law_turned_796bf394) (defScope s_law_turned_796bf394) .none kV_law_turned_796bf394 dc_law_turned_796bf394 pm_law_turned_796bf394 an_law_turned_796bf394 cd_law_turned_796bf394 ct_law_turned_796bf394), sl_law_turned_796bf394⟩)
    (h_c_law_turned_796bf394 : PySem.W.codeIn K cd_law_turned_796bf394 "_law_turned" = true)
    (h_k_law_turned_796bf394 : PySem.W.keepIn K (.ref f_law_turned_796bf394) = true)
    (h_a_law_kept_51dc22b8 : PySem.W.nsIn K mainGlobals "_law_kept" = some (some (.ref f_law_kept_51dc22b8)))
    (h_l_law_kept_51dc22b8 : K.lookup f_law_kept_51dc22b8 = some ⟨oc_law_kept_51dc22b8, od_law_kept_51dc22b8, .func (PySem.W.fnOf "_law_kept" "_law_kept" (defArgs s_law_kept_51dc22b8) (defBody s_law_kept_51dc22b8) (defScope s_law_kept_51dc22b8) .none kV_law_kept_51dc22b8 dc_law_kept_51dc22b8 pm_law_kept_51dc22b8 an_law_kept_51dc22b8 cd_law_kept_51dc22b8 ct_law_kept_51dc22b8), sl_law_kept_51dc22b8⟩)
    (h_c_law_kept_51dc22b8 : PySem.W.codeIn K cd_law_kept_51dc22b8 "_law_kept" = true)
    (h_k_law_kept_51dc22b8 : PySem.W.keepIn K (.ref f_law_kept_51dc22b8) = true)
    (h_a_law_bfff741c : PySem.W.nsIn K mainGlobals "law" = some (some (.ref f_law_bfff741c)))
    (h_l_law_bfff741c : K.lookup f_law_bfff741c = some ⟨oc_law_bfff741c, od_law_bfff741c, .func (PySem.W.fnOf "law" "law" (defArgs s_law_bfff741c) (defBody s_law_bfff741c) (defScope s_law_bfff741c) .none kV_law_bfff741c dc_law_bfff741c pm_law_bfff741c an_law_bfff741c cd_law_bfff741c ct_law_bfff741c), sl_law_bfff741c⟩)
    (h_c_law_bfff741c : PySem.W.codeIn K cd_law_bfff741c "law" = true)
    (h_k_law_bfff741c : PySem.W.keepIn K (.ref f_law_bfff741c) = true)
    : ∃ fd : FuncData, (∀ (s : Shared) (v : Value), BindsTo s fd ⟨[v], []⟩ [("_law_script", v)]) ∧ ∀ base : Heap, K.In base → base.Ns mainGlobals mg → FnOk lawPr w K mg base (L2.CX lawPr w) 8 fa fd ["_law_script"] (liftSp ⟨lawPr, w, K⟩ spLawT) := by
  have e : f_law_bfff741c = fa := Value.ref.inj (Option.some.inj ((PySem.W.mg_of X G0 h_a_law_bfff741c).symm.trans hfa))
  subst e
  have F_law_digits_b31862c4 := fun_mk (st := s_law_digits_b31862c4) h_l_law_digits_b31862c4 h_c_law_digits_b31862c4 h_k_law_digits_b31862c4
  have F_law_cell_4bc9b38b := fun_mk (st := s_law_cell_4bc9b38b) h_l_law_cell_4bc9b38b h_c_law_cell_4bc9b38b h_k_law_cell_4bc9b38b
  have F_law_pair_638bb791 := fun_mk (st := s_law_pair_638bb791) h_l_law_pair_638bb791 h_c_law_pair_638bb791 h_k_law_pair_638bb791
  have F_law_later_f3b91afa := fun_mk (st := s_law_later_f3b91afa) h_l_law_later_f3b91afa h_c_law_later_f3b91afa h_k_law_later_f3b91afa
  have F_law_less_0394b9ff := fun_mk (st := s_law_less_0394b9ff) h_l_law_less_0394b9ff h_c_law_less_0394b9ff h_k_law_less_0394b9ff
  have F_Dyadic_power := fun_mk (st := s_Dyadic_power) h_l_Dyadic_power h_c_Dyadic_power h_k_Dyadic_power
  have F_Dyadic_top := fun_mk (st := s_Dyadic_top) h_l_Dyadic_top h_c_Dyadic_top h_k_Dyadic_top
  have F_Dyadic_less := fun_mk (st := s_Dyadic_less) h_l_Dyadic_less h_c_Dyadic_less h_k_Dyadic_less
  have F_is_integer := fun_mk (st := s_is_integer) h_l_is_integer h_c_is_integer h_k_is_integer
  have F_reduced := fun_mk (st := s_reduced) h_l_reduced h_c_reduced h_k_reduced
  have F_Dyadic_init : FunD K "__init__" "Dyadic.__init__" (defArgs s_Dyadic_init) (defBody s_Dyadic_init) (defScope s_Dyadic_init) [V.int 0] [] f_Dyadic_init (PySem.W.fnOf "__init__" "Dyadic.__init__" (defArgs s_Dyadic_init) (defBody s_Dyadic_init) (defScope s_Dyadic_init) (.ref T_Dyadic_init) kV_Dyadic_init dc_Dyadic_init pm_Dyadic_init an_Dyadic_init cd_Dyadic_init ct_Dyadic_init) := ⟨⟨oc_Dyadic_init, od_Dyadic_init, _, kV_Dyadic_init, dc_Dyadic_init, pm_Dyadic_init, an_Dyadic_init, cd_Dyadic_init, ct_Dyadic_init, sl_Dyadic_init, rfl, h_l_Dyadic_init, h_c_Dyadic_init, .inr ⟨by decide, T_Dyadic_init, _, [.int 0 tk0_Dyadic_init], _, rfl, h_lT_Dyadic_init, rfl, (.cons ⟨_, rfl⟩ .nil)⟩, .inl rfl⟩, h_k_Dyadic_init⟩
  have F_Dyadic_neg := fun_mk (st := s_Dyadic_neg) h_l_Dyadic_neg h_c_Dyadic_neg h_k_Dyadic_neg
  have F_above := fun_mk (st := s_above) h_l_above h_c_above h_k_above
  have F_negated := fun_mk (st := s_negated) h_l_negated h_c_negated h_k_negated
  have F_simplest_between := fun_mk (st := s_simplest_between) h_l_simplest_between h_c_simplest_between h_k_simplest_between
  have F_law_refused_f6e51d19 := fun_mk (st := s_law_refused_f6e51d19) h_l_law_refused_f6e51d19 h_c_law_refused_f6e51d19 h_k_law_refused_f6e51d19
  have F_law_bound_6b1178b8 := fun_mk (st := s_law_bound_6b1178b8) h_l_law_bound_6b1178b8 h_c_law_bound_6b1178b8 h_k_law_bound_6b1178b8
  have F_law_is_integer_fcf59962 := fun_mk (st := s_law_is_integer_fcf59962) h_l_law_is_integer_fcf59962 h_c_law_is_integer_fcf59962 h_k_law_is_integer_fcf59962
  have F_law_plain_d4e9bf06 := fun_mk (st := s_law_plain_d4e9bf06) h_l_law_plain_d4e9bf06 h_c_law_plain_d4e9bf06 h_k_law_plain_d4e9bf06
  have F_law_simplest_728054c6 := fun_mk (st := s_law_simplest_728054c6) h_l_law_simplest_728054c6 h_c_law_simplest_728054c6 h_k_law_simplest_728054c6
  have F_Dyadic_same := fun_mk (st := s_Dyadic_same) h_l_Dyadic_same h_c_Dyadic_same h_k_Dyadic_same
  have F_Dyadic_age := fun_mk (st := s_Dyadic_age) h_l_Dyadic_age h_c_Dyadic_age h_k_Dyadic_age
  have F_law_older_8e2363a4 := fun_mk (st := s_law_older_8e2363a4) h_l_law_older_8e2363a4 h_c_law_older_8e2363a4 h_k_law_older_8e2363a4
  have F_law_turned_796bf394 := fun_mk (st := s_law_turned_796bf394) h_l_law_turned_796bf394 h_c_law_turned_796bf394 h_k_law_turned_796bf394
  have F_law_kept_51dc22b8 := fun_mk (st := s_law_kept_51dc22b8) h_l_law_kept_51dc22b8 h_c_law_kept_51dc22b8 h_k_law_kept_51dc22b8
  have F_law_bfff741c := fun_mk (st := s_law_bfff741c) h_l_law_bfff741c h_c_law_bfff741c h_k_law_bfff741c
  let G : Gx := ⟨⟨lawPr, w, K⟩, C_PlayError, C_BadValue, C_BadText, C_Unknown, C_NoMove, C_Dyadic, 0, 0, 0, 0, 0, 0, 0, 0, 0, 0, 0, 0, 0, 0, 0, 0, 0⟩
  have T : ∃ A : Ad, Txt G mg A ∧ A.f_law_bfff741c = f_law_bfff741c ∧ A.fd_law_bfff741c = PySem.W.fnOf "law" "law" (defArgs s_law_bfff741c) (defBody s_law_bfff741c) (defScope s_law_bfff741c) .none kV_law_bfff741c dc_law_bfff741c pm_law_bfff741c an_law_bfff741c cd_law_bfff741c ct_law_bfff741c := ⟨⟨f_law_digits_b31862c4, _, f_law_cell_4bc9b38b, _, f_law_pair_638bb791, _, f_law_later_f3b91afa, _, f_law_less_0394b9ff, _, f_Dyadic_power, _, p_Dyadic_power, f_Dyadic_top, _, p_Dyadic_top, f_Dyadic_less, _, f_is_integer, _, f_reduced, _, f_Dyadic_init, _, f_Dyadic_neg, _, f_above, _, f_negated, _, f_simplest_between, _, f_law_refused_f6e51d19, _, f_law_bound_6b1178b8, _, f_law_is_integer_fcf59962, _, f_law_plain_d4e9bf06, _, f_law_simplest_728054c6, _, f_Dyadic_same, _, f_Dyadic_age, _, f_law_older_8e2363a4, _, f_law_turned_796bf394, _, f_law_kept_51dc22b8, _, f_law_bfff741c, _⟩, ⟨PySem.W.mg_of X G0 h_aC_Dyadic, ⟨h_pg_Dyadic, h_hd_Dyadic, h_po_Dyadic, h_sa_Dyadic⟩, ⟨⟨h_pg_Dyadic, h_hd_Dyadic, h_po_Dyadic, h_sa_Dyadic⟩, ⟨h_ha_Dyadic, h_hn_, h_htk_, h_mr_Dyadic⟩, fun _ h => (nomatch h), List.nodup_nil, by decide⟩, h_no_Dyadic__top, h_no_Dyadic__power, ⟨h_mk_Dyadic, h_a_Dyadic_init, h_i_Dyadic_init, h_kc_Dyadic⟩, PySem.W.mg_of X G0 h_aC_BadText, PySem.W.mg_of X G0 h_aC_BadValue, h_x_BadValue, h_k_BadValue, h_eb_BadValue, h_et_BadValue, PySem.W.mg_of X G0 h_aC_NoMove, PySem.W.mg_of X G0 h_aC_PlayError, PySem.W.mg_of X G0 h_aC_Unknown, ⟨⟨h_xg_BadValue, h_xk_BadValue, h_eb_BadValue, h_xd_BadValue, h_xa_BadValue, h_hn_, h_htk_, h_xm_BadValue⟩, PySem.W.exm_ref h_eb_PlayError h_xd_PlayError h_et_PlayError h_xs_BadValue_PlayError, PySem.W.exm_ref h_eb_BadValue h_xd_BadValue h_et_BadValue h_xs_BadValue_BadValue, kit_refT h_xd_PlayError h_et_PlayError h_xs_BadValue_PlayError, kit_refF h_xd_BadText h_et_BadText h_xs_BadValue_BadText h_xs_BadText_BadText, kit_refF h_xd_Unknown h_et_Unknown h_xs_BadValue_Unknown h_xs_Unknown_Unknown, kit_refF h_xd_NoMove h_et_NoMove h_xs_BadValue_NoMove h_xs_NoMove_NoMove, kit_tyT (by decide +kernel) h_xv_BadValue⟩, ⟨_, PySem.W.mg_of X G0 h_g_POWER_MOST⟩, ⟨_, PySem.W.mg_of X G0 h_g_TOP_MOST⟩, PySem.W.mg_none_of X G0 h_n_ValueError, PySem.W.mg_none_of X G0 h_n_abs, PySem.W.mg_none_of X G0 h_n_bool, PySem.W.mg_none_of X G0 h_n_int, PySem.W.mg_none_of X G0 h_n_isinstance, PySem.W.mg_none_of X G0 h_n_len, PySem.W.mg_none_of X G0 h_n_max, PySem.W.mg_none_of X G0 h_n_min, PySem.W.mg_none_of X G0 h_n_range, PySem.W.mg_of X G0 h_a_law_digits_b31862c4, F_law_digits_b31862c4, F_law_digits_b31862c4.binds (ps := ["_law_cell_here", "_law_count"]) fun _ _ _ _ _ _ us hl => match us, hl with | [_, _], _ => rfl, PySem.W.mg_of X G0 h_a_law_cell_4bc9b38b, F_law_cell_4bc9b38b, F_law_cell_4bc9b38b.binds (ps := ["_law_script", "_law_k"]) fun _ _ _ _ _ _ us hl => match us, hl with | [_, _], _ => rfl, PySem.W.mg_of X G0 h_a_law_pair_638bb791, F_law_pair_638bb791, F_law_pair_638bb791.binds (ps := ["_law_cell_here", "_law_shape"]) fun _ _ _ _ _ _ us hl => match us, hl with | [_, _], _ => rfl, PySem.W.mg_of X G0 h_a_law_later_f3b91afa, F_law_later_f3b91afa, F_law_later_f3b91afa.binds (ps := ["_law_pair_here", "_law_other", "_law_k", "_law_step"]) fun _ _ _ _ _ _ us hl => match us, hl with | [_, _, _, _], _ => rfl, PySem.W.mg_of X G0 h_a_law_less_0394b9ff, F_law_less_0394b9ff, F_law_less_0394b9ff.binds (ps := ["_law_first", "_law_second"]) fun _ _ _ _ _ _ us hl => match us, hl with | [_, _], _ => rfl, ⟨h_a_Dyadic_power, h_pget_Dyadic_power, h_ptak_Dyadic_power, ⟨_, h_prec_Dyadic_power⟩⟩, F_Dyadic_power, F_Dyadic_power.binds (ps := ["self"]) fun _ _ _ _ _ _ us hl => match us, hl with | [_], _ => rfl, ⟨h_a_Dyadic_top, h_pget_Dyadic_top, h_ptak_Dyadic_top, ⟨_, h_prec_Dyadic_top⟩⟩, F_Dyadic_top, F_Dyadic_top.binds (ps := ["self"]) fun _ _ _ _ _ _ us hl => match us, hl with | [_], _ => rfl, ⟨h_a_Dyadic_less, h_i_Dyadic_less, h_k_Dyadic_less⟩, F_Dyadic_less, F_Dyadic_less.binds (ps := ["self", "other"]) fun _ _ _ _ _ _ us hl => match us, hl with | [_, _], _ => rfl, PySem.W.mg_of X G0 h_a_is_integer, F_is_integer, F_is_integer.binds (ps := ["thing"]) fun _ _ _ _ _ _ us hl => match us, hl with | [_], _ => rfl, PySem.W.mg_of X G0 h_a_reduced, F_reduced, F_reduced.binds (ps := ["top", "power"]) fun _ _ _ _ _ _ us hl => match us, hl with | [_, _], _ => rfl, F_Dyadic_init, F_Dyadic_init.binds1 (ps := ["self", "top", "power"]) 2 0 (by decide) (by decide) fun _ _ _ _ _ _ _ us its hl hi => match us, hl, its, hi with | [_, _], _, [_], _ => ⟨_, rfl, rfl⟩, F_Dyadic_init.binds1 (ps := ["self", "top", "power"]) 3 1 (by decide) (by decide) fun _ _ _ _ _ _ _ us its hl hi => match us, hl, its, hi with | [_, _, _], _, [_], _ => ⟨_, rfl, rfl⟩, ⟨h_a_Dyadic_neg, h_i_Dyadic_neg, h_k_Dyadic_neg⟩, F_Dyadic_neg, F_Dyadic_neg.binds (ps := ["self"]) fun _ _ _ _ _ _ us hl => match us, hl with | [_], _ => rfl, PySem.W.mg_of X G0 h_a_above, F_above, F_above.binds (ps := ["low", "high"]) fun _ _ _ _ _ _ us hl => match us, hl with | [_, _], _ => rfl, PySem.W.mg_of X G0 h_a_negated, F_negated, F_negated.binds (ps := ["number"]) fun _ _ _ _ _ _ us hl => match us, hl with | [_], _ => rfl, PySem.W.mg_of X G0 h_a_simplest_between, F_simplest_between, F_simplest_between.binds (ps := ["low", "high"]) fun _ _ _ _ _ _ us hl => match us, hl with | [_, _], _ => rfl, PySem.W.mg_of X G0 h_a_law_refused_f6e51d19, F_law_refused_f6e51d19, F_law_refused_f6e51d19.binds (ps := ["_law_low", "_law_high"]) fun _ _ _ _ _ _ us hl => match us, hl with | [_, _], _ => rfl, PySem.W.mg_of X G0 h_a_law_bound_6b1178b8, F_law_bound_6b1178b8, F_law_bound_6b1178b8.binds (ps := ["_law_pair_here"]) fun _ _ _ _ _ _ us hl => match us, hl with | [_], _ => rfl, PySem.W.mg_of X G0 h_a_law_is_integer_fcf59962, F_law_is_integer_fcf59962, F_law_is_integer_fcf59962.binds (ps := ["_law_thing"]) fun _ _ _ _ _ _ us hl => match us, hl with | [_], _ => rfl, PySem.W.mg_of X G0 h_a_law_plain_d4e9bf06, F_law_plain_d4e9bf06, F_law_plain_d4e9bf06.binds (ps := ["_law_top", "_law_power"]) fun _ _ _ _ _ _ us hl => match us, hl with | [_, _], _ => rfl, PySem.W.mg_of X G0 h_a_law_simplest_728054c6, F_law_simplest_728054c6, F_law_simplest_728054c6.binds (ps := ["_law_found", "_law_low", "_law_high"]) fun _ _ _ _ _ _ us hl => match us, hl with | [_, _, _], _ => rfl, ⟨h_a_Dyadic_same, h_i_Dyadic_same, h_k_Dyadic_same⟩, F_Dyadic_same, F_Dyadic_same.binds (ps := ["self", "other"]) fun _ _ _ _ _ _ us hl => match us, hl with | [_, _], _ => rfl, ⟨h_a_Dyadic_age, h_i_Dyadic_age, h_k_Dyadic_age⟩, F_Dyadic_age, F_Dyadic_age.binds (ps := ["self"]) fun _ _ _ _ _ _ us hl => match us, hl with | [_], _ => rfl, PySem.W.mg_of X G0 h_a_law_older_8e2363a4, F_law_older_8e2363a4, F_law_older_8e2363a4.binds (ps := ["_law_found", "_law_third", "_law_low", "_law_high"]) fun _ _ _ _ _ _ us hl => match us, hl with | [_, _, _, _], _ => rfl, PySem.W.mg_of X G0 h_a_law_turned_796bf394, F_law_turned_796bf394, F_law_turned_796bf394.binds (ps := ["_law_pair_here"]) fun _ _ _ _ _ _ us hl => match us, hl with | [_], _ => rfl, PySem.W.mg_of X G0 h_a_law_kept_51dc22b8, F_law_kept_51dc22b8, F_law_kept_51dc22b8.binds (ps := ["_law_bound_here", "_law_pair_here"]) fun _ _ _ _ _ _ us hl => match us, hl with | [_, _], _ => rfl, PySem.W.mg_of X G0 h_a_law_bfff741c, F_law_bfff741c, F_law_bfff741c.binds (ps := ["_law_script"]) fun _ _ _ _ _ _ us hl => match us, hl with | [_], _ => rfl⟩, rfl, rfl⟩
  obtain ⟨A, T, e1, e2⟩ := T
  exact ⟨PySem.W.fnOf "law" "law" (defArgs s_law_bfff741c) (defBody s_law_bfff741c) (defScope s_law_bfff741c) .none kV_law_bfff741c dc_law_bfff741c pm_law_bfff741c an_law_bfff741c cd_law_bfff741c ct_law_bfff741c, fun s v => .of_eq rfl, fun base _ _ => by rw [← e1, ← e2]; exact ok_law_bfff741c (G := G) T⟩
theorem walk {l : PySem.W.OpenLaw} {q : Program} {loose : List Str} {XP : (Str → Option Value) → Heap → Prop} {YP : World → Heap → Prop} {d : DefRec} {K : Params → PySem.W.Frag} (hp : l.prog = lawPr) (hn : l.most = some 63) (hdf : d.params.defaults = [])
    (hY : ∀ (w : World) (h : Heap), YP w h → (K w.params).In h)
    (F : ∀ (w : World) (mg : Str → Option Value) (fa : Addr) (h : Heap), (K w.params).In h → h.Ns mainGlobals mg → mg d.name = some (.ref fa) → ∃ fd : FuncData, (∀ (s : Shared) (u : Value), BindsTo s fd ⟨[u], []⟩ [("_law_script", u)]) ∧ ∀ base : Heap, (K w.params).In base → base.Ns mainGlobals mg → FnOk lawPr w (K w.params) mg base (L2.CX lawPr w) 8 fa fd ["_law_script"] (liftSp ⟨lawPr, w, K w.params⟩ spLawT)) :
    PySem.W.WalkO q loose XP YP l.row.toRowW d [] (fun f vs => PySem.call f vs) := by
  rw [← hp] at F
  exact L2.walk_of (n := 63) (k := 8) (x := "_law_script") (CX := fun w => L2.CX l.prog w) (sp := fun w => liftSp ⟨l.prog, w, K w.params⟩ spLawT) hn (by decide) hdf ⟨rfl, by decide, by decide⟩ hY F (fun w H a ns hl _ hS => law_start (k := ⟨l.prog, w, K w.params⟩) hl hS) fun _ _ _ _ _ ⟨_, _, _, _, _, _, _, _, _, _, _, _, z⟩ => z
end AL
open PySem PySem.W PyProof.Rows
set_option maxRecDepth 100000 in
set_option maxHeartbeats 0 in
theorem PySem.Challenge.cw_sumsplay_k07_whole_simplest_between_holds : PySem.Challenge.rw_sumsplay_k07_whole_simplest_between.Holds := by
  w_on; o_law; k_head; (case hw => w_witness2)
  k_fill
  refine AL.walk (l := PySem.Challenge.rw_sumsplay_k07_whole_simplest_between) rfl rfl rfl (fun w h Y => PySem.W.kIn_of Y) ?F
  case F =>
    intro w mg fa h KX G hmg
    refine' AL.all_mk KX G hmg ?h_aC_Dyadic ?h_pg_Dyadic ?h_hd_Dyadic ?h_po_Dyadic ?h_sa_Dyadic ?h_ha_Dyadic ?h_mr_Dyadic ?h_kc_Dyadic ?h_no_Dyadic__top ?h_no_Dyadic__power ?h_mk_Dyadic ?h_hn_ ?h_htk_ ?h_aC_BadText ?h_aC_BadValue ?h_x_BadValue ?h_k_BadValue ?h_eb_BadValue ?h_et_BadValue ?h_aC_NoMove ?h_aC_PlayError ?h_aC_Unknown ?h_xg_BadValue ?h_xk_BadValue ?h_xa_BadValue ?h_xm_BadValue ?h_eb_PlayError ?h_xd_BadValue ?h_xs_BadValue_BadValue ?h_xd_PlayError ?h_et_PlayError ?h_xs_BadValue_PlayError ?h_xd_BadText ?h_et_BadText ?h_xs_BadValue_BadText ?h_xs_BadText_BadText ?h_xd_Unknown ?h_et_Unknown ?h_xs_BadValue_Unknown ?h_xs_Unknown_Unknown ?h_xd_NoMove ?h_et_NoMove ?h_xs_BadValue_NoMove ?h_xs_NoMove_NoMove ?h_xv_BadValue ?h_g_POWER_MOST ?h_g_TOP_MOST ?h_n_ValueError ?h_n_abs ?h_n_bool ?h_n_int ?h_n_isinstance ?h_n_len ?h_n_max ?h_n_min ?h_n_range ?h_a_law_digits_b31862c4 ?h_l_law_digits_b31862c4 ?h_c_law_digits_b31862c4 ?h_k_law_digits_b31862c4 ?h_a_law_cell_4bc9b38b ?h_l_law_cell_4bc9b38b ?h_c_law_cell_4bc9b38b ?h_k_law_cell_4bc9b38b ?h_a_law_pair_638bb791 ?h_l_law_pair_638bb791 ?h_c_law_pair_638bb791 ?h_k_law_pair_638bb791 ?h_a_law_later_f3b91afa ?h_l_law_later_f3b91afa ?h_c_law_later_f3b91afa ?h_k_law_later_f3b91afa ?h_a_law_less_0394b9ff ?h_l_law_less_0394b9ff ?h_c_law_less_0394b9ff ?h_k_law_less_0394b9ff ?h_a_Dyadic_power ?h_pget_Dyadic_power ?h_ptak_Dyadic_power ?h_prec_Dyadic_power ?h_l_Dyadic_power ?h_c_Dyadic_power ?h_k_Dyadic_power ?h_a_Dyadic_top ?h_pget_Dyadic_top ?h_ptak_Dyadic_top ?h_prec_Dyadic_top ?h_l_Dyadic_top ?h_c_Dyadic_top ?h_k_Dyadic_top ?h_a_Dyadic_less ?h_i_Dyadic_less ?h_l_Dyadic_less ?h_c_Dyadic_less ?h_k_Dyadic_less ?h_a_is_integer ?h_l_is_integer ?h_c_is_integer ?h_k_is_integer ?h_a_reduced ?h_l_reduced ?h_c_reduced ?h_k_reduced ?h_a_Dyadic_init ?h_i_Dyadic_init ?h_l_Dyadic_init ?h_c_Dyadic_init ?h_k_Dyadic_init ?h_lT_Dyadic_init ?h_a_Dyadic_neg ?h_i_Dyadic_neg ?h_l_Dyadic_neg ?h_c_Dyadic_neg ?h_k_Dyadic_neg ?h_a_above ?h_l_above ?h_c_above ?h_k_above ?h_a_negated ?h_l_negated ?h_c_negated ?h_k_negated ?h_a_simplest_between ?h_l_simplest_between ?h_c_simplest_between ?h_k_simplest_between ?h_a_law_refused_f6e51d19 ?h_l_law_refused_f6e51d19 ?h_c_law_refused_f6e51d19 ?h_k_law_refused_f6e51d19 ?h_a_law_bound_6b1178b8 ?h_l_law_bound_6b1178b8 ?h_c_law_bound_6b1178b8 ?h_k_law_bound_6b1178b8 ?h_a_law_is_integer_fcf59962 ?h_l_law_is_integer_fcf59962 ?h_c_law_is_integer_fcf59962 ?h_k_law_is_integer_fcf59962 ?h_a_law_plain_d4e9bf06 ?h_l_law_plain_d4e9bf06 ?h_c_law_plain_d4e9bf06 ?h_k_law_plain_d4e9bf06 ?h_a_law_simplest_728054c6 ?h_l_law_simplest_728054c6 ?h_c_law_simplest_728054c6 ?h_k_law_simplest_728054c6 ?h_a_Dyadic_same ?h_i_Dyadic_same ?h_l_Dyadic_same ?h_c_Dyadic_same ?h_k_Dyadic_same ?h_a_Dyadic_age ?h_i_Dyadic_age ?h_l_Dyadic_age ?h_c_Dyadic_age ?h_k_Dyadic_age ?h_a_law_older_8e2363a4 ?h_l_law_older_8e2363a4 ?h_c_law_older_8e2363a4 ?h_k_law_older_8e2363a4 ?h_a_law_turned_796bf394 ?h_l_law_turned_796bf394 ?h_c_law_turned_796bf394 ?h_k_law_turned_796bf394 ?h_a_law_kept_51dc22b8 ?h_l_law_kept_51dc22b8 ?h_c_law_kept_51dc22b8 ?h_k_law_kept_51dc22b8 ?h_a_law_bfff741c ?h_l_law_bfff741c ?h_c_law_bfff741c ?h_k_law_bfff741c
    (case h_aC_Dyadic => k_is)
    (case h_pg_Dyadic => k_is)
    (case h_hd_Dyadic => k_is)
    (case h_po_Dyadic => k_is)
    (case h_sa_Dyadic => k_is)
    (case h_ha_Dyadic => k_is)
    (case h_mr_Dyadic => k_is)
    (case h_kc_Dyadic => k_is)
    (case h_no_Dyadic__top => k_is)
    (case h_no_Dyadic__power => k_is)
    (case h_mk_Dyadic => k_is)
    (case h_hn_ => k_is)
    (case h_htk_ => k_is)
    (case h_aC_BadText => k_is)
    (case h_aC_BadValue => k_is)
    (case h_x_BadValue => k_exc)
    (case h_k_BadValue => k_is)
    (case h_eb_BadValue => k_is)
    (case h_et_BadValue => k_is)
    (case h_aC_NoMove => k_is)
    (case h_aC_PlayError => k_is)
    (case h_aC_Unknown => k_is)
    (case h_xg_BadValue => k_is)
    (case h_xk_BadValue => k_is)
    (case h_xa_BadValue => k_is)
    (case h_xm_BadValue => k_is)
    (case h_eb_PlayError => k_is)
    (case h_xd_BadValue => k_is)
    (case h_xs_BadValue_BadValue => k_is)
    (case h_xd_PlayError => k_is)
    (case h_et_PlayError => k_is)
    (case h_xs_BadValue_PlayError => k_is)
    (case h_xd_BadText => k_is)
    (case h_et_BadText => k_is)
    (case h_xs_BadValue_BadText => k_is)
    (case h_xs_BadText_BadText => k_is)
    (case h_xd_Unknown => k_is)
    (case h_et_Unknown => k_is)
    (case h_xs_BadValue_Unknown => k_is)
    (case h_xs_Unknown_Unknown => k_is)
    (case h_xd_NoMove => k_is)
    (case h_et_NoMove => k_is)
    (case h_xs_BadValue_NoMove => k_is)
    (case h_xs_NoMove_NoMove => k_is)
    (case h_xv_BadValue => k_is)
    (case h_g_POWER_MOST => k_is)
    (case h_g_TOP_MOST => k_is)
    (case h_n_ValueError => k_is)
    (case h_n_abs => k_is)
    (case h_n_bool => k_is)
    (case h_n_int => k_is)
    (case h_n_isinstance => k_is)
    (case h_n_len => k_is)
    (case h_n_max => k_is)
    (case h_n_min => k_is)
    (case h_n_range => k_is)
    (case h_a_law_digits_b31862c4 => k_is)
    (case h_l_law_digits_b31862c4 => k_is)
    (case h_c_law_digits_b31862c4 => k_is)
    (case h_k_law_digits_b31862c4 => k_is)
    (case h_a_law_cell_4bc9b38b => k_is)
    (case h_l_law_cell_4bc9b38b => k_is)
    (case h_c_law_cell_4bc9b38b => k_is)
    (case h_k_law_cell_4bc9b38b => k_is)
    (case h_a_law_pair_638bb791 => k_is)
    (case h_l_law_pair_638bb791 => k_is)
    (case h_c_law_pair_638bb791 => k_is)
    (case h_k_law_pair_638bb791 => k_is)
    (case h_a_law_later_f3b91afa => k_is)
    (case h_l_law_later_f3b91afa => k_is)
    (case h_c_law_later_f3b91afa => k_is)
    (case h_k_law_later_f3b91afa => k_is)
    (case h_a_law_less_0394b9ff => k_is)
    (case h_l_law_less_0394b9ff => k_is)
    (case h_c_law_less_0394b9ff => k_is)
    (case h_k_law_less_0394b9ff => k_is)
    (case h_a_Dyadic_power => k_is)
    (case h_pget_Dyadic_power => k_is)
    (case h_ptak_Dyadic_power => k_is)
    (case h_prec_Dyadic_power => k_is)
    (case h_l_Dyadic_power => k_is)
    (case h_c_Dyadic_power => k_is)
    (case h_k_Dyadic_power => k_is)
    (case h_a_Dyadic_top => k_is)
    (case h_pget_Dyadic_top => k_is)
    (case h_ptak_Dyadic_top => k_is)
    (case h_prec_Dyadic_top => k_is)
    (case h_l_Dyadic_top => k_is)
    (case h_c_Dyadic_top => k_is)
    (case h_k_Dyadic_top => k_is)
    (case h_a_Dyadic_less => k_is)
    (case h_i_Dyadic_less => k_is)
    (case h_l_Dyadic_less => k_is)
    (case h_c_Dyadic_less => k_is)
    (case h_k_Dyadic_less => k_is)
    (case h_a_is_integer => k_is)
    (case h_l_is_integer => k_is)
    (case h_c_is_integer => k_is)
    (case h_k_is_integer => k_is)
    (case h_a_reduced => k_is)
    (case h_l_reduced => k_is)
    (case h_c_reduced => k_is)
    (case h_k_reduced => k_is)
    (case h_a_Dyadic_init => k_is)
    (case h_i_Dyadic_init => k_is)
    (case h_l_Dyadic_init => k_is)
    (case h_c_Dyadic_init => k_is)
    (case h_k_Dyadic_init => k_is)
    (case h_lT_Dyadic_init => k_is)
    (case h_a_Dyadic_neg => k_is)
    (case h_i_Dyadic_neg => k_is)
    (case h_l_Dyadic_neg => k_is)
    (case h_c_Dyadic_neg => k_is)
    (case h_k_Dyadic_neg => k_is)
    (case h_a_above => k_is)
    (case h_l_above => k_is)
    (case h_c_above => k_is)
    (case h_k_above => k_is)
    (case h_a_negated => k_is)
    (case h_l_negated => k_is)
    (case h_c_negated => k_is)
    (case h_k_negated => k_is)
    (case h_a_simplest_between => k_is)
    (case h_l_simplest_between => k_is)
    (case h_c_simplest_between => k_is)
    (case h_k_simplest_between => k_is)
    (case h_a_law_refused_f6e51d19 => k_is)
    (case h_l_law_refused_f6e51d19 => k_is)
    (case h_c_law_refused_f6e51d19 => k_is)
    (case h_k_law_refused_f6e51d19 => k_is)
    (case h_a_law_bound_6b1178b8 => k_is)
    (case h_l_law_bound_6b1178b8 => k_is)
    (case h_c_law_bound_6b1178b8 => k_is)
    (case h_k_law_bound_6b1178b8 => k_is)
    (case h_a_law_is_integer_fcf59962 => k_is)
    (case h_l_law_is_integer_fcf59962 => k_is)
    (case h_c_law_is_integer_fcf59962 => k_is)
    (case h_k_law_is_integer_fcf59962 => k_is)
    (case h_a_law_plain_d4e9bf06 => k_is)
    (case h_l_law_plain_d4e9bf06 => k_is)
    (case h_c_law_plain_d4e9bf06 => k_is)
    (case h_k_law_plain_d4e9bf06 => k_is)
    (case h_a_law_simplest_728054c6 => k_is)
    (case h_l_law_simplest_728054c6 => k_is)
    (case h_c_law_simplest_728054c6 => k_is)
    (case h_k_law_simplest_728054c6 => k_is)
    (case h_a_Dyadic_same => k_is)
    (case h_i_Dyadic_same => k_is)
    (case h_l_Dyadic_same => k_is)
    (case h_c_Dyadic_same => k_is)
    (case h_k_Dyadic_same => k_is)
    (case h_a_Dyadic_age => k_is)
    (case h_i_Dyadic_age => k_is)
    (case h_l_Dyadic_age => k_is)
    (case h_c_Dyadic_age => k_is)
    (case h_k_Dyadic_age => k_is)
    (case h_a_law_older_8e2363a4 => k_is)
    (case h_l_law_older_8e2363a4 => k_is)
    (case h_c_law_older_8e2363a4 => k_is)
    (case h_k_law_older_8e2363a4 => k_is)
    (case h_a_law_turned_796bf394 => k_is)
    (case h_l_law_turned_796bf394 => k_is)
    (case h_c_law_turned_796bf394 => k_is)
    (case h_k_law_turned_796bf394 => k_is)
    (case h_a_law_kept_51dc22b8 => k_is)
    (case h_l_law_kept_51dc22b8 => k_is)
    (case h_c_law_kept_51dc22b8 => k_is)
    (case h_k_law_kept_51dc22b8 => k_is)
    (case h_a_law_bfff741c => k_is)
    (case h_l_law_bfff741c => k_is)
    (case h_c_law_bfff741c => k_is)
    (case h_k_law_bfff741c => k_is)
