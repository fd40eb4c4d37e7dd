import PyProof.Rows.All
import Wide.All
import OpenK.AllK
import Wide.FinOn
import HandS.Lambda
import KE.SortData
import KE.GoesNew
import HandS.ForMost
import HandS.ForExc
import HandS.More
import HandS.IsInst
import HandS.Evl
import HandS.Defaults
import HandS.HeadHook3
import HandS.Flow
import HandS.StrMore
import HandS.Walk
import HandS.TryOnly
import HandS.Wide
import HandS.RaiseMore
import HandS.Replace
import HandS.TupAny
import HandS.Ends
import HandS.HeadEnd
import PyProof.ReprRoads
import HandS.HotCalls
import HandS.ExcIs
import HandS.ExcOwn
import HandS.SuiteRaise
import HandS.HeadHook4
import HandS.HeadWalk
import HandS.ExcInitHot
import HandS.ExcInit
import HandS.ClsMeth
import HandS.DictComp
import KE.KStateDown
import HandS.Head0
import HandS.Head1
import HandS.Head2
import HandS.HeadHook1
import HandS.HeadHook2
import PySem.Challenge.RW_mappedselves_k86_what_is_no_text_of_a_de
set_option Elab.async false
set_option linter.all false
set_option maxRecDepth 100000
set_option maxHeartbeats 4000000
/-! Data, a store of what may change, and a calculus of wishes (from the left to the right) over both. -/
namespace G
open PySem PySem.Spec PyProof.Rows L2
abbrev Ex := Evl.Ex
/-! ### data -/
inductive Da where
  | non
  | bl (b : Bool)
  | int (i : Int)
  | str (x : Str)
  | lst (ds : List Da)
  | tup (ds : List Da)
  | obj (C : Addr) (fs : List (Nat × Da))
  | adr (a : Addr)
  | scr (ds : List Da)
  /-- a caught exception at a, of the class at D; .. whose dict at dx bears a line -/
  | exc (a D : Addr)
  | exl (a D dx : Addr) (ld : Da)
/-- the names of fields, by their places -/
def fn1 : List Str := ["rows", "above", "keeper", "inner", "outer", "back", "place", "trio", "is_strong", "marks", "times"]
def fn2 : List Str := ["chambers", "actors", "papers", "next_actor", "house", "done", "number", "others", "ranks", "inside", "held"]
def fn3 : List Str := ["numbers", "copy", "reach", "now", "real", "world", "deeds", "stands", "strongs", "lenders", "first", "last_name"]
def fnames : List Str := fn1 ++ (fn2 ++ fn3)
def fnm (i : Nat) : Str := fnames.getD i ""
theorem fnm_mem {i : Nat} (h : i < fnames.length) : fnm i ∈ fnames := by
  unfold fnm
  rw [List.getD_eq_getElem?_getD, List.getElem?_eq_getElem h]
  exact List.getElem_mem h
theorem fnm_inj0 : ∀ i < fnames.length, ∀ j < fnames.length, fnm i = fnm j → i = j := by decide +kernel
theorem fnm_inj {i j : Nat} (hi : i < fnames.length) (hj : j < fnames.length) (e : fnm i = fnm j) : i = j := fnm_inj0 i hi j hj e
/-- an own class whose instances are told apart from the built-in ones -/
structure ClsOk (K : PySem.W.Frag) (C : Addr) : Prop where
  cl : Cls K C
  ha : PySem.W.findIn K (.ref C) "__class__" = some (some (.builtin "object.__class__"))
  hn : PySem.W.specialIn K (.builtin "object.__class__") "__get__" = some (some (.builtin "getset_descriptor.__get__"))
  tk : PySem.W.takesIn K (.builtin "object.__class__") = some true
  hm : PySem.W.mroIn K C (.type "object") = some true
  kit : ∀ n ∈ ["int", "bool", "str", "list", "tuple"], PySem.W.kitOne K (.ref C) (.type n) = some false
  na : ∀ f ∈ fnames, NoAttr K C f
def clsB (K : PySem.W.Frag) (C : Addr) : Bool := He.eqO (PySem.W.findIn K (.ref C) "__class__") (some (some (.builtin "object.__class__"))) &&
  (He.eqO (PySem.W.specialIn K (.builtin "object.__class__") "__get__") (some (some (.builtin "getset_descriptor.__get__"))) &&
  (decide (PySem.W.takesIn K (.builtin "object.__class__") = some true) && (decide (PySem.W.mroIn K C (.type "object") = some true) && ((["int", "bool", "str", "list", "tuple"].all fun n => decide (PySem.W.kitOne K (.ref C) (.type n) = some false)) && fnames.all fun f => He.eqO (PySem.W.findIn K (.ref C) f) (some none)))))
theorem clsB_ok {K : PySem.W.Frag} {C : Addr} (c : Cls K C) (h : clsB K C = true) : ClsOk K C := by
  obtain ⟨h1, h⟩ := He.ba h
  obtain ⟨h2, h⟩ := He.ba h
  obtain ⟨h3, h⟩ := He.ba h
  obtain ⟨h4, h⟩ := He.ba h
  obtain ⟨h5, h6⟩ := He.ba h
  exact ⟨c, He.eqO_ok h1, He.eqO_ok h2, of_decide_eq_true h3, of_decide_eq_true h4, fun n hn => of_decide_eq_true (List.all_eq_true.mp h5 n hn), fun f hf => He.eqO_ok (List.all_eq_true.mp h6 f hf)⟩
mutual
inductive Dt (K : PySem.W.Frag) (H : Hp) : V → Da → Prop
  | non : Dt K H .non .non
  | bl (b : Bool) : Dt K H (.bl b) (.bl b)
  | int (i : Int) : Dt K H (.int i) (.int i)
  | str (x : Str) : Dt K H (.str x) (.str x)
  | lst {a : Addr} {xs : List V} {ds : List Da} (h : H a = some (.lst xs)) (r : DtAll K H xs ds) : Dt K H (.ref a) (.lst ds)
  | scr {a : Addr} {xs : List V} {ds : List Da} (h : SqL K H a xs) (r : DtAll K H xs ds) : Dt K H (.ref a) (.scr ds)
  | tup {a : Addr} {xs : List V} {ds : List Da} (h : SqT K H a xs) (r : DtAll K H xs ds) : Dt K H (.ref a) (.tup ds)
  | obj {a C dx : Addr} {fs : List (Str × V)} {gs : List (Nat × Da)} (h : H a = some (.ins C dx fs)) (r : DtF K H fs gs) (c : ClsOk K C) : Dt K H (.ref a) (.obj C gs)
  | adr (a : Addr) : Dt K H (.ref a) (.adr a)
  | exc (a D : Addr) : Dt K H (.ref a) (.exc a D)
  | exl {a D dx : Addr} {v : V} {ld : Da} (h : H dx = some (.xd [("line", v)])) (r : Dt K H v ld) : Dt K H (.ref a) (.exl a D dx ld)
inductive DtAll (K : PySem.W.Frag) (H : Hp) : List V → List Da → Prop
  | nil : DtAll K H [] []
  | cons {v : V} {d : Da} {vs : List V} {ds : List Da} (h : Dt K H v d) (r : DtAll K H vs ds) : DtAll K H (v :: vs) (d :: ds)
inductive DtF (K : PySem.W.Frag) (H : Hp) : List (Str × V) → List (Nat × Da) → Prop
  | nil : DtF K H [] []
  | cons {i : Nat} {v : V} {d : Da} {vs : List (Str × V)} {ds : List (Nat × Da)} (hi : i < fnames.length) (h : Dt K H v d) (r : DtF K H vs ds) : DtF K H ((fnm i, v) :: vs) ((i, d) :: ds)
end
/-- the values of a dict, by its keys -/
inductive DtK (K : PySem.W.Frag) (H : Hp) : List (Key × V) → List (Key × Da) → Prop
  | nil : DtK K H [] []
  | cons {x : Key} {v : V} {d : Da} {vs : List (Key × V)} {ds : List (Key × Da)} (h : Dt K H v d) (r : DtK K H vs ds) : DtK K H ((x, v) :: vs) ((x, d) :: ds)
section
variable {K : PySem.W.Frag} {H H' : Hp}
mutual
theorem Dt.ex (e : Ex H H') {v : V} {d : Da} : Dt K H v d → Dt K H' v d
  | .non => .non
  | .bl b => .bl b
  | .int i => .int i
  | .str x => .str x
  | .lst h r => .lst (e _ _ h) (DtAll.ex e r)
  | .scr h r => .scr (Evl.ex_l e h) (DtAll.ex e r)
  | .tup h r => .tup (Evl.ex_t e h) (DtAll.ex e r)
  | .obj h r c => .obj (e _ _ h) (DtF.ex e r) c
  | .adr a => .adr a
  | .exc a D => .exc a D
  | .exl h r => .exl (e _ _ h) (Dt.ex e r)
theorem DtAll.ex (e : Ex H H') {vs : List V} {ds : List Da} : DtAll K H vs ds → DtAll K H' vs ds
  | .nil => .nil
  | .cons h r => .cons (Dt.ex e h) (DtAll.ex e r)
theorem DtF.ex (e : Ex H H') {vs : List (Str × V)} {ds : List (Nat × Da)} : DtF K H vs ds → DtF K H' vs ds
  | .nil => .nil
  | .cons hi h r => .cons hi (Dt.ex e h) (DtF.ex e r)
end
theorem DtK.ex (e : Ex H H') {vs : List (Key × V)} {ds : List (Key × Da)} (h : DtK K H vs ds) : DtK K H' vs ds := by
  induction h with
  | nil => exact .nil
  | cons h r ih => exact .cons (h.ex e) ih
theorem DtAll.len {vs : List V} {ds : List Da} (h : DtAll K H vs ds) : vs.length = ds.length := by
  induction vs generalizing ds with
  | nil => cases h; rfl
  | cons v vs ih => cases h with | cons h r => simp [ih r]
theorem DtAll.get {vs : List V} {ds : List Da} (h : DtAll K H vs ds) {i : Nat} {d : Da} (e : ds[i]? = some d) : ∃ v, vs[i]? = some v ∧ Dt K H v d := by
  induction vs generalizing ds i with
  | nil => cases h; simp at e
  | cons v vs ih =>
    cases h with
    | cons h r =>
      cases i with
      | zero => simp at e; subst e; exact ⟨v, by simp, h⟩
      | succ i => simpa using ih r (by simpa using e)
theorem DtAll.getV {vs : List V} {ds : List Da} (h : DtAll K H vs ds) {i : Nat} {v : V} (e : vs[i]? = some v) : ∃ d, ds[i]? = some d ∧ Dt K H v d := by
  induction vs generalizing ds i with
  | nil => simp at e
  | cons u vs ih =>
    cases h with
    | cons h r =>
      cases i with
      | zero => simp at e; subst e; exact ⟨_, by simp, h⟩
      | succ i => simpa using ih r (by simpa using e)
theorem DtAll.append {vs us : List V} {ds es : List Da} (h : DtAll K H vs ds) (r : DtAll K H us es) : DtAll K H (vs ++ us) (ds ++ es) := by
  induction vs generalizing ds with
  | nil => cases h; exact r
  | cons v vs ih => cases h with | cons h q => exact .cons h (ih q)
theorem DtAll.take {vs : List V} {ds : List Da} (n : Nat) (h : DtAll K H vs ds) : DtAll K H (vs.take n) (ds.take n) := by
  induction vs generalizing ds n with
  | nil => cases h; simp; exact .nil
  | cons v vs ih => cases h with | cons h q => cases n with
    | zero => exact .nil
    | succ n => exact .cons h (ih n q)
theorem DtAll.drop {vs : List V} {ds : List Da} (n : Nat) (h : DtAll K H vs ds) : DtAll K H (vs.drop n) (ds.drop n) := by
  induction vs generalizing ds n with
  | nil => cases h; simp; exact .nil
  | cons v vs ih => cases h with | cons h q => cases n with
    | zero => exact .cons h q
    | succ n => exact ih n q
theorem DtAll.set {vs : List V} {ds : List Da} (n : Nat) {v : V} {d : Da} (p : Dt K H v d) (h : DtAll K H vs ds) : DtAll K H (vs.set n v) (ds.set n d) := by
  induction vs generalizing ds n with
  | nil => cases h; exact .nil
  | cons u vs ih => cases h with | cons h q => cases n with
    | zero => exact .cons p q
    | succ n => exact .cons h (ih n q)
theorem DtF.look {fs : List (Str × V)} {gs : List (Nat × Da)} (r : DtF K H fs gs) {j : Nat} (hj : j < fnames.length) : match gs.lookup j with
    | some d => ∃ v, fs.lookup (fnm j) = some v ∧ Dt K H v d
    | none => fs.lookup (fnm j) = none := by
  induction fs generalizing gs with
  | nil => cases r; rfl
  | cons q fs ih =>
    cases r with
    | @cons i v d _ ds hi h r =>
      by_cases c : j = i
      · subst c
        simp only [List.lookup, beq_self_eq_true]
        exact ⟨v, rfl, h⟩
      · have e : (j == i) = false := by simpa using c
        have e2 : (fnm j == fnm i) = false := by simpa using fun z => c (fnm_inj hj hi z)
        simp only [List.lookup, e, e2]
        exact ih r
theorem DtF.nolook {fs : List (Str × V)} {gs : List (Nat × Da)} (r : DtF K H fs gs) {f : Str} (hf : f ∉ fnames) : fs.lookup f = none := by
  induction fs generalizing gs with
  | nil => cases r; rfl
  | cons q fs ih =>
    cases r with
    | @cons i v d _ ds hi h r =>
      have e2 : (f == fnm i) = false := by simpa using fun z => hf (by rw [z]; exact fnm_mem hi)
      simp only [List.lookup, e2]
      exact ih r
/-- a field stored, by data -/
def putD (f : Nat) (d : Da) : List (Nat × Da) → List (Nat × Da)
  | [] => [(f, d)]
  | (x, e) :: r => match Nat.beq x f with
    | true => (x, d) :: r
    | false => (x, e) :: putD f d r
theorem DtF.put {fs : List (Str × V)} {gs : List (Nat × Da)} {f : Nat} (hf : f < fnames.length) {v : V} {d : Da} (p : Dt K H v d) (r : DtF K H fs gs) : DtF K H (putF (fnm f) v fs) (putD f d gs) := by
  induction fs generalizing gs with
  | nil => cases r; exact .cons hf p .nil
  | cons q fs ih =>
    cases r with
    | @cons x u e _ ds hx h r =>
      unfold putD
      show DtF K H (if fnm x = fnm f then (fnm x, v) :: fs else (fnm x, u) :: putF (fnm f) v fs) _
      by_cases c : x = f
      · subst c
        rw [if_pos rfl]
        split
        · exact .cons hf p r
        · rename_i z
          have : Nat.beq x x = true := Nat.beq_refl x
          rw [this] at z
          cases z
      · rw [if_neg (fun z => c (fnm_inj hx hf z))]
        split
        · rename_i z
          exact absurd (Nat.eq_of_beq_eq_true z) c
        · exact .cons hx h (ih r)
theorem DtF.len {fs : List (Str × V)} {gs : List (Nat × Da)} (r : DtF K H fs gs) : fs.length = gs.length := by
  induction fs generalizing gs with
  | nil => cases r; rfl
  | cons v vs ih => cases r with | cons hi h r => simp [ih r]
theorem DtK.len {fs : List (Key × V)} {gs : List (Key × Da)} (r : DtK K H fs gs) : fs.length = gs.length := by
  induction r with
  | nil => rfl
  | cons h r ih => simp [ih]
mutual
/-- as the library's data -/
def py : Da → Option PyData
  | .non => some .none
  | .bl b => some (.bool b)
  | .int i => some (.int i)
  | .str x => some (.str x)
  | .lst ds => (pys ds).map .list
  | .tup ds => (pys ds).map .tuple
  | .obj _ _ => none
  | .adr _ => none
  | .scr _ => none
  | .exc _ _ => none
  | .exl _ _ _ _ => none
def pys : List Da → Option (List PyData)
  | [] => some []
  | d :: ds => match py d, pys ds with
    | some x, some xs => some (x :: xs)
    | _, _ => none
end
theorem pys_cons {d : Da} {ds : List Da} {xs : List PyData} (h : pys (d :: ds) = some xs) : ∃ y ys, py d = some y ∧ pys ds = some ys ∧ xs = y :: ys := by
  simp only [pys] at h
  split at h
  · rename_i y ys a b
    exact ⟨y, ys, a, b, (Option.some.inj h).symm⟩
  · cases h
mutual
theorem Dt.dp {v : V} {d : Da} {p : PyData} (n : py d = some p) : Dt K H v d → L2.Dp K H v p
  | .non => by simp [py] at n; subst n; exact .non
  | .bl b => by simp [py] at n; subst n; exact .bl b
  | .int i => by simp [py] at n; subst n; exact .int i
  | .str x => by simp [py] at n; subst n; exact .str x
  | .lst (ds := ds) h r => by
    simp only [py, Option.map_eq_some_iff] at n
    obtain ⟨ps, e, rfl⟩ := n
    exact .lst (Evl.sq_of h) (DtAll.dp e r)
  | .tup (ds := ds) h r => by
    simp only [py, Option.map_eq_some_iff] at n
    obtain ⟨ps, e, rfl⟩ := n
    exact .tup h (DtAll.dp e r)
  | .obj h r c => by simp [py] at n
  | .adr a => by simp [py] at n
  | .scr h r => by simp [py] at n
  | .exc a D => by simp [py] at n
  | .exl h r => by simp [py] at n
theorem DtAll.dp {vs : List V} {ds : List Da} {ps : List PyData} (n : pys ds = some ps) : DtAll K H vs ds → L2.DpAll K H vs ps
  | .nil => by simp [pys] at n; subst n; exact .nil
  | .cons h r => by
    obtain ⟨y, ys, e1, e2, rfl⟩ := pys_cons n
    exact .cons (Dt.dp e1 h) (DtAll.dp e2 r)
end
end
/-! ### the store: what may change, at known places -/
inductive Cell where
  | lst (ds : List Da)
  | ins (C : Addr) (fs : List (Nat × Da))
  | dct (kvs : List (Key × Da))
  | dcl (kvs : List (Key × Da))
  /-- a table of code objects of the name q -/
  | tbl (q : Str)
abbrev Sto := Addr → Option Cell
@[irreducible] def Sto.put (m : Sto) (a : Addr) (c : Cell) : Sto := fun p => if p = a then some c else m p
@[irreducible] def Sto.del (m : Sto) (a : Addr) : Sto := fun p => if p = a then none else m p
theorem Sto.put_same {m : Sto} {a : Addr} {c : Cell} : m.put a c a = some c := by simp [Sto.put]
theorem Sto.put_ne {m : Sto} {a b : Addr} {c : Cell} (h : b ≠ a) : m.put a c b = m b := by simp [Sto.put, h]
theorem Sto.del_same {m : Sto} {a : Addr} : m.del a a = none := by simp [Sto.del]
theorem Sto.del_ne {m : Sto} {a b : Addr} (h : b ≠ a) : m.del a b = m b := by simp [Sto.del, h]
def CellIs (K : PySem.W.Frag) (I : Hp) : Cell → HO → Prop
  | .lst ds, o => ∃ xs, o = .lst xs ∧ DtAll K I xs ds
  | .ins C gs, o => ∃ dx fs, o = .ins C dx fs ∧ DtF K I fs gs ∧ ClsOk K C
  | .dct kvs, o => ∃ us, o = .dK us ∧ DtK K I us kvs
  | .dcl kvs, o => ∃ od us, o = .frz od (.dK us) ∧ DtK K I us kvs
  | .tbl q, o => ∃ ps : Array Value, o = .tbl ps ∧ TriplesOk ps.toList ∧ ∀ (pos : Pos) (cv : Value), codeAmong pos ps.toList = some cv → ∃ c, cv = .ref c ∧ I c = some (LamX.CodeO c q)
/-- I: what is known to stay; m: what is known and may change; H: the heap -/
structure SM (K : PySem.W.Frag) (I : Hp) (m : Sto) (H : Hp) : Prop where
  ex : Ex I H
  st : ∀ a c, m a = some c → I a = none ∧ ∃ o, H a = some o ∧ CellIs K I c o
  nt : ∀ p ps, I p ≠ some (.tbl ps)
/-- what may be known late -/
def Lo (o : HO) : Prop := (∃ fs, o = .xd fs) ∨ ∃ φ, o = .ext φ
/-- nothing, or a table of code objects -/
def Fr0 (H : Hp) (p : Addr) : Prop := H p = none ∨ ∃ ps, H p = some (.tbl ps)
theorem fr0_ne {H : Hp} {p : Addr} {o : HO} (h : H p = some o) (hx : ∀ ps, o ≠ .tbl ps) : ¬ Fr0 H p := by
  rintro (z | ⟨ps, z⟩)
  · rw [h] at z; cases z
  · rw [h] at z; exact hx ps (Option.some.inj z)
theorem fr0_upd {H : Hp} {p q : Addr} {o : HO} (hx : ∀ ps, o ≠ .tbl ps) (h : ¬ Fr0 H q) : ¬ Fr0 (upd H p o) q := by
  by_cases z : q = p
  · subst z; exact fr0_ne upd_same hx
  · intro y; unfold Fr0 at y; rw [upd_ne z] at y; exact h y
structure Go (K : PySem.W.Frag) (H I : Hp) (m : Sto) (H' I' : Hp) (m' : Sto) : Prop where
  ei : Ex I I'
  fr : ∀ p o, H p = some o → m p = none → (∀ ps, o ≠ .tbl ps) → H' p = some o
  dom : ∀ p, ¬ Fr0 H p → ¬ Fr0 H' p
  gn : ∀ p o, I' p = some o → I p = some o ∨ Fr0 H p ∨ m p ≠ none ∨ Lo o
  mn : ∀ p, m' p ≠ none → m p ≠ none ∨ Fr0 H p
  sm : SM K I' m' H'
section
variable {K : PySem.W.Frag} {H H' H1 H2 H3 I I1 I2 I3 J : Hp} {m m1 m2 m3 : Sto} {σ : L2.St}
theorem none_of {H H1 : Hp} (e : Ex H H1) {p : Addr} (h : H1 p = none) : H p = none := Evl.fresh_back e h
theorem CellIs.ex {c : Cell} {o : HO} (e : Ex I J) (h : CellIs K I c o) : CellIs K J c o := by
  cases c with
  | lst ds => obtain ⟨xs, a, b⟩ := h; exact ⟨xs, a, b.ex e⟩
  | ins C fs => obtain ⟨dx, gs, a, b, c⟩ := h; exact ⟨dx, gs, a, b.ex e, c⟩
  | dct kvs => obtain ⟨us, a, b⟩ := h; exact ⟨us, a, b.ex e⟩
  | dcl kvs => obtain ⟨od, us, a, b⟩ := h; exact ⟨od, us, a, b.ex e⟩
  | tbl q =>
    obtain ⟨ps, a, b, c⟩ := h
    exact ⟨ps, a, b, fun pos cv hc => by obtain ⟨x, e1, e2⟩ := c pos cv hc; exact ⟨x, e1, e _ _ e2⟩⟩
theorem SM.in_ (s : SM K I m H) {a : Addr} (h : m a ≠ none) : H a ≠ none := by
  cases e : m a with
  | none => exact absurd e h
  | some c =>
    obtain ⟨_, o, q, _⟩ := s.st a c e
    rw [q]
    exact nofun
theorem SM.free (s : SM K I m H) {a : Addr} (h : H a = none) : m a = none := by
  cases e : m a with
  | none => rfl
  | some c =>
    obtain ⟨_, o, q, _⟩ := s.st a c e
    rw [h] at q
    cases q
theorem SM.inone (s : SM K I m H) {a : Addr} (h : H a = none) : I a = none := none_of s.ex h
theorem Go.refl (s : SM K I m H) : Go K H I m H I m := ⟨Evl.Ex.refl _, fun _ _ h _ _ => h, fun _ h => h, fun _ _ h => .inl h, fun _ h => .inl h, s⟩
theorem Go.trans (g : Go K H1 I1 m1 H2 I2 m2) (k : Go K H2 I2 m2 H3 I3 m3) : Go K H1 I1 m1 H3 I3 m3 where
  ei := g.ei.trans k.ei
  fr := fun p o h n t => k.fr p o (g.fr p o h n t) (by
    cases e : m2 p with
    | none => rfl
    | some c =>
      rcases g.mn p (by rw [e]; exact nofun) with z | z
      · exact absurd n z
      · exact absurd z (fr0_ne h t)) t
  dom := fun p h => k.dom p (g.dom p h)
  gn := fun p o h => by
    rcases k.gn p o h with z | z | z | z
    · exact g.gn p o z
    · exact .inr (.inl (Classical.byContradiction fun y => g.dom p y z))
    · rcases g.mn p z with z | z
      · exact .inr (.inr (.inl z))
      · exact .inr (.inl z)
    · exact .inr (.inr (.inr z))
  mn := fun p h => by
    rcases k.mn p h with z | z
    · exact g.mn p z
    · exact .inr (Classical.byContradiction fun y => g.dom p y z)
  sm := k.sm
/-- a new object that stays -/
theorem Go.new (s : SM K I m H) {p : Addr} {o : HO} (h : H p = none) (hx : ∀ ps, o ≠ .tbl ps := by intro _ z; cases z) : Go K H I m (upd H p o) (upd I p o) m := by
  have hI := s.inone h
  have eI : Ex I (upd I p o) := Evl.Ex.new hI
  refine ⟨eI, fun q u e _ _ => ?_, fun q e => ?_, fun q u e => ?_, fun q e => .inl e, fun q u e => ?_, fun a c e => ?_, fun q ps e => ?_⟩
  · rw [upd_ne (ne_of_none e h)]; exact e
  · exact fr0_upd hx e
  · by_cases z : q = p
    · subst z; exact .inr (.inl (.inl h))
    · rw [upd_ne z] at e; exact .inl e
  · by_cases z : q = p
    · subst z; rw [upd_same] at e ⊢; exact e
    · rw [upd_ne z] at e ⊢; exact s.ex q u e
  · obtain ⟨a1, u, a2, a3⟩ := s.st a c e
    have ne : a ≠ p := ne_of_none a2 h
    exact ⟨by rw [upd_ne ne]; exact a1, u, by rw [upd_ne ne]; exact a2, a3.ex eI⟩
  · by_cases z : q = p
    · subst z; rw [upd_same] at e; exact hx ps (Option.some.inj e)
    · rw [upd_ne z] at e; exact s.nt q ps e
/-- a new object that may change -/
theorem Go.put (s : SM K I m H) {p : Addr} {o : HO} {c : Cell} (h : H p = none) (hc : CellIs K I c o) (hx : ∀ ps, o ≠ .tbl ps := by intro _ z; cases z) : Go K H I m (upd H p o) I (m.put p c) := by
  refine ⟨Evl.Ex.refl _, fun q u e _ _ => ?_, fun q e => ?_, fun q u e => .inl e, fun q e => ?_, fun q u e => ?_, fun a c' e => ?_, s.nt⟩
  · rw [upd_ne (ne_of_none e h)]; exact e
  · exact fr0_upd hx e
  · by_cases z : q = p
    · subst z; exact .inr (.inl h)
    · rw [Sto.put_ne z] at e; exact .inl e
  · by_cases z : q = p
    · subst z; rw [s.inone h] at e; cases e
    · rw [upd_ne z]; exact s.ex q u e
  · by_cases z : a = p
    · subst z
      rw [Sto.put_same] at e
      cases e
      exact ⟨s.inone h, o, upd_same, hc⟩
    · rw [Sto.put_ne z] at e
      obtain ⟨a1, u, a2, a3⟩ := s.st a c' e
      exact ⟨a1, u, by rw [upd_ne z]; exact a2, a3⟩
/-- an object of the store changed -/
theorem Go.mut (s : SM K I m H) {p : Addr} {o : HO} {c c0 : Cell} (h : m p = some c0) (hc : CellIs K I c o) (hx : ∀ ps, o ≠ .tbl ps := by intro _ z; cases z) : Go K H I m (upd H p o) I (m.put p c) := by
  have hp : I p = none := (s.st p c0 h).1
  refine ⟨Evl.Ex.refl _, fun q u e n _ => ?_, fun q e => ?_, fun q u e => .inl e, fun q e => ?_, fun q u e => ?_, fun a c' e => ?_, s.nt⟩
  · have z : q ≠ p := fun z => by rw [z, h] at n; cases n
    rw [upd_ne z]; exact e
  · exact fr0_upd hx e
  · by_cases z : q = p
    · subst z; exact .inl (by rw [h]; exact nofun)
    · rw [Sto.put_ne z] at e; exact .inl e
  · have z : q ≠ p := fun z => by rw [z, hp] at e; cases e
    rw [upd_ne z]; exact s.ex q u e
  · by_cases z : a = p
    · subst z
      rw [Sto.put_same] at e
      cases e
      exact ⟨hp, o, upd_same, hc⟩
    · rw [Sto.put_ne z] at e
      obtain ⟨a1, u, a2, a3⟩ := s.st a c' e
      exact ⟨a1, u, by rw [upd_ne z]; exact a2, a3⟩
/-- what a cell is as data -/
def Cell.da : Cell → Option Da
  | .lst ds => some (.lst ds)
  | .ins C fs => some (.obj C fs)
  | _ => none
/-- an object of the store stays from now on -/
theorem Go.frz (s : SM K I m H) {p : Addr} {c : Cell} {d : Da} (h : m p = some c) (hd : c.da = some d) : ∃ J, Go K H I m H J (m.del p) ∧ Dt K J (.ref p) d := by
  obtain ⟨hp, o, ho, hc⟩ := s.st p c h
  have eJ : Ex I (upd I p o) := Evl.Ex.new hp
  refine ⟨upd I p o, ⟨eJ, fun q u e n _ => e, fun q e => e, fun q u e => ?_, fun q e => ?_, fun q u e => ?_, fun a c' e => ?_, fun q ps e => ?_⟩, ?_⟩
  · by_cases z : q = p
    · subst z; exact .inr (.inr (.inl (by rw [h]; exact nofun)))
    · rw [upd_ne z] at e; exact .inl e
  · by_cases z : q = p
    · subst z; rw [Sto.del_same] at e; exact absurd rfl e
    · rw [Sto.del_ne z] at e; exact .inl e
  · by_cases z : q = p
    · subst z; rw [upd_same] at e; rw [← e]; exact ho
    · rw [upd_ne z] at e; exact s.ex q u e
  · by_cases z : a = p
    · subst z; rw [Sto.del_same] at e; cases e
    · rw [Sto.del_ne z] at e
      obtain ⟨a1, u, a2, a3⟩ := s.st a c' e
      exact ⟨by rw [upd_ne z]; exact a1, u, a2, a3.ex eJ⟩
  · by_cases z : q = p
    · subst z
      rw [upd_same] at e
      cases e
      cases c with
      | lst ds => obtain ⟨_, z, _⟩ := hc; cases z
      | ins C fs => obtain ⟨_, _, z, _⟩ := hc; cases z
      | _ => cases hd
    · rw [upd_ne z] at e; exact s.nt q ps e
  · cases c with
    | lst ds => cases hd; obtain ⟨xs, rfl, r⟩ := hc; exact .lst upd_same (r.ex eJ)
    | ins C fs => cases hd; obtain ⟨dx, gs, rfl, r, cc⟩ := hc; exact .obj upd_same (r.ex eJ) cc
    | dct kvs => cases hd
    | dcl kvs => cases hd
    | tbl q => cases hd
/-- the heap grown alone -/
theorem Go.grow (s : SM K I m H) (e : Ex H H') : Go K H I m H' I m := ⟨Evl.Ex.refl _, fun p o h _ _ => e p o h, fun p h => by
    cases q : H p with
    | none => exact absurd (.inl q) h
    | some o => exact fr0_ne (e p o q) fun ps z => h (.inr ⟨ps, by rw [q, z]⟩), fun _ _ h => .inl h, fun _ h => .inl h, s.ex.trans e, fun a c h => by
    obtain ⟨a1, u, a2, a3⟩ := s.st a c h
    exact ⟨a1, u, e _ _ a2, a3⟩, s.nt⟩
end
/-! ### slots -/
abbrev Sd := List (Option Da)
structure SL (K : PySem.W.Frag) (I : Hp) (σ : L2.St) (δ : Sd) : Prop where
  len : δ.length = σ.length
  da : ∀ (i : Nat) (d : Da), δ[i]? = some (some d) → ∃ v, σ[i]? = some (some v) ∧ Dt K I v d
section
variable {K : PySem.W.Frag} {σ : L2.St} {I J : Hp} {δ : Sd} {i : Nat} {v : V} {d : Da}
theorem SL.ex (s : SL K I σ δ) (e : Ex I J) : SL K J σ δ := ⟨s.len, fun i d h => by
  obtain ⟨v, a, b⟩ := s.da i d h
  exact ⟨v, a, b.ex e⟩⟩
theorem SL.set (s : SL K I σ δ) (hi : i < δ.length) {t : Option Da} (ht : ∀ d, t = some d → Dt K I v d) : SL K I (σ.set i (some v)) (δ.set i t) := by
  have hl : i < σ.length := by rw [← s.len]; exact hi
  refine ⟨by simp [s.len], fun j d h => ?_⟩
  by_cases c : j = i
  · subst c
    rw [List.getElem?_set_self hi] at h
    exact ⟨v, List.getElem?_set_self hl, ht d (Option.some.inj h)⟩
  · rw [List.getElem?_set_ne (Ne.symm c)] at h
    obtain ⟨w, a, b⟩ := s.da j d h
    exact ⟨w, by rw [List.getElem?_set_ne (Ne.symm c)]; exact a, b⟩
/-- a slot known otherwise -/
theorem SL.retype (s : SL K I σ δ) {d' : Da} (h : δ[i]? = some (some d)) (n : ∀ v, Dt K I v d → Dt K I v d') : SL K I σ (δ.set i (some d')) := by
  have hi : i < δ.length := (List.getElem?_eq_some_iff.mp h).1
  obtain ⟨v, a, b⟩ := s.da i d h
  refine ⟨by simp [s.len], fun j e h' => ?_⟩
  by_cases c : j = i
  · subst c
    rw [List.getElem?_set_self hi] at h'
    cases Option.some.inj h'
    exact ⟨v, a, n v b⟩
  · rw [List.getElem?_set_ne (Ne.symm c)] at h'
    exact s.da j e h'
end
/-! ### judgements -/
variable {K : PySem.W.Frag}
/-- what is raised: an own class, and the line that it bears, if it bears one -/
abbrev Xn := Str × Option Da
def XE (K : PySem.W.Frag) (E : XK) : Xn → Hp → Hp → Prop
  | (c, none), H, _ => E (.ref (He.ga K c)) none H
  | (c, some d), H, I => ∀ dx v, H dx = some (.xd [("line", v)]) → Dt K I v d → E (.ref (He.ga K c)) (some dx) H
/-- an expression: from slots δ and store m it gives data d and a store m' of Φ, or raises an own class of Ψ -/
def DE (K : PySem.W.Frag) (E : XK) (te : TE) (δ : Sd) (m : Sto) (Φ : Da → Sto → Prop) (Ψ : Xn → Sto → Prop) : Prop := ∀ σ H I, SM K I m H → SL K I σ δ → ∀ Q : VK, (∀ v H' I' d m', Go K H I m H' I' m' → Dt K I' v d → Φ d m' → Q v H') →
  (∀ x H' I' m', Go K H I m H' I' m' → Ψ x m' → XE K E x H' I') → te σ H Q
def DT (K : PySem.W.Frag) (E : XK) (tt : TT) (δ : Sd) (m : Sto) (Φ : Bool → Sto → Prop) (Ψ : Xn → Sto → Prop) : Prop := ∀ σ H I, SM K I m H → SL K I σ δ → ∀ Q : Bool → Hp → Prop, (∀ b H' I' m', Go K H I m H' I' m' → Φ b m' → Q b H') →
  (∀ x H' I' m', Go K H I m H' I' m' → Ψ x m' → XE K E x H' I') → tt σ H Q
def DEA (K : PySem.W.Frag) (E : XK) (ta : TA) (δ : Sd) (m : Sto) (Φ : List Da → Sto → Prop) (Ψ : Xn → Sto → Prop) : Prop := ∀ σ H I, SM K I m H → SL K I σ δ → ∀ Q : List V → Hp → Prop, (∀ vs H' I' ds m', Go K H I m H' I' m' → DtAll K I' vs ds → Φ ds m' → Q vs H') →
  (∀ x H' I' m', Go K H I m H' I' m' → Ψ x m' → XE K E x H' I') → ta σ H Q
/-- an operation on two values, by data -/
def RD (K : PySem.W.Frag) (r : R2) (d1 d2 : Da) (m : Sto) (Φ : Da → Sto → Prop) : Prop := ∀ x y H I, SM K I m H → Dt K I x d1 → Dt K I y d2 → ∀ Q : VK, (∀ v H' I' d m', Go K H I m H' I' m' → Dt K I' v d → Φ d m' → Q v H') → r x y H Q
def RCD (K : PySem.W.Frag) (r : List V → Hp → VK → Prop) (ds : List Da) (m : Sto) (Φ : Da → Sto → Prop) : Prop := ∀ vs H I, SM K I m H → DtAll K I vs ds → ∀ Q : VK, (∀ v H' I' d m', Go K H I m H' I' m' → Dt K I' v d → Φ d m' → Q v H') → r vs H Q
abbrev Nk := Sd → Sto → Prop
abbrev Rk := Da → Sto → Prop
abbrev Xk := Xn → Sto → Prop
def DS (K : PySem.W.Frag) (E : XK) (t : TS) (δ : Sd) (m : Sto) (PN : Nk) (PR : Rk) (PX : Xk) (PB PC : Nk) : Prop := ∀ σ H I (D : Ends), SM K I m H → SL K I σ δ →
  (∀ σ' H' I' δ' m', Go K H I m H' I' m' → SL K I' σ' δ' → PN δ' m' → D.nx σ' H') → (∀ v H' I' d m', Go K H I m H' I' m' → Dt K I' v d → PR d m' → D.rt v H') →
  (∀ σ' H' I' δ' m', Go K H I m H' I' m' → SL K I' σ' δ' → PB δ' m' → D.bk σ' H') → (∀ σ' H' I' δ' m', Go K H I m H' I' m' → SL K I' σ' δ' → PC δ' m' → D.ct σ' H') →
  (∀ x H' I' m', Go K H I m H' I' m' → PX x m' → XE K E x H' I') → t D σ H
section
variable {E : XK} {δ : Sd} {m : Sto} {te ta tb tc : TE} {tA tr : TA} {d d1 d2 : Da} {ds es : List Da} {tt uu : TT} {Φ : Da → Sto → Prop} {Ψ : Xn → Sto → Prop} {Φb : Bool → Sto → Prop} {Φs : List Da → Sto → Prop}
/-! expressions -/
theorem de_var {i : Nat} (h : δ[i]? = some (some d)) (k : Φ d m) : DE K E (tVar i) δ m Φ Ψ := fun σ H I s l Q kq kx => by
  obtain ⟨v, h1, h2⟩ := l.da i d h
  exact ⟨v, h1, kq v H I d m (Go.refl s) h2 k⟩
theorem de_c {v : V} (h : ∀ H, Dt K H v d) (k : Φ d m) : DE K E (tC v) δ m Φ Ψ := fun σ H I s l Q kq kx => kq v H I d m (Go.refl s) (h I) k
theorem de_int {i : Int} (k : Φ (.int i) m) : DE K E (tC (.int i)) δ m Φ Ψ := de_c (fun _ => .int i) k
theorem de_str {x : Str} (k : Φ (.str x) m) : DE K E (tC (.str x)) δ m Φ Ψ := de_c (fun _ => .str x) k
theorem de_bl {b : Bool} (k : Φ (.bl b) m) : DE K E (tC (.bl b)) δ m Φ Ψ := de_c (fun _ => .bl b) k
theorem de_non (k : Φ .non m) : DE K E (tC .non) δ m Φ Ψ := de_c (fun _ => .non) k
theorem de_imp {Φ' : Da → Sto → Prop} {Ψ' : Xn → Sto → Prop} (h : DE K E te δ m Φ' Ψ') (k : ∀ d m', Φ' d m' → Φ d m') (kx : ∀ x m', Ψ' x m' → Ψ x m') : DE K E te δ m Φ Ψ := fun σ H I s l Q q x =>
  h σ H I s l Q (fun v H' I' d m' g p f => q v H' I' d m' g p (k d m' f)) fun y H' I' m' g f => x y H' I' m' g (kx y m' f)
theorem de_nil (k : Φs [] m) : DEA K E tNil δ m Φs Ψ := fun σ H I s l Q kq kx => kq [] H I [] m (Go.refl s) .nil k
theorem de_cons (h : DE K E te δ m (fun d m1 => DEA K E tr δ m1 (fun ds m2 => Φs (d :: ds) m2) Ψ) Ψ) : DEA K E (tCons te tr) δ m Φs Ψ := fun σ H I s l Q kq kx =>
  h σ H I s l _ (fun v H1 I1 d m1 g p f => f σ H1 I1 g.sm (l.ex g.ei) _ (fun vs H2 I2 ds m2 g2 ps f2 => kq (v :: vs) H2 I2 (d :: ds) m2 (g.trans g2) (.cons (p.ex g2.ei) ps) f2) fun x H2 I2 m2 g2 f2 => kx x H2 I2 m2 (g.trans g2) f2) kx
theorem de_tup (h : DEA K E tA δ m (fun ds m1 => ds.length ≤ 100000 ∧ Φ (.tup ds) m1) Ψ) : DE K E (tTup tA) δ m Φ Ψ := fun σ H I s l Q kq kx =>
  h σ H I s l _ (fun vs H1 I1 ds m1 g p f => ⟨Evl.sz_of (by rw [p.len]; exact f.1), fun a ha => by
    have gn := Go.new (o := .tup vs) g.sm ha
    exact kq (.ref a) _ _ _ m1 (g.trans gn) (.tup (Evl.st_of upd_same) (p.ex gn.ei)) f.2⟩) kx
/-- [..]: a list that stays -/
theorem de_lst (h : DEA K E tA δ m (fun ds m1 => ds.length ≤ 100000 ∧ Φ (.lst ds) m1) Ψ) : DE K E (tLst tA) δ m Φ Ψ := fun σ H I s l Q kq kx =>
  h σ H I s l _ (fun vs H1 I1 ds m1 g p f => ⟨Evl.sz_of (by rw [p.len]; exact f.1), fun a ha => by
    have gn := Go.new (o := .lst vs) g.sm ha
    exact kq (.ref a) _ _ _ m1 (g.trans gn) (.lst upd_same (p.ex gn.ei)) f.2⟩) kx
/-- [..]: a list that may change -/
theorem de_lstM (h : DEA K E tA δ m (fun ds m1 => ds.length ≤ 100000 ∧ ∀ a, m1 a = none → Φ (.adr a) (m1.put a (.lst ds))) Ψ) : DE K E (tLst tA) δ m Φ Ψ := fun σ H I s l Q kq kx =>
  h σ H I s l _ (fun vs H1 I1 ds m1 g p f => ⟨Evl.sz_of (by rw [p.len]; exact f.1), fun a ha => 
    kq (.ref a) _ _ _ _ (g.trans (Go.put (c := .lst ds) g.sm ha ⟨vs, rfl, p⟩)) (.adr a) (f.2 a (g.sm.free ha))⟩) kx
theorem de_op {r : R2} (h : DE K E ta δ m (fun d1 m1 => DE K E tb δ m1 (fun d2 m2 => RD K r d1 d2 m2 Φ) Ψ) Ψ) : DE K E (tOp r ta tb) δ m Φ Ψ := fun σ H I s l Q kq kx =>
  h σ H I s l _ (fun x H1 I1 d1 m1 g px f => f σ H1 I1 g.sm (l.ex g.ei) _ (fun y H2 I2 d2 m2 g2 py f2 =>
    f2 x y H2 I2 g2.sm (px.ex g2.ei) py Q fun v H3 I3 d m3 g3 p f3 => kq v H3 I3 d m3 ((g.trans g2).trans g3) p f3) fun x H2 I2 m2 g2 f2 => kx x H2 I2 m2 (g.trans g2) f2) kx
theorem rd_sc {r : R2} {z : V} (hz : ∀ H, Dt K H z d) (h : ∀ x y H I, SM K I m H → Dt K I x d1 → Dt K I y d2 → ∀ Q : VK, Q z H → r x y H Q) (k : Φ d m) : RD K r d1 d2 m Φ := fun x y H I s hx hy Q kq => h x y H I s hx hy Q (kq z H I d m (Go.refl s) (hz I) k)
theorem rd_I0 {g : Int → Int → V} {i j : Int} (h : ∀ H, Dt K H (g i j) d) (k : Φ d m) : RD K (rI0 g) (.int i) (.int j) m Φ := rd_sc h (fun x y H I s hx hy Q k => by
  cases hx; cases hy
  exact ⟨i, j, rfl, rfl, k⟩) k
theorem rd_I {C : Int → Int → Prop} {g : Int → Int → V} {i j : Int} (hc : C i j) (h : ∀ H, Dt K H (g i j) d) (k : Φ d m) : RD K (rI C g) (.int i) (.int j) m Φ := rd_sc h (fun x y H I s hx hy Q k => by
  cases hx; cases hy
  exact ⟨i, j, rfl, rfl, hc, k⟩) k
theorem rd_add {i j : Int} (k : Φ (.int (i + j)) m) : RD K (rI0 fun i j => .int (i + j)) (.int i) (.int j) m Φ := rd_I0 (fun _ => .int _) k
theorem rd_sub {i j : Int} (k : Φ (.int (i - j)) m) : RD K (rI0 fun i j => .int (i - j)) (.int i) (.int j) m Φ := rd_I0 (fun _ => .int _) k
theorem rd_lt {i j : Int} (k : Φ (.bl (decide (i < j))) m) : RD K (rI0 fun i j => .bl (decide (i < j))) (.int i) (.int j) m Φ := rd_I0 (fun _ => .bl _) k
theorem rd_le {i j : Int} (k : Φ (.bl (decide (i ≤ j))) m) : RD K (rI0 fun i j => .bl (decide (i ≤ j))) (.int i) (.int j) m Φ := rd_I0 (fun _ => .bl _) k
theorem rd_gt {i j : Int} (k : Φ (.bl (decide (j < i))) m) : RD K (rI0 fun i j => .bl (decide (j < i))) (.int i) (.int j) m Φ := rd_I0 (fun _ => .bl _) k
theorem rd_ge {i j : Int} (k : Φ (.bl (decide (j ≤ i))) m) : RD K (rI0 fun i j => .bl (decide (j ≤ i))) (.int i) (.int j) m Φ := rd_I0 (fun _ => .bl _) k
theorem rd_mul {i j : Int} (h : CMul i j ∧ Φ (.int (i * j)) m) : RD K (rI CMul fun i j => .int (i * j)) (.int i) (.int j) m Φ := rd_I h.1 (fun _ => .int _) h.2
theorem rd_fdiv {i j : Int} (h : CDiv i j ∧ Φ (.int (i / j)) m) : RD K (rI CDiv fun i j => .int (i / j)) (.int i) (.int j) m Φ := rd_I h.1 (fun _ => .int _) h.2
theorem rd_mod {i j : Int} (h : 0 < j ∧ Φ (.int (i % j)) m) : RD K (rI (fun _ j => 0 < j) fun i j => .int (i % j)) (.int i) (.int j) m Φ := rd_I h.1 (fun _ => .int _) h.2
/-- scalars -/
def sca : Da → Option V
  | .non => some .non
  | .bl b => some (.bl b)
  | .int i => some (.int i)
  | .str x => some (.str x)
  | _ => none
theorem Dt.sca {H : Hp} {v u : V} (h : Dt K H v d) (e : sca d = some u) : v = u := by
  cases h <;> simp [G.sca] at e <;> exact e
theorem sca_dt {v : V} (e : sca d = some v) (H : Hp) : Dt K H v d := by
  cases d <;> simp [G.sca] at e <;> subst e <;> constructor
theorem rd_eqV {x y : V} (h1 : sca d1 = some x) (h2 : sca d2 = some y) (hs : scal x y = true) (k : Φ (.bl (decide (x = y))) m) : RD K rEq d1 d2 m Φ := rd_sc (fun _ => .bl _) (fun u v H I s hx hy Q k => by
  rw [hx.sca h1, hy.sca h2]
  exact ⟨hs, k⟩) k
theorem rd_neV {x y : V} (h1 : sca d1 = some x) (h2 : sca d2 = some y) (hs : scal x y = true) (k : Φ (.bl (!decide (x = y))) m) : RD K rNe d1 d2 m Φ := rd_sc (fun _ => .bl _) (fun u v H I s hx hy Q k => by
  rw [hx.sca h1, hy.sca h2]
  exact ⟨hs, k⟩) k
theorem rd_eqI {i j : Int} (k : Φ (.bl (decide (i = j))) m) : RD K rEq (.int i) (.int j) m Φ := by
  have e : decide (V.int i = V.int j) = decide (i = j) := by simp
  exact rd_eqV rfl rfl rfl (by rw [e]; exact k)
theorem rd_neI {i j : Int} (k : Φ (.bl (!decide (i = j))) m) : RD K rNe (.int i) (.int j) m Φ := by
  have e : decide (V.int i = V.int j) = decide (i = j) := by simp
  exact rd_neV rfl rfl rfl (by rw [e]; exact k)
theorem rd_eqS {x y : Str} (k : Φ (.bl (decide (x = y))) m) : RD K rEq (.str x) (.str y) m Φ := by
  have e : decide (V.str x = V.str y) = decide (x = y) := by simp
  exact rd_eqV rfl rfl rfl (by rw [e]; exact k)
theorem rd_neS {x y : Str} (k : Φ (.bl (!decide (x = y))) m) : RD K rNe (.str x) (.str y) m Φ := by
  have e : decide (V.str x = V.str y) = decide (x = y) := by simp
  exact rd_neV rfl rfl rfl (by rw [e]; exact k)
/-- == of data -/
theorem rd_eqD {p1 p2 : PyData} (h1 : py d1 = some p1) (h2 : py d2 = some p2) (s1 : SeqAt.shaped p1 = true) (s2 : SeqAt.shaped p2 = true) (k : Φ (.bl (PyData.eqv p1 p2)) m) : RD K (rEqD K) d1 d2 m Φ := rd_sc (fun _ => .bl _) (fun u v H I s hx hy Q k =>
  ⟨p1, p2, (hx.ex s.ex).dp h1, (hy.ex s.ex).dp h2, s1, s2, k⟩) k
theorem rd_neD {p1 p2 : PyData} (h1 : py d1 = some p1) (h2 : py d2 = some p2) (s1 : SeqAt.shaped p1 = true) (s2 : SeqAt.shaped p2 = true) (k : Φ (.bl (!PyData.eqv p1 p2)) m) : RD K (rNeD K) d1 d2 m Φ := rd_sc (fun _ => .bl _) (fun u v H I s hx hy Q k =>
  ⟨p1, p2, (hx.ex s.ex).dp h1, (hy.ex s.ex).dp h2, s1, s2, k⟩) k
/-- x is None -/
def isN : Da → Bool
  | .non => true
  | _ => false
theorem Dt.isN {H : Hp} {v : V} (h : Dt K H v d) : decide (v = .non) = isN d := by cases h <;> rfl
theorem rd_isN (k : Φ (.bl (isN d)) m) : RD K (fun x y H Q => y = .non ∧ Q (.bl (decide (x = .non))) H) d .non m Φ := rd_sc (fun _ => .bl _) (fun u v H I s hx hy Q k => by
  cases hy
  exact ⟨rfl, by rw [hx.isN]; exact k⟩) k
theorem rd_notN (k : Φ (.bl (!isN d)) m) : RD K (fun x y H Q => y = .non ∧ Q (.bl (!decide (x = .non))) H) d .non m Φ := rd_sc (fun _ => .bl _) (fun u v H I s hx hy Q k => by
  cases hy
  exact ⟨rfl, by rw [hx.isN]; exact k⟩) k
/-! items -/
def atD {α : Type} (ds : List α) (i : Int) : Option α := (ixN ds.length i).bind fun j => ds[j]?
theorem atD_nat {α : Type} {ds : List α} {j : Nat} {d : α} (h : ds[j]? = some d) : atD ds (j : Int) = some d := atI_nat h
theorem atI_atD {H : Hp} {vs : List V} {ds : List Da} {i : Int} (r : DtAll K H vs ds) (e : atD ds i = some d) : ∃ v, atI vs i = some v ∧ Dt K H v d := by
  unfold atD at e
  unfold atI
  rw [r.len]
  cases q : ixN ds.length i with
  | none => rw [q] at e; cases e
  | some j =>
    rw [q] at e
    obtain ⟨v, h1, h2⟩ := r.get (i := j) (d := d) e
    exact ⟨v, h1, h2⟩
theorem rd_ixT {ds : List Da} {i : Int} (h : ∃ d, atD ds i = some d ∧ Φ d m) : RD K (rIxT K) (.tup ds) (.int i) m Φ := fun x y H I s hx hy Q k => by
  obtain ⟨d, e, f⟩ := h
  cases hy
  cases hx with
  | tup h r =>
    obtain ⟨v, h1, h2⟩ := atI_atD r e
    exact ⟨_, _, i, v, rfl, rfl, Evl.ex_t s.ex h, h1, k v H I d m (Go.refl s) h2 f⟩
theorem rd_ixL {ds : List Da} {i : Int} (h : ∃ d, atD ds i = some d ∧ Φ d m) : RD K (rIxL K) (.lst ds) (.int i) m Φ := fun x y H I s hx hy Q k => by
  obtain ⟨d, e, f⟩ := h
  cases hy
  cases hx with
  | lst h r =>
    obtain ⟨v, h1, h2⟩ := atI_atD r e
    exact ⟨_, _, i, v, rfl, rfl, Evl.sq_of (s.ex _ _ h), h1, k v H I d m (Go.refl s) h2 f⟩
theorem rd_ixR {ds : List Da} {i : Int} (h : ∃ d, atD ds i = some d ∧ Φ d m) : RD K (rIxL K) (.scr ds) (.int i) m Φ := fun x y H I s hx hy Q k => by
  obtain ⟨d, e, f⟩ := h
  cases hy
  cases hx with
  | scr h r =>
    obtain ⟨v, h1, h2⟩ := atI_atD r e
    exact ⟨_, _, i, v, rfl, rfl, Evl.ex_l s.ex h, h1, k v H I d m (Go.refl s) h2 f⟩
theorem SM.lst {H I : Hp} (s : SM K I m H) {a : Addr} (h : m a = some (.lst ds)) : ∃ xs, H a = some (.lst xs) ∧ DtAll K I xs ds := by
  obtain ⟨_, o, h1, xs, rfl, h2⟩ := s.st a _ h
  exact ⟨xs, h1, h2⟩
theorem SM.ins {H I : Hp} (s : SM K I m H) {a C : Addr} {gs : List (Nat × Da)} (h : m a = some (.ins C gs)) : ∃ dx fs, H a = some (.ins C dx fs) ∧ DtF K I fs gs ∧ ClsOk K C := by
  obtain ⟨_, o, h1, dx, fs, rfl, h2, h3⟩ := s.st a _ h
  exact ⟨dx, fs, h1, h2, h3⟩
theorem SM.dct {H I : Hp} (s : SM K I m H) {a : Addr} {kvs : List (Key × Da)} (h : m a = some (.dct kvs)) : ∃ us, H a = some (.dK us) ∧ DtK K I us kvs := by
  obtain ⟨_, o, h1, us, rfl, h2⟩ := s.st a _ h
  exact ⟨us, h1, h2⟩
theorem rd_ixM {a : Addr} {ds : List Da} {i : Int} (hm : m a = some (.lst ds)) (h : ∃ d, atD ds i = some d ∧ Φ d m) : RD K (rIxL K) (.adr a) (.int i) m Φ := fun x y H I s hx hy Q k => by
  obtain ⟨d, e, f⟩ := h
  cases hy
  cases hx
  obtain ⟨xs, h1, r⟩ := s.lst hm
  obtain ⟨v, h2, h3⟩ := atI_atD r e
  exact ⟨a, xs, i, v, rfl, rfl, Evl.sq_of h1, h2, k v H I d m (Go.refl s) h3 f⟩
/-! tests -/
theorem dt_of (h : DE K E te δ m (fun d m1 => ∃ b, d = .bl b ∧ Φb b m1) Ψ) : DT K E (tTest te) δ m Φb Ψ := fun σ H I s l Q kq kx => h σ H I s l _ (fun v H' I' d m' g p f => by
  obtain ⟨b, rfl, f⟩ := f
  cases p
  exact ⟨b, rfl, kq b H' I' m' g f⟩) kx
theorem dt_B (h : DE K E te δ m (fun d m1 => ∃ b, d = .bl b ∧ Φb b m1) Ψ) : DT K E (tB te) δ m Φb Ψ := fun σ H I s l Q kq kx => h σ H I s l _ (fun v H' I' d m' g p f => by
  obtain ⟨b, rfl, f⟩ := f
  cases p
  exact ⟨b, rfl, kq b H' I' m' g f⟩) kx
theorem dt_not (h : DT K E tt δ m (fun b m1 => Φb (!b) m1) Ψ) : DT K E (tNot tt) δ m Φb Ψ := fun σ H I s l Q kq kx => h σ H I s l _ (fun b H' I' m' g f => kq _ H' I' m' g f) kx
theorem dt_and (h : DT K E tt δ m (fun b m1 => if b = true then DT K E uu δ m1 Φb Ψ else Φb false m1) Ψ) : DT K E (tAnd tt uu) δ m Φb Ψ := fun σ H I s l Q kq kx => h σ H I s l _ (fun b H' I' m' g f => by
  cases b with
  | true => 
    rw [if_pos rfl] at f
    show uu σ H' Q
    exact f σ H' I' g.sm (l.ex g.ei) Q (fun b H2 I2 m2 g2 f2 => kq b H2 I2 m2 (g.trans g2) f2) fun x H2 I2 m2 g2 f2 => kx x H2 I2 m2 (g.trans g2) f2
  | false => exact kq _ H' I' m' g (by rw [if_neg (by decide)] at f; exact f)) kx
theorem dt_or (h : DT K E tt δ m (fun b m1 => if b = true then Φb true m1 else DT K E uu δ m1 Φb Ψ) Ψ) : DT K E (tOr tt uu) δ m Φb Ψ := fun σ H I s l Q kq kx => h σ H I s l _ (fun b H' I' m' g f => by
  cases b with
  | false => 
    rw [if_neg (by decide)] at f
    show uu σ H' Q
    exact f σ H' I' g.sm (l.ex g.ei) Q (fun b H2 I2 m2 g2 f2 => kq b H2 I2 m2 (g.trans g2) f2) fun x H2 I2 m2 g2 f2 => kx x H2 I2 m2 (g.trans g2) f2
  | true => exact kq _ H' I' m' g (by rw [if_pos rfl] at f; exact f)) kx
/-- truth by data -/
def truD (m : Sto) : Da → Option Bool
  | .non => some false
  | .bl b => some b
  | .int i => some (i != 0)
  | .str x => if x.length ≤ sizeLine then some ((x.length : Int) != 0) else none
  | .lst ds => some (!ds.isEmpty)
  | .tup ds => some (!ds.isEmpty)
  | .obj _ _ => none
  | .scr _ => none
  | .exc _ _ => none
  | .exl _ _ _ _ => none
  | .adr a => match m a with
    | some (.lst ds) => some (!ds.isEmpty)
    | some (.dct kvs) => some (!kvs.isEmpty)
    | _ => none
theorem DtAll.emp {H : Hp} {xs : List V} (r : DtAll K H xs ds) : xs.isEmpty = ds.isEmpty := by
  cases r <;> rfl
theorem DtK.emp {H : Hp} {xs : List (Key × V)} {kvs : List (Key × Da)} (r : DtK K H xs kvs) : xs.isEmpty = kvs.isEmpty := by
  cases r <;> rfl
theorem tru_of {H I : Hp} (s : SM K I m H) {v : V} {b : Bool} (p : Dt K I v d) (e : truD m d = some b) : TruV K v H b := by
  cases p with
  | non => cases e; rfl
  | bl b => cases e; rfl
  | int i => cases e; rfl
  | str x =>
    simp only [truD] at e
    split at e
    · rename_i h; cases e; exact ⟨h, rfl⟩
    · cases e
  | lst h r => cases e; exact .inl ⟨_, Evl.sq_of (s.ex _ _ h), by rw [r.emp]⟩
  | scr h r => cases e
  | exc a D => cases e
  | exl h r => cases e
  | tup h r => cases e; exact .inr (.inl ⟨_, Evl.ex_t s.ex h, by rw [r.emp]⟩)
  | obj h r c => cases e
  | adr a =>
    simp only [truD] at e
    split at e
    · rename_i ds hm
      obtain ⟨xs, h1, r⟩ := s.lst hm
      cases e
      exact .inl ⟨xs, Evl.sq_of h1, by rw [r.emp]⟩
    · rename_i kvs hm
      obtain ⟨us, h1, r⟩ := s.dct hm
      cases e
      exact .inr (.inr ⟨us, h1, by rw [r.emp]⟩)
    · cases e
theorem dt_tru (h : DE K E te δ m (fun d m1 => ∃ b, truD m1 d = some b ∧ Φb b m1) Ψ) : DT K E (fun σ H Q => te σ H fun x H' => ∃ k, TruV K x H' k ∧ Q k H') δ m Φb Ψ := fun σ H I s l Q kq kx => h σ H I s l _ (fun v H' I' d m' g p f => by
  obtain ⟨b, e, f⟩ := f
  exact ⟨b, tru_of g.sm p e, kq b H' I' m' g f⟩) kx
theorem de_and (h : DE K E ta δ m (fun d m1 => ∃ b, d = .bl b ∧ if b = true then DE K E tb δ m1 Φ Ψ else Φ (.bl false) m1) Ψ) : DE K E (tAndV ta tb) δ m Φ Ψ := fun σ H I s l Q kq kx => h σ H I s l _ (fun v H' I' d m' g p f => by
  obtain ⟨b, rfl, f⟩ := f
  cases p
  refine ⟨b, rfl, ?_⟩
  cases b with
  | true => 
    rw [if_pos rfl] at f
    exact f σ H' I' g.sm (l.ex g.ei) Q (fun b H2 I2 d m2 g2 p f2 => kq b H2 I2 d m2 (g.trans g2) p f2) fun x H2 I2 m2 g2 f2 => kx x H2 I2 m2 (g.trans g2) f2
  | false => exact kq _ H' I' _ m' g (.bl false) (by rw [if_neg (by decide)] at f; exact f)) kx
theorem de_or (h : DE K E ta δ m (fun d m1 => ∃ b, d = .bl b ∧ if b = true then Φ (.bl true) m1 else DE K E tb δ m1 Φ Ψ) Ψ) : DE K E (tOrV ta tb) δ m Φ Ψ := fun σ H I s l Q kq kx => h σ H I s l _ (fun v H' I' d m' g p f => by
  obtain ⟨b, rfl, f⟩ := f
  cases p
  refine ⟨b, rfl, ?_⟩
  cases b with
  | false => 
    rw [if_neg (by decide)] at f
    exact f σ H' I' g.sm (l.ex g.ei) Q (fun b H2 I2 d m2 g2 p f2 => kq b H2 I2 d m2 (g.trans g2) p f2) fun x H2 I2 m2 g2 f2 => kx x H2 I2 m2 (g.trans g2) f2
  | true => exact kq _ H' I' _ m' g (.bl true) (by rw [if_pos rfl] at f; exact f)) kx
theorem de_not (h : DE K E ta δ m (fun d m1 => ∃ b, d = .bl b ∧ Φ (.bl (!b)) m1) Ψ) : DE K E (tNotV ta) δ m Φ Ψ := fun σ H I s l Q kq kx => h σ H I s l _ (fun v H' I' d m' g p f => by
  obtain ⟨b, rfl, f⟩ := f
  cases p
  exact ⟨b, rfl, kq _ H' I' _ m' g (.bl _) f⟩) kx
theorem de_ife (h : DT K E tt δ m (fun b m1 => if b = true then DE K E ta δ m1 Φ Ψ else DE K E tb δ m1 Φ Ψ) Ψ) : DE K E (tIf tt ta tb) δ m Φ Ψ := fun σ H I s l Q kq kx => h σ H I s l _ (fun b H' I' m' g f => by
  cases b with
  | true =>
    rw [if_pos rfl] at f
    show ta σ H' Q
    exact f σ H' I' g.sm (l.ex g.ei) Q (fun b H2 I2 d m2 g2 p f2 => kq b H2 I2 d m2 (g.trans g2) p f2) fun x H2 I2 m2 g2 f2 => kx x H2 I2 m2 (g.trans g2) f2
  | false =>
    rw [if_neg (by decide)] at f
    show tb σ H' Q
    exact f σ H' I' g.sm (l.ex g.ei) Q (fun b H2 I2 d m2 g2 p f2 => kq b H2 I2 d m2 (g.trans g2) p f2) fun x H2 I2 m2 g2 f2 => kx x H2 I2 m2 (g.trans g2) f2) kx
/-- a chain of two comparisons -/
theorem de_chain {r r' : R2} (h : DE K E ta δ m (fun d1 m1 => DE K E tb δ m1 (fun d2 m2 => RD K r d1 d2 m2 fun d m3 => ∃ b, d = .bl b ∧ if b = true then DE K E tc δ m3 (fun d3 m4 => RD K r' d2 d3 m4 Φ) Ψ else Φ (.bl false) m3) Ψ) Ψ) : DE K E (tChain r r' ta tb tc) δ m Φ Ψ := fun σ H I s l Q kq kx =>
  h σ H I s l _ (fun x H1 I1 d1 m1 g px f => f σ H1 I1 g.sm (l.ex g.ei) _ (fun y H2 I2 d2 m2 g2 py f2 =>
    f2 x y H2 I2 g2.sm (px.ex g2.ei) py _ fun z H3 I3 d m3 g3 p f3 => by
      obtain ⟨b, rfl, f3⟩ := f3
      cases p
      refine ⟨b, rfl, ?_⟩
      have g13 := (g.trans g2).trans g3
      cases b with
      | true =>
        rw [if_pos rfl] at f3
        exact f3 σ H3 I3 g3.sm (l.ex g13.ei) _ (fun u H4 I4 d3 m4 g4 pu f4 => f4 y u H4 I4 g4.sm (py.ex (g3.ei.trans g4.ei)) pu Q fun v H5 I5 d5 m5 g5 pv f5 => kq v H5 I5 d5 m5 ((g13.trans g4).trans g5) pv f5) fun x H4 I4 m4 g4 f4 => kx x H4 I4 m4 (g13.trans g4) f4
      | false =>
        rw [if_neg (by decide)] at f3
        exact kq _ H3 I3 _ m3 g13 (.bl false) f3) fun x H2 I2 m2 g2 f2 => kx x H2 I2 m2 (g.trans g2) f2) kx
/-! objects -/
/-- the fields of an object, that stays or not -/
def fldsD (m : Sto) : Da → Option (Addr × List (Nat × Da))
  | .obj C gs => some (C, gs)
  | .adr a => match m a with
    | some (.ins C gs) => some (C, gs)
    | _ => none
  | _ => none
theorem flds_of {H I : Hp} (s : SM K I m H) {v : V} {C : Addr} {gs : List (Nat × Da)} (p : Dt K I v d) (e : fldsD m d = some (C, gs)) : ∃ a dx fs, v = .ref a ∧ H a = some (.ins C dx fs) ∧ DtF K I fs gs ∧ ClsOk K C := by
  cases p with
  | obj h r c => cases e; exact ⟨_, _, _, rfl, s.ex _ _ h, r, c⟩
  | adr a =>
    simp only [fldsD] at e
    split at e
    · rename_i C' gs' hm
      cases e
      obtain ⟨dx, fs, h1, r, c⟩ := s.ins hm
      exact ⟨a, dx, fs, rfl, h1, r, c⟩
    · cases e
  | _ => cases e
theorem de_fld {f : Nat} (hf : f < fnames.length) (h : DE K E te δ m (fun d m1 => ∃ C gs d', fldsD m1 d = some (C, gs) ∧ gs.lookup f = some d' ∧ Φ d' m1) Ψ) : DE K E (tFld K te (fnm f)) δ m Φ Ψ := fun σ H I s l Q kq kx => h σ H I s l _ (fun v H' I' d m' g p q => by
  obtain ⟨C, gs, d', e1, e2, k⟩ := q
  obtain ⟨a, dx, fs, rfl, h1, r, c⟩ := flds_of g.sm p e1
  have lk := r.look hf
  rw [e2] at lk
  obtain ⟨u, u1, u2⟩ := lk
  exact ⟨a, C, dx, fs, u, rfl, h1, c.cl, c.na _ (fnm_mem hf), u1, kq u H' I' d' m' g u2 k⟩) kx
/-! calls -/
theorem de_cb {r : List V → Hp → VK → Prop} (h : DEA K E tA δ m (fun ds m1 => RCD K r ds m1 Φ) Ψ) : DE K E (tCB r tA) δ m Φ Ψ := fun σ H I s l Q kq kx => h σ H I s l _ (fun vs H' I' ds m' g p f => f vs H' I' g.sm p Q fun v H2 I2 d m2 g2 pv f2 => kq v H2 I2 d m2 (g.trans g2) pv f2) kx
theorem rcd_sc {r : List V → Hp → VK → Prop} {z : V} (hz : ∀ H, Dt K H z d) (h : ∀ vs H I, SM K I m H → DtAll K I vs ds → ∀ Q : VK, Q z H → r vs H Q) (k : Φ d m) : RCD K r ds m Φ := fun vs H I s p Q kq => h vs H I s p Q (kq z H I d m (Go.refl s) (hz I) k)
/-- a promise: from data and a store, what is wished of an answer and of an error -/
abbrev Fs := List Da → Sto → (Da → Sto → Prop) → (Xn → Sto → Prop) → Prop
def spW (K : PySem.W.Frag) (F : Fs) : Sp := fun vs H Q E => ∃ I m ds, SM K I m H ∧ DtAll K I vs ds ∧ F ds m (fun d m' => ∀ v H' I', Go K H I m H' I' m' → Dt K I' v d → Q v H') fun x m' => ∀ H' I', Go K H I m H' I' m' → XE K E x H' I'
/-- a wish may be weakened -/
def FMono (F : Fs) : Prop := ∀ ds m R R' X X', (∀ d m', R d m' → R' d m') → (∀ x m', X x m' → X' x m') → F ds m R X → F ds m R' X'
theorem de_call {F : Fs} (mo : FMono F) (h : DEA K E tA δ m (fun ds m1 => F ds m1 Φ Ψ) Ψ) : DE K E (tCall (spW K F) [] E tA) δ m Φ Ψ := fun σ H I s l Q kq kx => h σ H I s l _ (fun vs H1 I1 ds m1 g p f => by
  refine ⟨I1, m1, ds, g.sm, by rw [List.append_nil]; exact p, mo _ _ _ _ _ _ ?_ ?_ f⟩
  · exact fun d m' fd v H' I' g2 pv => kq v H' I' d m' (g.trans g2) pv fd
  · exact fun x m' fx H' I' g2 => kx x H' I' m' (g.trans g2) fx) kx
theorem de_meth {C : Addr} {mn : Str} {F : Fs} (mo : FMono F) (hn : mn ∉ fnames) (h : DE K E te δ m (fun d m1 => ∃ gs, fldsD m1 d = some (C, gs) ∧ DEA K E tA δ m1 (fun ds m2 => F (d :: ds) m2 Φ Ψ) Ψ) Ψ) : DE K E (tMeth C mn (spW K F) [] E te tA) δ m Φ Ψ := fun σ H I s l Q kq kx => h σ H I s l _ (fun v H1 I1 d m1 g p f => by
  obtain ⟨gs, e1, f⟩ := f
  obtain ⟨a, dx, fs, rfl, h1, r, c⟩ := flds_of g.sm p e1
  have lk := r.nolook hn
  refine ⟨a, dx, fs, rfl, h1, lk, f σ H1 I1 g.sm (l.ex g.ei) _ (fun vs H2 I2 ds m2 g2 ps f2 => ?_) fun x H2 I2 m2 g2 f2 => kx x H2 I2 m2 (g.trans g2) f2⟩
  refine ⟨I2, m2, d :: ds, g2.sm, by rw [List.append_nil]; exact .cons (p.ex g2.ei) ps, mo _ _ _ _ _ _ ?_ ?_ f2⟩
  · exact fun d m' fd v H' I' g3 pv => kq v H' I' d m' ((g.trans g2).trans g3) pv fd
  · exact fun x m' fx H' I' g3 => kx x H' I' m' ((g.trans g2).trans g3) fx) kx
/-- C(..): the new object is in the store -/
theorem de_make {C : Addr} {F : Fs} (mo : FMono F) (c : ClsOk K C) (h : DEA K E tA δ m (fun ds m1 => ∀ a, m1 a = none → F (.adr a :: ds) (m1.put a (.ins C [])) (fun d m2 => d = .non ∧ Φ (.adr a) m2) Ψ) Ψ) : DE K E (tMake C (spW K F) [] E tA) δ m Φ Ψ := fun σ H I s l Q kq kx => h σ H I s l _ (fun vs H1 I1 ds m1 g p f => by
  intro x dx hx hdx ne
  have g1 : Go K H1 I1 m1 (upd H1 dx (.own x)) I1 m1 := Go.grow g.sm (Evl.Ex.new hdx)
  have hx' : upd H1 dx (.own x) x = none := by rw [upd_ne (Ne.symm ne)]; exact hx
  have g2 := Go.put (p := x) (o := .ins C dx []) (c := .ins C []) g1.sm hx' ⟨dx, [], rfl, .nil, c⟩
  have g3 := (g.trans g1).trans g2
  refine ⟨I1, m1.put x (.ins C []), .adr x :: ds, g2.sm, by rw [List.append_nil]; exact .cons (.adr x) p, mo _ _ _ _ _ _ ?_ ?_ (f x (g.sm.free hx))⟩
  · rintro d m' ⟨rfl, fd⟩ v H' I' g4 pv
    cases pv
    exact ⟨rfl, kq _ H' I' _ m' (g3.trans g4) (.adr x) fd⟩
  · exact fun y m' fx H' I' g4 => kx y H' I' m' (g3.trans g4) fx) kx
/-! ### statements -/
variable {t u : TS} {PN PB PC : Nk} {PR : Rk} {PX : Xk}
theorem ds_imp {PN' PB' PC' : Nk} {PR' : Rk} {PX' : Xk} (h : DS K E t δ m PN' PR' PX' PB' PC') (n : ∀ δ' m', PN' δ' m' → PN δ' m') (r : ∀ d m', PR' d m' → PR d m') (x : ∀ y m', PX' y m' → PX y m') (b : ∀ δ' m', PB' δ' m' → PB δ' m') (c : ∀ δ' m', PC' δ' m' → PC δ' m') : DS K E t δ m PN PR PX PB PC := fun σ H I D s l kn kr kb kc kx =>
  h σ H I D s l (fun σ' H' I' δ' m' g l' p => kn σ' H' I' δ' m' g l' (n δ' m' p)) (fun v H' I' d m' g p q => kr v H' I' d m' g p (r d m' q)) (fun σ' H' I' δ' m' g l' p => kb σ' H' I' δ' m' g l' (b δ' m' p)) (fun σ' H' I' δ' m' g l' p => kc σ' H' I' δ' m' g l' (c δ' m' p)) fun y H' I' m' g q => kx y H' I' m' g (x y m' q)
theorem ds_seq (h : DS K E t δ m (fun δ' m' => DS K E u δ' m' PN PR PX PB PC) PR PX PB PC) : DS K E (tSeq t u) δ m PN PR PX PB PC := fun σ H I D s l kn kr kb kc kx =>
  h σ H I { D with nx := u D } s l (fun σ' H' I' δ' m' g l' p => p σ' H' I' D g.sm l' (fun σ2 H2 I2 δ2 m2 g2 l2 p2 => kn σ2 H2 I2 δ2 m2 (g.trans g2) l2 p2) (fun v H2 I2 d m2 g2 p2 q2 => kr v H2 I2 d m2 (g.trans g2) p2 q2)
    (fun σ2 H2 I2 δ2 m2 g2 l2 p2 => kb σ2 H2 I2 δ2 m2 (g.trans g2) l2 p2) (fun σ2 H2 I2 δ2 m2 g2 l2 p2 => kc σ2 H2 I2 δ2 m2 (g.trans g2) l2 p2) fun y H2 I2 m2 g2 q => kx y H2 I2 m2 (g.trans g2) q) kr kb kc kx
theorem ds_ret (h : DE K E te δ m PR PX) : DS K E (tRet te) δ m PN PR PX PB PC := fun σ H I D s l kn kr kb kc kx => h σ H I s l _ (fun v H' I' d m' g p f => kr v H' I' d m' g p f) kx
theorem ds_retN (r : PR .non m) : DS K E tRetN δ m PN PR PX PB PC := fun σ H I D s l kn kr kb kc kx => kr .non H I .non m (Go.refl s) .non r
theorem ds_next (n : PN δ m) : DS K E tNext δ m PN PR PX PB PC := fun σ H I D s l kn kr kb kc kx => kn σ H I δ m (Go.refl s) l n
theorem ds_break (n : PB δ m) : DS K E tBreak δ m PN PR PX PB PC := fun σ H I D s l kn kr kb kc kx => kb σ H I δ m (Go.refl s) l n
theorem ds_cont (n : PC δ m) : DS K E tCont δ m PN PR PX PB PC := fun σ H I D s l kn kr kb kc kx => kc σ H I δ m (Go.refl s) l n
/-- what follows another step -/
theorem ds_then {σ : L2.St} {H I H1 I1 : Hp} {m1 : Sto} {D : Ends} (g : Go K H I m H1 I1 m1) (h : DS K E t δ m1 PN PR PX PB PC) (l : SL K I1 σ δ)
    (kn : ∀ σ' H' I' δ' m', Go K H I m H' I' m' → SL K I' σ' δ' → PN δ' m' → D.nx σ' H') (kr : ∀ v H' I' d m', Go K H I m H' I' m' → Dt K I' v d → PR d m' → D.rt v H')
    (kb : ∀ σ' H' I' δ' m', Go K H I m H' I' m' → SL K I' σ' δ' → PB δ' m' → D.bk σ' H') (kc : ∀ σ' H' I' δ' m', Go K H I m H' I' m' → SL K I' σ' δ' → PC δ' m' → D.ct σ' H')
    (kx : ∀ x H' I' m', Go K H I m H' I' m' → PX x m' → XE K E x H' I') : t D σ H1 :=
  h σ H1 I1 D g.sm l (fun σ2 H2 I2 δ2 m2 g2 l2 p2 => kn σ2 H2 I2 δ2 m2 (g.trans g2) l2 p2) (fun v H2 I2 d m2 g2 p2 q2 => kr v H2 I2 d m2 (g.trans g2) p2 q2)
    (fun σ2 H2 I2 δ2 m2 g2 l2 p2 => kb σ2 H2 I2 δ2 m2 (g.trans g2) l2 p2) (fun σ2 H2 I2 δ2 m2 g2 l2 p2 => kc σ2 H2 I2 δ2 m2 (g.trans g2) l2 p2) fun y H2 I2 m2 g2 q => kx y H2 I2 m2 (g.trans g2) q
theorem ds_if (h : DT K E tt δ m (fun b m1 => if b = true then DS K E t δ m1 PN PR PX PB PC else DS K E u δ m1 PN PR PX PB PC) PX) : DS K E (tIfS tt t u) δ m PN PR PX PB PC := fun σ H I D s l kn kr kb kc kx => h σ H I s l _ (fun b H' I' m' g f => by
  cases b with
  | true =>
    rw [if_pos rfl] at f
    show t D σ H'
    exact ds_then g f (l.ex g.ei) kn kr kb kc kx
  | false =>
    rw [if_neg (by decide)] at f
    show u D σ H'
    exact ds_then g f (l.ex g.ei) kn kr kb kc kx) kx
theorem ds_set {i : Nat} (h : DE K E te δ m (fun d m1 => i < δ.length ∧ PN (δ.set i (some d)) m1) PX) : DS K E (tAsg te (gName i)) δ m PN PR PX PB PC := fun σ H I D s l kn kr kb kc kx =>
  h σ H I s l _ (fun v H' I' d m' g p f => kn _ H' I' _ m' g ((l.ex g.ei).set f.1 (fun d' e => by cases e; exact p)) f.2) kx
theorem ds_drop (h : DE K E te δ m (fun _ m1 => PN δ m1) PX) : DS K E (tDrop te) δ m PN PR PX PB PC := fun σ H I D s l kn kr kb kc kx =>
  h σ H I s l _ (fun v H' I' d m' g p f => kn _ H' I' _ m' g (l.ex g.ei) f) kx
/-- an object of the store stays from now on -/
theorem ds_frz {i : Nat} {a : Addr} {c : Cell} (h : δ[i]? = some (some (.adr a))) (hm : m a = some c) (hd : c.da = some d) (k : DS K E t (δ.set i (some d)) (m.del a) PN PR PX PB PC) : DS K E t δ m PN PR PX PB PC := fun σ H I D s l kn kr kb kc kx => by
  obtain ⟨J, g, p⟩ := Go.frz s hm hd
  exact ds_then g k ((l.ex g.ei).retype h fun v q => by cases q; exact p) kn kr kb kc kx
theorem de_frz {i : Nat} {a : Addr} {c : Cell} (h : δ[i]? = some (some (.adr a))) (hm : m a = some c) (hd : c.da = some d) (k : DE K E te (δ.set i (some d)) (m.del a) Φ Ψ) : DE K E te δ m Φ Ψ := fun σ H I s l Q kq kx => by
  obtain ⟨J, g, p⟩ := Go.frz s hm hd
  exact k σ H J g.sm ((l.ex g.ei).retype h fun v q => by cases q; exact p) Q (fun v H' I' d m' g' p f => kq v H' I' d m' (g.trans g') p f) fun x H' I' m' g' f => kx x H' I' m' (g.trans g') f
/-- xs.append(e) as a value -/
theorem de_app (h : DE K E ta δ m (fun d1 m1 => ∃ a ds1, d1 = .adr a ∧ m1 a = some (.lst ds1) ∧ DE K E te δ m1 (fun d m2 => ∃ ds, m2 a = some (.lst ds) ∧ ds.length < 100000 ∧ Φ .non (m2.put a (.lst (ds ++ [d])))) Ψ) Ψ) : DE K E (tBM K "list" rAppend ta (tCons te tNil)) δ m Φ Ψ := fun σ H I s l Q kq kx => h σ H I s l _ (fun v H1 I1 d1 m1 g p f => by
  obtain ⟨a, ds1, rfl, hm1, f⟩ := f
  cases p
  obtain ⟨xs1, h1, _⟩ := g.sm.lst hm1
  refine ⟨.inl ⟨rfl, xs1, Evl.sq_of h1⟩, f σ H1 I1 g.sm (l.ex g.ei) _ (fun u H2 I2 d m2 g2 pu f2 => ?_) fun x H2 I2 m2 g2 f2 => kx x H2 I2 m2 (g.trans g2) f2⟩
  obtain ⟨ds, hm, hl, k⟩ := f2
  obtain ⟨xs, h2, r⟩ := g2.sm.lst hm
  refine ⟨a, xs, u, rfl, rfl, h2, Evl.sz_lt (by rw [r.len]; exact hl), kq _ _ I2 _ _ ((g.trans g2).trans (Go.mut (c := .lst (ds ++ [d])) g2.sm hm ⟨_, rfl, r.append (.cons pu .nil)⟩)) .non k⟩) kx
/-- xs[j] = e -/
theorem ds_setI (h : DE K E te δ m (fun d m1 => DE K E ta δ m1 (fun d1 m2 => DE K E tb δ m2 (fun d2 m3 => ∃ a ds i j, d1 = .adr a ∧ d2 = .int i ∧ m3 a = some (.lst ds) ∧ ixN ds.length i = some j ∧ PN δ (m3.put a (.lst (ds.set j d)))) PX) PX) PX) : DS K E (tAsg te (gSub ta tb rSetL)) δ m PN PR PX PB PC := fun σ H I D s l kn kr kb kc kx =>
  h σ H I s l _ (fun v H1 I1 d m1 g p f => f σ H1 I1 g.sm (l.ex g.ei) _ (fun o H2 I2 d1 m2 g2 p1 f2 => f2 σ H2 I2 g2.sm (l.ex (g.ei.trans g2.ei)) _ (fun y H3 I3 d2 m3 g3 p2 f3 => by
    obtain ⟨a, ds, i, j, rfl, rfl, hm, hx, k⟩ := f3
    cases p1
    cases p2
    obtain ⟨xs, h1, r⟩ := g3.sm.lst hm
    have g13 := (g.trans g2).trans g3
    exact ⟨a, xs, i, j, rfl, rfl, h1, by rw [r.len]; exact hx, kn _ _ I3 _ _ (g13.trans (Go.mut (c := .lst (ds.set j d)) g3.sm hm ⟨_, rfl, r.set j (p.ex (g2.ei.trans g3.ei))⟩)) (l.ex g13.ei) k⟩)
      fun x H3 I3 m3 g3 f3 => kx x H3 I3 m3 ((g.trans g2).trans g3) f3) fun x H2 I2 m2 g2 f2 => kx x H2 I2 m2 (g.trans g2) f2) kx
/-- raise X('..') -/
theorem ds_raise {x : Str} (h : PX (x, none) m) : DS K E (fun _ σ H => E (.ref (He.ga K x)) none H) δ m PN PR PX PB PC := fun σ H I D s l kn kr kb kc kx => kx (x, none) H I m (Go.refl s) h
theorem start_sl {I : Hp} {N : List Str} {vs : List V} {ds : List Da} (r : DtAll K I vs ds) (hl : ds.length ≤ N.length) : SL K I (start N vs) (ds.map some ++ List.replicate (N.length - ds.length) none) := by
  have hs : start N vs = vs.map some ++ List.replicate (N.length - vs.length) none := by rfl
  have el := r.len
  refine ⟨by rw [hs]; simp [el], fun i d h => ?_⟩
  by_cases c : i < ds.length
  · rw [List.getElem?_append_left (by simpa using c), List.getElem?_map] at h
    cases q : ds[i]? with
    | none => rw [q] at h; cases h
    | some d' =>
      rw [q] at h
      cases h
      obtain ⟨v, h1, h2⟩ := r.get q
      refine ⟨v, ?_, h2⟩
      rw [hs, List.getElem?_append_left (by simpa [el] using c), List.getElem?_map, h1]
      rfl
  · rw [List.getElem?_append_right (by simpa using c), List.getElem?_replicate] at h
    split at h <;> cases h
def dn (N : List Str) (ds : List Da) : Sd := ds.map some ++ List.replicate (N.length - ds.length) none
/-- a def's body keeps its promise -/
theorem spW_run {F : Fs} {N : List Str} {t : TS} (hl : ∀ ds m R X, F ds m R X → ds.length ≤ N.length) {vs : List V} {H : Hp} {Q : VK} {E : XK} (h : ∀ ds m R X, F ds m R X → DS K E t (dn N ds) m (fun _ m' => R .non m') R X (fun _ _ => False) (fun _ _ => False)) (q : spW K F vs H Q E) : t { nx := fun _ H' => Q .non H', rt := Q } (start N vs) H := by
  obtain ⟨I, m, ds, sm, rs, f⟩ := q
  exact h ds m _ _ f (start N vs) H I _ sm (start_sl rs (hl _ _ _ _ f)) (fun σ' H' I' δ' m' g l n => n .non H' I' g .non) (fun v H' I' d m' g p n => n v H' I' g p) (fun _ _ _ _ _ _ _ z => z.elim) (fun _ _ _ _ _ _ _ z => z.elim) (fun x H' I' m' g n => n H' I' g)
theorem spW_len {F : Fs} {n : Nat} (h : ∀ ds m R X, F ds m R X → ds.length = n) {vs : List V} {H : Hp} {Q : VK} {E : XK} (q : spW K F vs H Q E) : vs.length = n := by
  obtain ⟨I, m, ds, sm, rs, f⟩ := q
  rw [rs.len]
  exact h _ _ _ _ f
/-! promises of defs that change nothing -/
inductive Rs where
  | ok (d : Da)
  | er (x : Xn)
def pur (f : List Da → Sto → Option Rs) : Fs := fun ds m R X => ∃ r, f ds m = some r ∧ match r with
  | .ok d => R d m
  | .er x => X x m
theorem pur_mono {f : List Da → Sto → Option Rs} : FMono (pur f) := fun ds m R R' X X' hr hx h => by
  obtain ⟨r, e, h⟩ := h
  refine ⟨r, e, ?_⟩
  cases r with
  | ok d => exact hr _ _ h
  | er x => exact hx _ _ h
end
end G

set_option maxHeartbeats 4000000
/-! Defs as they stand (FnAt), calls of them, tables of the top, sorted of data, comprehensions by data. -/
namespace G
open PySem PySem.Spec PyProof.Rows L2
/-! ### a def that keeps a promise; it may raise -/
/-- the function that stands at f -/
def fdK (K : PySem.W.Frag) (f : Addr) : FuncData := match K.lookup f with
  | some ⟨_, _, .func fd, _⟩ => fd
  | _ => PySem.W.fnOf "" "" { posonlyargs := [], args := [], vararg := none, kwonlyargs := [], kw_defaults := [], kwarg := none, defaults := [] } [] { kind := .function, names := [], isGenerator := false, isCoroutine := false } .none .none .none .none none .none .none
structure FnAt (P : Program) (w : World) (K : PySem.W.Frag) (mg : Str → Option Value) (base : Heap) (k : Nat) (f : Addr) (ps : List Str) (sp : Sp) : Prop where
  ok : FnOk P w K mg base (L2.CX P w) k f (fdK K f) ps sp
  bd : Binds K (fdK K f) ps []
  kp : PySem.W.keepIn K (.ref f) = true
section
variable {P : Program} {w : World} {K : PySem.W.Frag} {mg : Str → Option Value} {base : Heap} {k : Nat} {f : Addr} {ps N : List Str} {sp sp' : Sp}
theorem FnAt.imp (F : FnAt P w K mg base k f ps sp) (h : ∀ vs H Q E, sp' vs H Q E → sp vs H Q E) : FnAt P w K mg base k f ps sp' := ⟨F.ok.imp h, F.bd, F.kp⟩
theorem FnAt.mono {j : Nat} (F : FnAt P w K mg base j f ps sp) (h : j ≤ k) : FnAt P w K mg base k f ps sp := ⟨F.ok.mono h, F.bd, F.kp⟩
theorem fdK_of {x qual : Str} {params : Arguments} {body : List Stmt} {scope : Scope} {dv : List V} {kw : List (Str × V)} {fd : FuncData} (F : FunD K x qual params body scope dv kw f fd) : fd = fdK K f := by
  obtain ⟨oc, od, dV, kV, doc, pm, an, cdv, ct, osl, e, lk, _⟩ := F.ex
  unfold fdK
  rw [lk]
theorem fnAt_of {x qual : Str} {params : Arguments} {body : List Stmt} {scope : Scope} (D : ∃ fd, FunD K x qual params body scope [] [] f fd) (S : FnScope N ps scope) (len : ∀ vs H Q E, sp vs H Q E → vs.length = ps.length)
    (bd : ∀ (kV doc pm : Value) (an : Option Addr) (cdv ct : Value) (us : List Value), us.length = ps.length → bindArgs (PySem.W.fnOf x qual params body scope .none kV doc pm an cdv ct) ⟨us, []⟩ = pure (ps.zip us))
    (hb : ∀ (cdv : Value) (A : Around) (outer : List Env) (s : Shared) (H : Hp) (vs : List V) (Q : VK) (E : XK), Room k (A.deeper (envOfC qual scope s.heap.objs.size f cdv)) → sp vs H Q E →
      ∃ t, PSs (cxOf (L2.CX P w) P w K mg base N qual scope f cdv A outer s H E) body t ∧ t { nx := fun _ H' => Q .non H', rt := Q } (start N vs) H) : FnAt P w K mg base (k + 1) f ps sp := by
  obtain ⟨fd, F⟩ := D
  have e := fdK_of F
  subst e
  exact ⟨F.ok S len hb, FunD.bindsN F bd, F.kp⟩
end
section
variable {X : Cx} {x : Str} {pos : Pos}
theorem pe_cint {i : Int} (h : ∃ t, X.mg x = some (.int i t)) (hg : Gl X x := by rfl) (hd : (x == ("__debug__" : Str)) = false := by decide) : PE X (.Name x pos) (tC (.int i)) := by
  obtain ⟨t, h⟩ := h
  exact pe_glob hg h ⟨t, rfl⟩ hd
theorem pe_cstr {z : Str} (h : ∃ t, X.mg x = some (.str z t)) (hg : Gl X x := by rfl) (hd : (x == ("__debug__" : Str)) = false := by decide) : PE X (.Name x pos) (tC (.str z)) := by
  obtain ⟨t, h⟩ := h
  exact pe_glob hg h ⟨t, rfl⟩ hd
end
/-! ### a table of the top: texts to values -/
structure KTab (K : PySem.W.Frag) (w : World) (a : Addr) (kvs : List (Str × V)) : Prop where
  ex : ∃ es n, KDict K w a es n
  get : ∀ z, match kvs.lookup z with
    | some v => ∃ u, PySem.W.nsIn K a z = some (some u) ∧ RelV v u
    | none => PySem.W.nsIn K a z = some none
theorem nsIn_kd {K : PySem.W.Frag} {P : Params} {a : Addr} {ks : List Str} (h : He.dicW K a = some (He.keysIn P ks)) (z : Str) : (z ∈ ks → ∃ u, PySem.W.nsIn K a z = some (some u)) ∧ (z ∉ ks → PySem.W.nsIn K a z = some none) := by
  unfold He.dicW at h
  cases q : K.lookup a with
  | none => rw [q] at h; cases h
  | some o =>
    obtain ⟨oc, od, dt, osl⟩ := o
    rw [q] at h
    cases oc with
    | type c =>
      cases od with
      | none =>
        cases dt with
        | dict es n =>
          dsimp only at h
          split at h
          · have h1 : es.toList.map He.keyOf = He.keysIn P ks := Option.some.inj h
            have key : ∀ (l : List DictEntry) (ks : List Str), l.map He.keyOf = He.keysIn P ks → (z ∈ ks → ∃ e, l.find? (·.key.isStr z) = some e) ∧ (z ∉ ks → l.find? (·.key.isStr z) = none) ∧ l.any (·.refKey) = false := by
              intro l
              induction l with
              | nil =>
                intro ks h
                cases ks with
                | nil => exact ⟨fun m => absurd m (by simp), fun _ => rfl, rfl⟩
                | cons k ks => cases h
              | cons e l ih =>
                intro ks h
                cases ks with
                | nil => cases h
                | cons k ks =>
                  have h2 : He.keyOf e :: l.map He.keyOf = some (k, PyData.keyHash P k) :: He.keysIn P ks := h
                  injection h2 with h3 h4
                  obtain ⟨i1, i2, i3⟩ := ih ks h4
                  unfold He.keyOf at h3
                  split at h3
                  · rename_i x t ek
                    have h5 := Option.some.inj h3
                    obtain ⟨h6, _⟩ := Prod.mk.inj h5
                    subst h6
                    have es_ : e.key.isStr z = decide (x = z) := by
                      rw [ek]
                      by_cases c : x = z
                      · subst c; simp [Value.isStr]
                      · simp [Value.isStr, c]
                    refine ⟨fun m => ?_, fun m => ?_, ?_⟩
                    · by_cases c : x = z
                      · exact ⟨e, by rw [List.find?_cons, es_, decide_eq_true c]⟩
                      · rcases List.mem_cons.mp m with m | m
                        · exact absurd m.symm c
                        · obtain ⟨e', h7⟩ := i1 m
                          exact ⟨e', by rw [List.find?_cons, es_, decide_eq_false c]; exact h7⟩
                    · have c : ¬ x = z := fun c => m (by rw [c]; exact List.mem_cons_self)
                      rw [List.find?_cons, es_, decide_eq_false c]
                      exact i2 fun m2 => m (List.mem_cons_of_mem _ m2)
                    · rw [List.any_cons, i3, Bool.or_false]
                      unfold DictEntry.refKey
                      rw [ek]
                  · cases h3
            obtain ⟨k1, k2, k3⟩ := key es.toList ks h1
            unfold PySem.W.nsIn
            rw [q]
            refine ⟨fun m => ?_, fun m => ?_⟩
            · obtain ⟨e, he⟩ := k1 m
              exact ⟨e.val, by dsimp only; rw [he]⟩
            · dsimp only
              rw [k2 m]
              simp [k3]
          · cases h
        | _ => cases h
      | some b => cases dt <;> cases h
    | _ => cases od <;> cases dt <;> cases h
theorem lookup_mem_fst {z : Str} : ∀ {kvs : List (Str × V)} {v : V}, kvs.lookup z = some v → (z, v) ∈ kvs
  | (k, u) :: r, v, h => by
    by_cases c : z = k
    · subst c; simp [List.lookup] at h; subst h; exact List.mem_cons_self
    · have e : (z == k) = false := by simpa using c
      simp [List.lookup, e] at h
      exact List.mem_cons_of_mem _ (lookup_mem_fst h)
theorem lookup_none_fst {z : Str} : ∀ {kvs : List (Str × V)}, kvs.lookup z = none → z ∉ kvs.map (·.1)
  | [], _ => by simp
  | (k, u) :: r, h => by
    by_cases c : z = k
    · subst c; simp [List.lookup] at h
    · have e : (z == k) = false := by simpa using c
      have h2 : r.lookup z = none := by
        unfold List.lookup at h
        rw [e] at h
        exact h
      have ih := lookup_none_fst h2
      intro m
      rcases List.mem_cons.mp m with m | m
      · exact c m
      · exact ih m
theorem ktab_of {K : PySem.W.Frag} {w : World} {a : Addr} {kvs : List (Str × He.Dv)} (h : He.dicW K a = some (He.keysIn w.params (kvs.map (·.1)))) (hv : He.valsB K a kvs = true) : KTab K w a (kvs.map fun q => (q.1, q.2.v K)) := by
  refine ⟨He.dicW_ok h, fun z => ?_⟩
  have e1 : (kvs.map fun q => (q.1, q.2.v K)).map (·.1) = kvs.map (·.1) := by rw [List.map_map]; rfl
  split
  · rename_i v e
    obtain ⟨q, hq, e2⟩ := List.mem_map.mp (lookup_mem_fst e)
    obtain ⟨u, h1, h2⟩ := He.valsB_ok hv hq
    obtain ⟨h3, h4⟩ := Prod.mk.inj e2
    subst h3 h4
    exact ⟨u, h1, h2⟩
  · rename_i e
    have h2 := lookup_none_fst e
    rw [e1] at h2
    exact (nsIn_kd h z).2 h2
section
variable {X : Cx} {a : Addr} {kvs : List (Str × V)}
def rInK (a : Addr) (kvs : List (Str × V)) : R2 := fun x y H Q => ∃ z, x = .str z ∧ y = .ref a ∧ Q (.bl (kvs.lookup z).isSome) H
def rNotInK (a : Addr) (kvs : List (Str × V)) : R2 := fun x y H Q => ∃ z, x = .str z ∧ y = .ref a ∧ Q (.bl (!(kvs.lookup z).isSome)) H
def rIxK (a : Addr) (kvs : List (Str × V)) : R2 := fun x y H Q => ∃ z v, x = .ref a ∧ y = .str z ∧ kvs.lookup z = some v ∧ Q v H
theorem KTab.look {K : PySem.W.Frag} {w : World} (T : KTab K w a kvs) (z : Str) : ∃ r, PySem.W.nsIn K a z = some r ∧ r.isSome = (kvs.lookup z).isSome := by
  have h := T.get z
  cases e : kvs.lookup z with
  | none => rw [e] at h; exact ⟨_, h, rfl⟩
  | some v => rw [e] at h; obtain ⟨u, h1, _⟩ := h; exact ⟨_, h1, rfl⟩
theorem op_inK (T : KTab X.K X.w a kvs) : OpR X (compareOp .In) (rInK a kvs) := by
  obtain ⟨es, n, D⟩ := T.ex
  intro pins s σ H x y v u Q I rx ry h
  obtain ⟨z, rfl, rfl, q⟩ := h
  obtain ⟨r, h1, h2⟩ := T.look z
  exact op_in_kd D pins s σ H _ _ v u Q I rx ry ⟨z, r, rfl, rfl, h1, by rw [h2]; exact q⟩
theorem op_notinK (T : KTab X.K X.w a kvs) : OpR X (compareOp .NotIn) (rNotInK a kvs) := by
  obtain ⟨es, n, D⟩ := T.ex
  intro pins s σ H x y v u Q I rx ry h
  obtain ⟨z, rfl, rfl, q⟩ := h
  obtain ⟨r, h1, h2⟩ := T.look z
  exact op_notIn_kd D pins s σ H _ _ v u Q I rx ry ⟨z, r, rfl, rfl, h1, by rw [h2]; exact q⟩
theorem ix_K (T : KTab X.K X.w a kvs) : IxR X (rIxK a kvs) := by
  obtain ⟨es, n, D⟩ := T.ex
  intro value slice pins s σ H x y v u Q I rx ry h hs
  obtain ⟨z, r, rfl, rfl, e, q⟩ := h
  have g := T.get z
  rw [e] at g
  obtain ⟨u0, h1, h2⟩ := g
  exact ix_kdict value slice pins s σ H _ _ v u Q I rx ry ⟨a, z, r, rfl, rfl, ⟨es, n, u0, D.at_, D.lit, h1, h2⟩, q⟩ hs
end
/-! ### sorted of data -/
def pyN (d : Da) : PyData := (py d).getD .none
theorem pyN_of {d : Da} {p : PyData} (h : py d = some p) : pyN d = p := by unfold pyN; rw [h]; rfl
/-- sorted, by data -/
def srt (ds : List Da) : List Da := ds.mergeSort (PySem.W.dataLe false pyN)
structure SortOk (ds : List Da) : Prop where
  py : ∀ d ∈ ds, ∃ p, py d = some p
  al : PySem.W.AllAlike (ds.map pyN)
  so : PySem.W.Sortable (ds.map pyN)
  dp : ∀ d ∈ ds, (pyN d).depth ≤ 100
def rSortedD (K : PySem.W.Frag) : List V → Hp → VK → Prop := fun vs H1 Q => ∃ H ds a xs, vs = [V.ref a] ∧ Ex H H1 ∧ H1 a = some (.lst xs) ∧ DtAll K H xs ds ∧ SortOk ds ∧ ∀ p ys, H1 p = none → DtAll K H ys (srt ds) → Q (.ref p) (upd H1 p (.lst ys))
section
variable {X : Cx} {k : Nat}
theorem vals_each {K : PySem.W.Frag} {H : Hp} : ∀ {xs : List V} {ds : List Da} {us : List Value}, DtAll K H xs ds → Vals xs us → PySem.W.EachIs (fun u d => ∃ v, RelV v u ∧ Dt K H v d) us ds
  | _, _, _, .nil, .nil => .nil
  | _, _, _, .cons h r, .cons q t => .cons ⟨_, q, h⟩ (vals_each r t)
theorem each_vals {K : PySem.W.Frag} {H : Hp} : ∀ {us : List Value} {ds : List Da}, PySem.W.EachIs (fun u d => ∃ v, RelV v u ∧ Dt K H v d) us ds → ∃ xs, DtAll K H xs ds ∧ Vals xs us
  | _, _, .nil => ⟨[], .nil, .nil⟩
  | _, _, .cons ⟨v, q, h⟩ r => by
    obtain ⟨xs, h1, h2⟩ := each_vals r
    exact ⟨v :: xs, .cons h h1, .cons q h2⟩
theorem each_reads {pins : List (Addr × Obj)} {σ : L2.St} {H H0 : Hp} {s : Shared} (I : Inv X pins σ H s) (e : Ex H0 H) : ∀ {xs : List V} {ds : List Da} {us : List Value}, (∀ d ∈ ds, ∃ p, py d = some p) → DtAll X.K H0 xs ds → Vals xs us → PySem.W.EachIs (fun u d => ∃ as, Reads s.heap u (pyN d) as) us ds
  | _, _, _, _, .nil, .nil => .nil
  | _, _, _, n, .cons h r, .cons q t => by
    obtain ⟨p, hp⟩ := n _ List.mem_cons_self
    exact .cons (by rw [pyN_of hp]; exact L2.Dp.reads I _ _ _ ((h.ex e).dp hp) q) (each_reads I e (fun d m => n d (List.mem_cons_of_mem _ m)) r t)
theorem cr_sortedD (hr : Room k X.A) : CallR X (.builtin "sorted") (rSortedD X.K) := by
  intro pins s σ H vs us Q I r h
  obtain ⟨H0, ds, a, xs, rfl, e0, hs, rs, so, q⟩ := h
  · obtain ⟨its, rv, hl, hz⟩ := I.list (Evl.sq_of hs)
    rw [Vals.ref1 r]
    have hL : ds.length ≤ sizeLine := by rw [← rs.len]; exact hz
    refine PySem.W.sorted_data (vs := its) (bs := ds) (enc := pyN) (R := fun u d => ∃ v, RelV v u ∧ Dt X.K H0 v d) hl.isList (vals_each rs rv) (each_reads I e0 so.py rs rv) so.al so.so hL (fun d hd => ?_) fun out ho hE => ?_
    · have h1 := so.dp d hd
      have h2 := hr.un
      omega
    · obtain ⟨ys, h1, h2⟩ := each_vals hE
      obtain ⟨ep, he'⟩ := PyProof.Rows.sortedAll_at s.heap its out.toArray
      have hlen : ys.length ≤ sizeLine := by rw [h2.length, ho]; exact hL
      exact ⟨.ref _, upd H (s.heap.objs.size + 1) (.lst ys), I.laid (t' := s.toks) (fun _ _ => PyProof.Rows.sortedAll_old) (Nat.le_succ _) ⟨hlen, out, ep, h2, he'⟩, rfl, q _ ys (I.hok.fresh (Nat.le_succ _)) h1⟩
end
end G

set_option maxHeartbeats 4000000
/-! zip of lists, tuples and texts in any mix: two, three. -/
namespace G
open PySem PySem.Spec PyProof.Rows L2
/-- what a zip walks: a list, a tuple, a text -/
inductive SK where
  | l (a : Addr)
  | t (a : Addr)
  | s (z : Str)
def signs (z : Str) : List V := z.cps.toList.map fun c => .str ⟨#[c]⟩
namespace SK
def v : SK → V
  | l a => .ref a
  | t a => .ref a
  | s z => .str z
def at_ (K : PySem.W.Frag) : SK → Hp → List V → Prop
  | l a, H, xs => SqL K H a xs
  | t a, H, xs => SqT K H a xs
  | s z, _, xs => xs = signs z
def off : SK → Addr → Prop
  | l a, b => a ≠ b
  | t a, b => a ≠ b
  | s _, _ => True
def it : SK → Addr → Nat → Heap → Prop
  | l a, p, i, h => h.IsListIter p a i
  | t a, p, i, h => h.IsTupleIter p a i
  | s z, p, i, h => ∃ u, h.IsStrIter p (strIterType z) z u i
def fp : SK → Addr → List Addr
  | l a, p => [p, a]
  | t a, p => [p, a]
  | s _, p => [p]
theorem mem_fp (k : SK) (p : Addr) : p ∈ k.fp p := by cases k <;> simp [fp]
theorem nin_fp {k : SK} {p b : Addr} (h : b ≠ p) (o : k.off b) : b ∉ k.fp p := by
  cases k with
  | l a => simp only [fp, List.mem_cons, List.not_mem_nil, or_false, not_or]; exact ⟨h, fun e => o e.symm⟩
  | t a => simp only [fp, List.mem_cons, List.not_mem_nil, or_false, not_or]; exact ⟨h, fun e => o e.symm⟩
  | s z => simp only [fp, List.mem_cons, List.not_mem_nil, or_false]; exact h
section
variable {X : Cx} {pins : List (Addr × Obj)} {σ : L2.St} {H : Hp} {s : Shared} {k : SK} {p : Addr} {xs : List V}
/-- at a state where it stands: it draws xs -/
theorem draws (I : Inv X pins σ H s) (hk : k.at_ X.K H xs) (ho : k.off p) {A : Around} (hh : A.handled = none) (j : Nat) (hit : k.it p j s.heap) :
    ∃ (P : Nat → Value → Prop) (St : Nat → Heap → Prop), Draws X.prog X.w A p (k.fp p) xs.length P St ∧ St j s.heap ∧ (∀ i u, P i u → ∃ x, xs[i]? = some x ∧ RelV x u) ∧ ∀ i h, St i h → k.it p i h := by
  cases k with
  | l a =>
    obtain ⟨its, rv, hl, _⟩ := I.list hk
    have e : its.toArray.size = xs.length := by rw [List.size_toArray]; exact rv.length.symm
    have D := Draws.list (prog := X.prog) (w := X.w) hh p a ho its.toArray
    rw [e] at D
    refine ⟨_, _, D, ⟨hit, hl.isList⟩, fun i u hu => ?_, fun i h st => st.1⟩
    have hu' : its[i]? = some u := by simpa using hu
    obtain ⟨x, h1, h2⟩ : ∃ x, xs[i]? = some x ∧ RelV x u := by
      cases q : xs[i]? with
      | none => rw [rv.none_of q] at hu'; cases hu'
      | some x =>
        obtain ⟨u', h3, h4⟩ := rv.get q
        rw [h3] at hu'
        cases hu'
        exact ⟨x, rfl, h4⟩
    exact ⟨x, h1, h2⟩
  | t a =>
    obtain ⟨its, rv, ht, _⟩ := I.tuple hk
    have e : its.toArray.size = xs.length := by rw [List.size_toArray]; exact rv.length.symm
    have D := Draws.tuple (prog := X.prog) (w := X.w) hh p a ho its.toArray
    rw [e] at D
    refine ⟨_, _, D, ⟨hit, ht⟩, fun i u hu => ?_, fun i h st => st.1⟩
    have hu' : its[i]? = some u := by simpa using hu
    cases q : xs[i]? with
    | none => rw [rv.none_of q] at hu'; cases hu'
    | some x =>
      obtain ⟨u', h3, h4⟩ := rv.get q
      rw [h3] at hu'
      cases hu'
      exact ⟨x, rfl, h4⟩
  | s z =>
    obtain ⟨tk, hit⟩ := hit
    have hx : xs = signs z := hk
    have e : z.cps.size = xs.length := by rw [hx]; simp [signs]
    have D := Draws.text (prog := X.prog) (w := X.w) hh p z tk
    rw [e] at D
    refine ⟨_, _, D, hit, fun i u hu => ?_, fun i h st => ⟨tk, st⟩⟩
    obtain ⟨c, t', h1, rfl⟩ := hu
    refine ⟨.str ⟨#[c]⟩, ?_, ⟨t', rfl⟩⟩
    rw [hx]
    unfold signs
    rw [List.getElem?_map]
    have h2 : z.cps.toList[i]? = some c := by simpa using h1
    rw [h2]
    rfl
theorem inj (I : Inv X pins σ H s) {ys : List V} (h1 : k.at_ X.K H xs) (h2 : k.at_ X.K H ys) : xs = ys := by
  cases k with
  | l a => exact I.list_inj h1 h2
  | t a => exact I.tuple_inj h1 h2
  | s z => exact (show xs = signs z from h1).trans (show ys = signs z from h2).symm
/-- it begins -/
theorem begins (I : Inv X pins σ H s) (hk : k.at_ X.K H xs) {u : Value} (r : RelV k.v u) : ∃ (o : Obj) (Hb : Heap → Prop), Begins u o Hb ∧ Hb s.heap ∧ (∀ h' q, h'.get? q = some o → k.it q 0 h') ∧ ∀ b, s.heap.objs.size ≤ b → k.off b := by
  cases k with
  | l a =>
    cases r
    obtain ⟨its, rv, hl, _⟩ := I.list hk
    refine ⟨_, _, begins_list a its.toArray, hl.isList, fun h' q e => ⟨_, e, rfl, rfl⟩, fun b hb => ?_⟩
    have := hl.lt
    exact Nat.ne_of_lt (Nat.lt_of_lt_of_le this hb)
  | t a =>
    cases r
    obtain ⟨its, rv, ht, _⟩ := I.tuple hk
    refine ⟨_, _, begins_tuple a its.toArray, ht, fun h' q e => ⟨_, e, rfl, rfl⟩, fun b hb => ?_⟩
    have := ht.lt
    exact Nat.ne_of_lt (Nat.lt_of_lt_of_le this hb)
  | s z =>
    obtain ⟨tk, rfl⟩ := (show ∃ t, u = Value.str z t from r)
    exact ⟨_, _, begins_text z tk, trivial, fun h' q e => ⟨tk, _, e, rfl, rfl⟩, fun _ _ => trivial⟩
end
end SK
/-- the two as they stand at each turn, the items in new pairs -/
def Itz2 (K : PySem.W.Frag) (k1 k2 : SK) : It :=
  ⟨fun i H => ∃ (xs ys : List V) (x y : V), k1.at_ K H xs ∧ k2.at_ K H ys ∧ xs[i]? = some x ∧ ys[i]? = some y,
    fun i H v H' => ∃ T x y, v = .ref T ∧ H T = none ∧ H' = upd H T (.tup [x, y]) ∧ (∀ xs, k1.at_ K H xs → xs[i]? = some x) ∧ ∀ ys, k2.at_ K H ys → ys[i]? = some y,
    fun i H => ∃ xs ys : List V, k1.at_ K H xs ∧ k2.at_ K H ys ∧ i ≤ xs.length ∧ i ≤ ys.length ∧ (i = xs.length ∨ i = ys.length)⟩
structure Off2 (k : SK) (z TI TO i1 i2 : Addr) : Prop where
  a : k.off z
  b : k.off TO
  c : k.off i1
  d : k.off i2
theorem turn_zip2 {P : Program} {w : World} {K : PySem.W.Frag} {elts : List Expr} {kk : Nat} {tpos : Pos} {k1 k2 : SK} {z TI TO i1 i2 : Addr} (D : ZipSep2 z TI TO i1 i2 (k1.fp i1) (k2.fp i2)) (o1 : Off2 k1 z TI TO i1 i2) (o2 : Off2 k2 z TI TO i1 i2) (d12 : i1 ≠ i2) :
    Turn P w K (.Tuple elts kk tpos) (Itz2 K k1 k2) [z, TI, TO, i1, i2] z (fun i h => IsZip h z TI TO .none ∧ IsTupOf2 h TI (.ref i1) (.ref i2) ∧ (∃ x y, IsTupOf2 h TO x y) ∧ k1.it i1 i h ∧ k2.it i2 i h) where
  mem := by simp
  obj := fun i h st c hc => by
    obtain ⟨hz, hTI, ⟨x, y, hTO⟩, h1, h2⟩ := st
    have itok : ∀ (k : SK) (p : Addr), k.it p i h → ∃ o, h.get? p = some o ∧ ∀ v, o.data ≠ .cell v := by
      intro k p hk
      cases k with
      | l a => obtain ⟨o, e, _, d⟩ := hk; exact ⟨o, e, fun v q => by rw [d] at q; cases q⟩
      | t a => obtain ⟨o, e, _, d⟩ := hk; exact ⟨o, e, fun v q => by rw [d] at q; cases q⟩
      | s s => obtain ⟨_, o, e, _, d⟩ := hk; exact ⟨o, e, fun v q => by rw [d] at q; cases q⟩
    rcases (by simpa using hc : c = z ∨ c = TI ∨ c = TO ∨ c = i1 ∨ c = i2) with q | q | q | q | q
    · rw [q]; exact ⟨_, hz, fun v q => nomatch q⟩
    · rw [q]; exact ⟨_, hTI, fun v q => nomatch q⟩
    · rw [q]; exact ⟨_, hTO, fun v q => nomatch q⟩
    · rw [q]; exact itok _ _ h1
    · rw [q]; exact itok _ _ h2
  keep := fun i h h' st k => by
    obtain ⟨hz, hTI, ⟨x, y, hTO⟩, h1, h2⟩ := st
    have itk : ∀ (kd : SK) (p : Addr), p ∈ [z, TI, TO, i1, i2] → kd.it p i h → kd.it p i h' := by
      intro kd p hp hk
      cases kd with
      | l a => exact Heap.IsListIter.at hk fun o q => k p hp o q
      | t a => exact Heap.IsTupleIter.at hk fun o q => k p hp o q
      | s s => obtain ⟨u, hk⟩ := hk; exact ⟨u, by obtain ⟨o, e, r⟩ := hk; exact ⟨o, k p hp o e, r⟩⟩
    exact ⟨k z (by simp) _ hz, k TI (by simp) _ hTI, ⟨x, y, k TO (by simp) _ hTO⟩, itk _ _ (by simp) h1, itk _ _ (by simp) h2⟩
  item := by
    intro X hP hw hK hc i pins s σ H E I hf st hg
    subst hP hw hK
    obtain ⟨hz, hTI, ⟨x0, y0, hTO⟩, h1, h2⟩ := st
    obtain ⟨xs, ys, x, y, hqx, hqy, hx, hy⟩ := hg
    have hh : X.A.in1.handled = none := I.ok.hd hc
    obtain ⟨P1, S1, D1, st1, p1, q1⟩ := SK.draws I hqx o1.c hh i h1
    obtain ⟨P2, S2, D2, st2, p2, q2⟩ := SK.draws I hqy o2.d hh i h2
    have hzl : z < s.heap.objs.size := Heap.lt_size hz
    refine wpAny_pyNext_zipD2_item D D1 D2 hz hTI hTO st1 st2 (List.getElem?_eq_some_iff.mp hx).1 (List.getElem?_eq_some_iff.mp hy).1 fun x1 x2 h' tk e1 e2 z' TO' n1 n2 hT hsz hk => ?_
    refine ⟨_, rfl, wpAny_letOwnedTupleGo_zip (s := { s with heap := h', toks := tk }) z' fun h'' z'' sb => ?_⟩
    have hT2 : h''.get? s.heap.objs.size = some { cls := .type "tuple", data := .seq #[x1, x2] } := (sb.2 _ (Nat.ne_of_gt hzl)).trans hT
    obtain ⟨xx, ex, rx⟩ := p1 i x1 e1
    obtain ⟨yy, ey, ry⟩ := p2 i x2 e2
    have new : ObjOk X.prog X.w (upd H s.heap.objs.size (.tup [xx, yy])) h'' s.heap.objs.size (.tup [xx, yy]) := ⟨by show 2 ≤ sizeLine; decide, [x1, x2], .cons rx (.cons ry .nil), ⟨_, hT2, rfl, _, rfl⟩⟩
    have kp : ∀ c o, c ∉ [z, TI, TO, i1, i2] → s.heap.get? c = some o → h''.get? c = some o := fun c o hb q =>
      (sb.2 c (fun q' => hb (by simp [q']))).trans (hk c o (fun q' => hb (by simp [q'])) (fun q' => hb (by simp [q'])) (fun q' => hb (by simp [q'])) (fun q' => hb (by simp [q'])) q)
    have I1 : Inv X pins σ (upd H s.heap.objs.size (.tup [xx, yy])) { s with heap := h'', toks := tk } := I.turnedNew (t' := tk) (ch := [z, TI, TO, i1, i2]) kp hf (Nat.le_refl _) new
    have back : ∀ (kd : SK) (p : Addr), p ≠ z → kd.it p (i + 1) h' → kd.it p (i + 1) h'' := by
      intro kd p hp hk
      cases kd with
      | l a => exact Heap.IsListIter.at hk fun o q => (sb.2 _ hp).trans q
      | t a => exact Heap.IsTupleIter.at hk fun o q => (sb.2 _ hp).trans q
      | s s => obtain ⟨u, hk⟩ := hk; exact ⟨u, by obtain ⟨o, e, r⟩ := hk; exact ⟨o, (sb.2 _ hp).trans e, r⟩⟩
    refine ⟨.ref s.heap.objs.size, _, I1, rfl, ⟨_, xx, yy, rfl, I.hok.fresh (Nat.le_refl _), rfl, fun zs hz => by rw [SK.inj I hz hqx]; exact ex, fun zs hz => by rw [SK.inj I hz hqy]; exact ey⟩, ⟨z'', ?_, ⟨x1, x2, ?_⟩, back _ _ D.zi1.symm (q1 _ _ n1), back _ _ D.zi2.symm (q2 _ _ n2)⟩, fun c hcm => ?_⟩
    · exact (sb.2 _ D.TIz).trans (hk _ _ D.TIz D.TITO D.TIi1 D.TIi2 hTI)
    · exact (sb.2 _ D.TOz).trans TO'
    · have hlt : c < s.heap.objs.size := by
        have itl : ∀ (kd : SK) (p : Addr), kd.it p i s.heap → p < s.heap.objs.size := by
          intro kd p hk
          cases kd with
          | l a => obtain ⟨o, e, _⟩ := hk; exact Heap.lt_size e
          | t a => obtain ⟨o, e, _⟩ := hk; exact Heap.lt_size e
          | s s => obtain ⟨_, o, e, _⟩ := hk; exact Heap.lt_size e
        rcases (by simpa using hcm : c = z ∨ c = TI ∨ c = TO ∨ c = i1 ∨ c = i2) with q | q | q | q | q
        · rw [q]; exact hzl
        · rw [q]; exact Heap.lt_size hTI
        · rw [q]; exact Heap.lt_size hTO
        · rw [q]; exact itl _ _ h1
        · rw [q]; exact itl _ _ h2
      rw [upd_ne (Nat.ne_of_lt hlt)]
      exact (hf c hcm).1
  done := by
    intro X hP hw hK hc i pins s σ H E I hf st hg
    subst hP hw hK
    obtain ⟨hz, hTI, ⟨x0, y0, hTO⟩, h1, h2⟩ := st
    obtain ⟨xs, ys, hqx, hqy, l1, l2, hend⟩ := hg
    have hh : X.A.in1.handled = none := I.ok.hd hc
    obtain ⟨P1, S1, D1, st1, p1, q1⟩ := SK.draws I hqx o1.c hh i h1
    obtain ⟨P2, S2, D2, st2, p2, q2⟩ := SK.draws I hqy o2.d hh i h2
    exact wpAny_pyNext_zipD2_end D D1 D2 hz hTI hTO st1 st2 l1 l2 hend fun h' tk hk => ⟨rfl, I.turnedL (t' := tk) (ch := [z, TI, TO, i1, i2]) (fun c o hb q =>
      hk c o (fun q' => hb (by simp [q'])) (fun q' => hb (by simp [q'])) (fun q' => hb (by simp [q'])) (fun q' => hb (by simp [q'])) q) hf⟩
  self := fun A i s Q E st h => wpAny_pyIter_zip st.1 h
def iZip2 (K : PySem.W.Frag) (ta : TA) : TI := fun σ H R => ta σ H fun vs H1 => ∃ k1 k2 xs ys, vs = [k1.v, k2.v] ∧ k1.at_ K H1 xs ∧ k2.at_ K H1 ys ∧ R (Itz2 K k1 k2) H1
theorem pi_zip2 {X : Cx} {e e2 : Expr} {ta : TA} {p pos tpos : Pos} {elts : List Expr} {kk : Nat} (hg : Gl X "zip") (hm : X.mg "zip" = none) (ha : PA X [e, e2] ta)
    (hs : starEach [e, e2] X.env = (false, eval e X.env) :: starEach [e2] X.env := by rfl) (hpl : (backTo pos (starEach [e2] X.env)).any (·.1) = false := by rfl) : PI X (.Tuple elts kk tpos) (.Call (.Name "zip" p) [e, e2] [] pos) (iZip2 X.K ta) := by
  refine ⟨fun pins s σ H R I h => ?_⟩
  refine Call_ (ld_blt I hg hm PyProof.Rows.boot_zip (PyProof.Rows.callWith_type1 (thn (ha.run pos pins s σ H _ I h) fun us s1 ⟨vs, H1, I1, r1, q1⟩ => ?_) hs hpl))
  obtain ⟨k1, k2, xs, ys, ex, hqx, hqy, q⟩ := q1
  subst ex
  cases r1 with
  | cons r rr =>
    cases rr with
    | cons r' rr =>
      cases rr
      obtain ⟨o1, B1, b1, c1, d1, f1⟩ := SK.begins I1 hqx r
      obtain ⟨o2, B2, b2, c2, d2, f2⟩ := SK.begins I1 hqy r'
      refine zip_begins2 b1 b2 c1 c2 fun h' hz hTI hTO g1 g2 hsz hk => wpAny_pyIter_zip hz ?_
      have I2 : Inv X pins σ H1 { s1 with heap := h' } := I1.kept (t' := s1.toks) hk
      have m1 : ∀ j : Nat, j ≠ 0 → ¬ (s1.heap.objs.size + j : Nat) ∈ k1.fp s1.heap.objs.size := fun j hj =>
        SK.nin_fp (b := (s1.heap.objs.size + j : Nat)) (p := s1.heap.objs.size) (fun q => by have q' : (s1.heap.objs.size + j : Nat) = s1.heap.objs.size := q; omega) (f1 _ (Nat.le_add_right _ _))
      have m2 : ∀ j : Nat, j ≠ 1 → ¬ (s1.heap.objs.size + j : Nat) ∈ k2.fp (s1.heap.objs.size + 1) := fun j hj =>
        SK.nin_fp (b := (s1.heap.objs.size + j : Nat)) (p := (s1.heap.objs.size + 1 : Nat)) (fun q => by have q' : (s1.heap.objs.size + j : Nat) = s1.heap.objs.size + 1 := q; omega) (f2 _ (Nat.le_add_right _ _))
      have ne : ∀ i j : Nat, i ≠ j → (s1.heap.objs.size + i : Nat) ≠ s1.heap.objs.size + j := fun i j h => by omega
      have D : ZipSep2 (s1.heap.objs.size + 4) (s1.heap.objs.size + 2) (s1.heap.objs.size + 3) s1.heap.objs.size (s1.heap.objs.size + 1) (k1.fp s1.heap.objs.size) (k2.fp (s1.heap.objs.size + 1)) :=
        ⟨ne 2 4 (by decide), ne 3 4 (by decide), ne 2 3 (by decide), ne 2 0 (by decide), SK.mem_fp _ _, m1 4 (by decide), m1 3 (by decide), ne 2 1 (by decide), SK.mem_fp _ _, m2 4 (by decide), m2 3 (by decide), m2 0 (by decide), m1 1 (by decide)⟩
      have O : ∀ k : SK, (∀ b, s1.heap.objs.size ≤ b → k.off b) → Off2 k (s1.heap.objs.size + 4) (s1.heap.objs.size + 2) (s1.heap.objs.size + 3) s1.heap.objs.size (s1.heap.objs.size + 1) := fun k f =>
        ⟨f _ (Nat.le_add_right _ _), f _ (Nat.le_add_right _ _), f _ (Nat.le_refl _), f _ (Nat.le_add_right _ _)⟩
      refine ⟨s1.heap.objs.size + 4, [s1.heap.objs.size + 4, s1.heap.objs.size + 2, s1.heap.objs.size + 3, s1.heap.objs.size, s1.heap.objs.size + 1], _, _, H1, rfl, I2, turn_zip2 D (O _ f1) (O _ f2) (ne 0 1 (by decide)), ⟨hz, hTI, ⟨_, _, hTO⟩, d1 _ _ g1, d2 _ _ g2⟩, fun c hcm => ?_, q⟩
      have hle : s1.heap.objs.size ≤ c := by
        rcases (by simpa using hcm : c = s1.heap.objs.size + 4 ∨ c = s1.heap.objs.size + 2 ∨ c = s1.heap.objs.size + 3 ∨ c = s1.heap.objs.size ∨ c = s1.heap.objs.size + 1) with z | z | z | z | z
        · rw [z]; exact Nat.le_add_right _ _
        · rw [z]; exact Nat.le_add_right _ _
        · rw [z]; exact Nat.le_add_right _ _
        · rw [z]; exact Nat.le_refl _
        · rw [z]; exact Nat.le_add_right _ _
      exact I1.fpOk hle (I1.hok.fresh hle)
theorem walk_zip2 {K : PySem.W.Frag} {k1 k2 : SK} {xs ys : List V} {G : Hp → Prop} (h1 : ∀ H, G H → k1.at_ K H xs) (h2 : ∀ H, G H → k2.at_ K H ys) :
    Walk (Itz2 K k1 k2) (min xs.length ys.length) G (YPair (fun i => xs[i]?) (fun i => ys[i]?)) := by
  refine ⟨fun i H hi g => ?_, fun H g => ?_, fun i H x H' hi g y => ?_⟩
  · have a : i < xs.length := by omega
    have b : i < ys.length := by omega
    exact ⟨xs, ys, xs[i], ys[i], h1 H g, h2 H g, by simp [a], by simp [b]⟩
  · exact ⟨xs, ys, h1 H g, h2 H g, by omega, by omega, by omega⟩
  · obtain ⟨T, a, b, e1, e2, e3, q2, q4⟩ := y
    exact ⟨T, a, b, e1, e2, e3, q2 _ (h1 H g), q4 _ (h2 H g)⟩
end G

set_option maxHeartbeats 4000000
/-! Walks, targets, loops over data and a store. -/
namespace G
open PySem PySem.Spec PyProof.Rows L2
/-- the signs of a text -/
def sign (c : Nat) : Str := ⟨#[c]⟩
@[irreducible] def signsD (z : Str) : List Da := z.cps.toList.map fun c => .str (sign c)
theorem signsD_def (z : Str) : signsD z = z.cps.toList.map fun c => .str (sign c) := by unfold signsD; rfl
theorem signsD_len (z : Str) : (signsD z).length = z.cps.size := by simp [signsD]
section
variable {K : PySem.W.Frag} {E : XK} {δ : Sd} {m : Sto} {te ta tb tl : TE} {tA : TA} {d d1 d2 : Da} {ds es : List Da} {Φ : Da → Sto → Prop} {Ψ : Xn → Sto → Prop}
theorem signs_dt (z : Str) : ∀ H, DtAll K H (signs z) (signsD z) := fun H => by
  unfold signs signsD
  generalize z.cps.toList = l
  induction l with
  | nil => exact .nil
  | cons c l ih => exact .cons (.str _) ih
/-- what a datum gives when it is walked -/
def seqD (m : Sto) : Da → Option (List Da)
  | .lst ds => some ds
  | .tup ds => some ds
  | .str z => some (signsD z)
  | .adr a => match m a with
    | some (.lst ds) => some ds
    | _ => none
  | _ => none
/-- an iterable gives ds, as long as the store is of S -/
structure WalkD (K : PySem.W.Frag) (J : It) (I : Hp) (ds : List Da) (S : Sto → Prop) (Gd : Hp → Prop) (Y : Nat → Hp → V → Hp → Prop) : Prop where
  w : Walk J ds.length Gd Y
  g : ∀ H2 I2 m2, SM K I2 m2 H2 → Ex I I2 → S m2 → Gd H2
  y : ∀ i H2 x H3 I2 m2, i < ds.length → SM K I2 m2 H2 → Ex I I2 → S m2 → Y i H2 x H3 → ∃ I3 d, ds[i]? = some d ∧ Go K H2 I2 m2 H3 I3 m2 ∧ Dt K I3 x d
def DW (K : PySem.W.Frag) (E : XK) (wi : TI) (δ : Sd) (m : Sto) (Φ : List Da → (Sto → Prop) → Sto → Prop) (Ψ : Xn → Sto → Prop) : Prop := ∀ σ H I, SM K I m H → SL K I σ δ → ∀ Q : It → Hp → Prop,
  (∀ J H' I' ds S m' Gd Y, Go K H I m H' I' m' → WalkD K J I' ds S Gd Y → Φ ds S m' → Q J H') → (∀ x H' I' m', Go K H I m H' I' m' → Ψ x m' → XE K E x H' I') → wi σ H Q
variable {Φw : List Da → (Sto → Prop) → Sto → Prop}
def isTupD : Da → Bool
  | .tup _ => true
  | _ => false
def isStrD : Da → Bool
  | .str _ => true
  | _ => false
theorem dw_list (h : DE K E tl δ m (fun d m1 => ∃ ds, isTupD d = false ∧ isStrD d = false ∧ seqD m1 d = some ds ∧ Φw ds (fun m2 => seqD m2 d = some ds) m1) Ψ) : DW K E (iList K tl) δ m Φw Ψ := fun σ H I s l Q kq kx => h σ H I s l _ (fun v H1 I1 d m1 g p f => by
  obtain ⟨ds, t1, t2, e, f⟩ := f
  cases p with
  | non => cases e
  | bl b => cases e
  | int b => cases e
  | obj h r c => cases e
  | scr h r => cases e
  | exc a D => cases e
  | exl h r => cases e
  | tup h r => cases t1
  | str z => cases t2
  | @lst a xs _ hs r =>
    cases e
    have el := r.len
    refine ⟨a, rfl, ⟨xs, Evl.sq_of (g.sm.ex _ _ hs)⟩, kq (Itl K a) H1 I1 _ _ m1 (fun H => SqL K H a xs) (YAt xs) g ⟨by rw [← el]; exact walk_list, fun H2 I2 m2 s2 e2 _ => Evl.sq_of ((e2.trans s2.ex) _ _ hs), ?_⟩ f⟩
    rintro i H2 x H3 I2 m2 hi s2 e2 S ⟨rfl, hx⟩
    obtain ⟨d, h1, h2⟩ := r.getV hx
    exact ⟨I2, d, h1, Go.refl s2, h2.ex e2⟩
  | adr a =>
    have key : ∀ {m2 : Sto} {H2 I2 : Hp}, SM K I2 m2 H2 → seqD m2 (.adr a) = some ds → ∃ xs, H2 a = some (.lst xs) ∧ DtAll K I2 xs ds := fun {m2 H2 I2} s2 e2 => by
      simp only [seqD] at e2
      split at e2
      · rename_i ds' hm
        cases e2
        exact s2.lst hm
      · cases e2
    obtain ⟨xs, h1, r⟩ := key g.sm e
    refine ⟨a, rfl, ⟨xs, Evl.sq_of h1⟩, kq (Itl K a) H1 I1 ds _ m1 (fun H => ∃ zs, H a = some (.lst zs) ∧ zs.length = ds.length) (fun i H x H' => H' = H ∧ ∃ zs, H a = some (.lst zs) ∧ zs[i]? = some x) g ⟨⟨?_, ?_, ?_⟩, ?_, ?_⟩ f⟩
    · rintro i H hi ⟨zs, h1, h2⟩
      exact walk_list.goes i H (by rw [h2]; exact hi) (Evl.sq_of h1)
    · rintro H ⟨zs, h1, h2⟩
      rw [← h2]
      exact walk_list.stops H (Evl.sq_of h1)
    · rintro i H x H' hi ⟨zs, h1, h2⟩ y
      have q := walk_list.yields i H x H' (by rw [h2]; exact hi) (Evl.sq_of h1) y
      exact ⟨q.1, zs, h1, q.2⟩
    · rintro H2 I2 m2 s2 e2 S
      obtain ⟨zs, q2, q3⟩ := key s2 S
      exact ⟨zs, q2, q3.len⟩
    · rintro i H2 x H3 I2 m2 hi s2 e2 S ⟨rfl, zs, y1, y2⟩
      obtain ⟨ws, q2, q3⟩ := key s2 S
      rw [y1] at q2
      cases q2
      obtain ⟨d, h1, h2⟩ := q3.getV y2
      exact ⟨I2, d, h1, Go.refl s2, h2⟩) kx
theorem dw_tup (h : DE K E tl δ m (fun d m1 => ∃ ds, d = .tup ds ∧ Φw ds (fun _ => True) m1) Ψ) : DW K E (iTup K tl) δ m Φw Ψ := fun σ H I s l Q kq kx => h σ H I s l _ (fun v H1 I1 d m1 g p f => by
  obtain ⟨ds, rfl, f⟩ := f
  cases p with
  | @tup a xs _ hs r =>
    have el := r.len
    refine ⟨a, rfl, ⟨xs, Evl.ex_t g.sm.ex hs⟩, kq (Itt K a) H1 I1 _ _ m1 (fun H => SqT K H a xs) (YAt xs) g ⟨by rw [← el]; exact walk_tup, fun H2 I2 m2 s2 e2 _ => Evl.ex_t (e2.trans s2.ex) hs, ?_⟩ f⟩
    rintro i H2 x H3 I2 m2 hi s2 e2 S ⟨rfl, hx⟩
    obtain ⟨d, h1, h2⟩ := r.getV hx
    exact ⟨I2, d, h1, Go.refl s2, h2.ex e2⟩) kx
theorem dw_str (h : DE K E tl δ m (fun d m1 => ∃ z, d = .str z ∧ Φw (signsD z) (fun _ => True) m1) Ψ) : DW K E (iStr tl) δ m Φw Ψ := fun σ H I s l Q kq kx => h σ H I s l _ (fun v H1 I1 d m1 g p f => by
  obtain ⟨z, rfl, f⟩ := f
  cases p
  refine ⟨z, rfl, kq _ H1 I1 _ _ m1 (fun _ => True) _ g ⟨by rw [signsD_len]; exact walk_str, fun _ _ _ _ _ _ => trivial, ?_⟩ f⟩
  rintro i H2 x H3 I2 m2 hi s2 e2 S ⟨rfl, c, hc, rfl⟩
  refine ⟨I2, .str (sign c), ?_, Go.refl s2, .str _⟩
  unfold signsD
  rw [List.getElem?_map]
  have h2 : z.cps.toList[i]? = some c := by simpa using hc
  rw [h2]
  rfl) kx
@[irreducible] def rngD (m : Int) (n : Nat) : List Da := (List.range n).map fun i : Nat => Da.int (m + (i : Int))
theorem rngD_def (m : Int) (n : Nat) : rngD m n = (List.range n).map fun i : Nat => Da.int (m + (i : Int)) := by unfold rngD; rfl
theorem dw_range1 (h : DEA K E tA δ m (fun ds m1 => ∃ n, ds = [.int n] ∧ -(2 ^ 62) ≤ n ∧ n < 2 ^ 62 ∧ Φw (rngD 0 n.toNat) (fun _ => True) m1) Ψ) : DW K E (iRng1 tA) δ m Φw Ψ := fun σ H I s l Q kq kx => h σ H I s l _ (fun vs H1 I1 ds m1 g p f => by
  obtain ⟨n, rfl, h0, h1, f⟩ := f
  cases p with
  | cons a r =>
    cases r
    cases a
    refine ⟨n, rfl, h0, h1, kq _ H1 I1 _ _ m1 (fun _ => True) _ g ⟨by unfold rngD; rw [List.length_map, List.length_range]; exact walk_range, fun _ _ _ _ _ _ => trivial, ?_⟩ f⟩
    rintro i H2 x H3 I2 m2 hi s2 e2 S ⟨rfl, rfl⟩
    have hi' : i < n.toNat := by simpa [rngD] using hi
    exact ⟨I2, .int (0 + (i : Int)), by simp [rngD, hi'], Go.refl s2, .int _⟩) kx
theorem dw_range2 (h : DEA K E tA δ m (fun ds m1 => ∃ lo n, ds = [.int lo, .int n] ∧ -(2 ^ 62) ≤ lo ∧ lo < 2 ^ 62 ∧ -(2 ^ 62) ≤ n ∧ n < 2 ^ 62 ∧ Φw (rngD lo (n - lo).toNat) (fun _ => True) m1) Ψ) : DW K E (iRng2 tA) δ m Φw Ψ := fun σ H I s l Q kq kx => h σ H I s l _ (fun vs H1 I1 ds m1 g p f => by
  obtain ⟨lo, n, rfl, h0, h1, h2, h3, f⟩ := f
  cases p with
  | cons a r =>
    cases r with
    | cons b r =>
      cases r
      cases a
      cases b
      refine ⟨lo, n, rfl, ⟨h0, h1, h2, h3⟩, kq _ H1 I1 _ _ m1 (fun _ => True) _ g ⟨by unfold rngD; rw [List.length_map, List.length_range]; exact walk_range, fun _ _ _ _ _ _ => trivial, ?_⟩ f⟩
      rintro i H2 x H3 I2 m2 hi s2 e2 S ⟨rfl, rfl⟩
      have hi' : i < (n - lo).toNat := by simpa [rngD] using hi
      exact ⟨I2, .int (lo + (i : Int)), by simp [rngD, hi'], Go.refl s2, .int _⟩) kx
theorem zip_get {α β : Type} {xs : List α} {ys : List β} {i : Nat} {x : α} {y : β} (h1 : xs[i]? = some x) (h2 : ys[i]? = some y) : (xs.zip ys)[i]? = some (x, y) := by
  rw [List.getElem?_zip_eq_some]; exact ⟨h1, h2⟩
def zipD (ds es : List Da) : List Da := (ds.zip es).map fun q => .tup [q.1, q.2]
/-- a sequence that stays, with its values -/
theorem sk_fix {H I : Hp} (s : SM K I m H) {v : V} (p : Dt K I v d) (e : seqD m d = some ds) (n : ∀ a, d ≠ .adr a) : ∃ (k : SK) (xs : List V), k.v = v ∧ (∀ H', Ex I H' → k.at_ K H' xs) ∧ DtAll K I xs ds := by
  cases p with
  | @lst a xs _ hs rs => cases e; exact ⟨.l a, xs, rfl, fun H' e' => Evl.sq_of (e' _ _ hs), rs⟩
  | @tup a xs _ hs rs => cases e; exact ⟨.t a, xs, rfl, fun H' e' => Evl.ex_t e' hs, rs⟩
  | str z => cases e; exact ⟨.s z, signs z, rfl, fun _ _ => rfl, signs_dt z I⟩
  | adr a => exact absurd rfl (n a)
  | _ => cases e
def isAdrD : Da → Bool
  | .adr _ => true
  | _ => false
theorem dw_zip2 (h : DEA K E tA δ m (fun es m1 => ∃ d1 d2 ds1 ds2, es = [d1, d2] ∧ isAdrD d1 = false ∧ isAdrD d2 = false ∧ seqD m1 d1 = some ds1 ∧ seqD m1 d2 = some ds2 ∧ Φw (zipD ds1 ds2) (fun _ => True) m1) Ψ) : DW K E (iZip2 K tA) δ m Φw Ψ := fun σ H I s l Q kq kx => h σ H I s l _ (fun vs H1 I1 es m1 g p f => by
  obtain ⟨d1, d2, ds1, ds2, rfl, n1, n2, e1, e2, f⟩ := f
  cases p with
  | cons a r =>
    cases r with
    | cons b r =>
      cases r
      obtain ⟨k1, xs, v1, s1, r1⟩ := sk_fix g.sm a e1 (fun a z => by rw [z] at n1; cases n1)
      obtain ⟨k2, ys, v2, s2, r2⟩ := sk_fix g.sm b e2 (fun a z => by rw [z] at n2; cases n2)
      refine ⟨k1, k2, xs, ys, by rw [v1, v2], s1 _ g.sm.ex, s2 _ g.sm.ex, kq _ H1 I1 _ _ m1 (fun H' => Ex I1 H') (YPair (fun i => xs[i]?) (fun i => ys[i]?)) g ⟨?_, fun H2 I2 m2 sm e _ => e.trans sm.ex, ?_⟩ f⟩
      · have el : (zipD ds1 ds2).length = min xs.length ys.length := by
          unfold zipD
          rw [List.length_map, List.length_zip, r1.len, r2.len]
        rw [el]
        exact walk_zip2 (fun H' e' => s1 H' e') (fun H' e' => s2 H' e')
      · rintro i H2 x H3 I2 m2 hi sm ei _ ⟨T, u, w, rfl, hT, rfl, hu, hw⟩
        obtain ⟨da, h1, h2⟩ := r1.getV hu
        obtain ⟨db, h3, h4⟩ := r2.getV hw
        have gn := Go.new (o := .tup [u, w]) sm hT
        refine ⟨_, .tup [da, db], ?_, gn, .tup (Evl.st_of upd_same) (.cons ((h2.ex ei).ex gn.ei) (.cons ((h4.ex ei).ex gn.ei) .nil))⟩
        unfold zipD
        rw [List.getElem?_map, zip_get h1 h3]
        rfl) kx
def enumD (ds : List Da) : List Da := ds.zipIdx.map fun q => .tup [.int (q.2 : Int), q.1]
/-! ### targets -/
theorem wipe_set {σ : L2.St} {i : Nat} {x : Option V} : ∀ {vs : List Nat}, i ∈ vs → wipe (σ.set i x) vs = wipe σ vs
  | [], h => absurd h (by simp)
  | v :: vs, h => by
    unfold wipe
    by_cases c : i ∈ vs
    · rw [wipe_set c]
    · have e : v = i := by
        rcases List.mem_cons.mp h with q | q
        · exact q.symm
        · exact absurd q c
      subst e
      have key : ∀ (vs : List Nat), v ∉ vs → ∀ σ : L2.St, wipe (σ.set v x) vs = (wipe σ vs).set v x := by
        intro vs
        induction vs with
        | nil => intro _ σ; rfl
        | cons u us ih =>
          intro hn σ
          unfold wipe
          rw [ih (fun q => hn (List.mem_cons_of_mem _ q)) σ]
          have ne : v ≠ u := fun q => hn (by rw [q]; exact List.mem_cons_self)
          rw [List.set_comm _ _ ne]
      rw [key vs c, List.set_set]
/-- the target (of slots T) takes d -/
def DB (K : PySem.W.Frag) (E : XK) (g : TG) (T : List Nat) (δ : Sd) (m : Sto) (d : Da) (Φ : Sd → Sto → Prop) (Ψ : Xn → Sto → Prop) : Prop := ∀ (σ : L2.St) (H I : Hp) (x : V), SM K I m H → SL K I σ δ → Dt K I x d →
  ∀ Q : L2.St → Hp → Prop, (∀ σ' H' I' δ' m', (∀ vs : List Nat, (∀ i ∈ T, i ∈ vs) → wipe σ' vs = wipe σ vs) → Go K H I m H' I' m' → SL K I' σ' δ' → Φ δ' m' → Q σ' H') →
  (∀ x H' I' m', Go K H I m H' I' m' → Ψ x m' → XE K E x H' I') → g x σ H Q
def DBs (K : PySem.W.Frag) (E : XK) (g : TGs) (T : List Nat) (δ : Sd) (m : Sto) (ds : List Da) (Φ : Sd → Sto → Prop) (Ψ : Xn → Sto → Prop) : Prop := ∀ (σ : L2.St) (H I : Hp) (xs : List V), SM K I m H → SL K I σ δ → DtAll K I xs ds →
  ∀ Q : L2.St → Hp → Prop, (∀ σ' H' I' δ' m', (∀ vs : List Nat, (∀ i ∈ T, i ∈ vs) → wipe σ' vs = wipe σ vs) → Go K H I m H' I' m' → SL K I' σ' δ' → Φ δ' m' → Q σ' H') →
  (∀ x H' I' m', Go K H I m H' I' m' → Ψ x m' → XE K E x H' I') → g xs σ H Q
variable {Φd : Sd → Sto → Prop}
theorem db_name {i : Nat} (hi : i < δ.length ∧ Φd (δ.set i (some d)) m) : DB K E (gName i) [i] δ m d Φd Ψ := fun σ H I x s l p Q kq kx => kq _ H I _ m (fun vs h => wipe_set (h i (by simp))) (Go.refl s) (l.set hi.1 (fun d' e' => by cases e'; exact p)) hi.2
theorem db_nil (k : Φd δ m) : DBs K E gNil [] δ m [] Φd Ψ := fun σ H I xs s l p Q kq kx => by
  cases p
  exact ⟨rfl, kq _ H I _ m (fun _ _ => rfl) (Go.refl s) l k⟩
theorem db_cons {g : TG} {gs : TGs} {T1 T2 : List Nat} (h : DB K E g T1 δ m d (fun δ1 m1 => DBs K E gs T2 δ1 m1 ds Φd Ψ) Ψ) : DBs K E (gCons g gs) (T1 ++ T2) δ m (d :: ds) Φd Ψ := fun σ H I xs s l p Q kq kx => by
  cases p with
  | @cons v _ vs _ pv ps =>
    refine ⟨v, vs, rfl, h σ H I v s l pv _ (fun σ1 H1 I1 δ1 m1 w1 g1 l1 f1 => ?_) kx⟩
    refine f1 σ1 H1 I1 vs g1.sm l1 (ps.ex g1.ei) Q (fun σ2 H2 I2 δ2 m2 w2 g2 l2 f2 => ?_) fun x H2 I2 m2 g2 f2 => kx x H2 I2 m2 (g1.trans g2) f2
    exact kq σ2 H2 I2 δ2 m2 (fun vs h => (w2 vs fun i hi => h i (List.mem_append_right _ hi)).trans (w1 vs fun i hi => h i (List.mem_append_left _ hi))) (g1.trans g2) l2 f2
theorem db_consN {gs : TGs} {i : Nat} {T : List Nat} (h : i < δ.length ∧ DBs K E gs T (δ.set i (some d)) m ds Φd Ψ) : DBs K E (gCons (gName i) gs) (i :: T) δ m (d :: ds) Φd Ψ := db_cons (T1 := [i]) (T2 := T) (db_name h)
theorem db_tup {gs : TGs} {n : Nat} {T : List Nat} (h : ds.length = n ∧ DBs K E gs T δ m ds Φd Ψ) : DB K E (gTup K n gs) T δ m (.tup ds) Φd Ψ := fun σ H I x s l p Q kq kx => by
  cases p with
  | @tup a xs _ hs r => exact ⟨a, xs, rfl, Evl.ex_t s.ex hs, by rw [r.len]; exact h.1, h.2 σ H I xs s l r Q kq kx⟩
/-- a list taken apart -/
theorem db_lst {gs : TGs} {n : Nat} {T : List Nat} (h : ds.length = n ∧ DBs K E gs T δ m ds Φd Ψ) : DB K E (gLst K n gs) T δ m (.lst ds) Φd Ψ := fun σ H I x s l p Q kq kx => by
  cases p with
  | @lst a xs _ hs r => exact ⟨a, xs, rfl, Evl.sq_of (s.ex _ _ hs), by rw [r.len]; exact h.1, h.2 σ H I xs s l r Q kq kx⟩
theorem db_lstM {gs : TGs} {n : Nat} {T : List Nat} {a : Addr} (hm : m a = some (.lst ds)) (h : ds.length = n ∧ DBs K E gs T δ m ds Φd Ψ) : DB K E (gLst K n gs) T δ m (.adr a) Φd Ψ := fun σ H I x s l p Q kq kx => by
  cases p
  obtain ⟨xs, h1, r⟩ := s.lst hm
  exact ⟨a, xs, rfl, Evl.sq_of h1, by rw [r.len]; exact h.1, h.2 σ H I xs s l r Q kq kx⟩
/-- a, b = e -/
theorem ds_asg {g : TG} {T : List Nat} {PN PB PC : Nk} {PR : Rk} {PX : Xk} (h : DE K E te δ m (fun d m1 => DB K E g T δ m1 d PN PX) PX) : DS K E (tAsg te g) δ m PN PR PX PB PC := fun σ H I D s l kn kr kb kc kx => h σ H I s l _ (fun v H1 I1 d m1 g1 p f =>
  f σ H1 I1 v g1.sm (l.ex g1.ei) p _ (fun σ' H' I' δ' m' _ g2 l2 f2 => kn σ' H' I' δ' m' (g1.trans g2) l2 f2) fun x H' I' m' g2 f2 => kx x H' I' m' (g1.trans g2) f2) kx
theorem ds_par {i j : Nat} {PN PB PC : Nk} {PR : Rk} {PX : Xk} (h : DEA K E tA δ m (fun ds m1 => ∃ d1 d2, ds = [d1, d2] ∧ i < δ.length ∧ j < δ.length ∧ PN ((δ.set i (some d1)).set j (some d2)) m1) PX) : DS K E (tPar i j tA) δ m PN PR PX PB PC := fun σ H I D s l kn kr kb kc kx => h σ H I s l _ (fun vs H1 I1 ds m1 g p f => by
  obtain ⟨d1, d2, rfl, hi, hj, n⟩ := f
  cases p with
  | @cons v1 _ _ _ p1 r =>
    cases r with
    | @cons v2 _ _ _ p2 r =>
      cases r
      exact ⟨v1, v2, rfl, kn _ H1 I1 _ m1 g (((l.ex g.ei).set hi (v := v1) (fun d' e' => by cases e'; exact p1)).set (v := v2) (by simpa using hj) (fun d' e' => by cases e'; exact p2)) n⟩) kx
/-! ### loops -/
/-- for: W of the turn, the slots and the store -/
theorem ds_for {wi : TI} {g : TG} {t : TS} {T : List Nat} {PN PB PC : Nk} {PR : Rk} {PX : Xk} (h : DW K E wi δ m (fun ds S m1 => ∃ W : Nat → Sd → Sto → Prop, W 0 δ m1 ∧ (∀ i δ' m', W i δ' m' → S m') ∧
    (∀ i d δ' m', ds[i]? = some d → W i δ' m' → DB K E g T δ' m' d (fun δ2 m2 => DS K E t δ2 m2 (W (i + 1)) PR PX PN (W (i + 1))) PX) ∧ (∀ δ' m', W ds.length δ' m' → PN δ' m')) PX) : DS K E (tFor wi g t) δ m PN PR PX PB PC := fun σ H I D s l kn kr kb kc kx => h σ H I s l _ (fun J H1 I1 ds S m1 Gd Y g1 wk f => by
  obtain ⟨W, h0, hS, hs, hd⟩ := f
  refine for_it wk.w (fun i σ' H' => ∃ I' δ' m', Go K H1 I1 m1 H' I' m' ∧ SL K I' σ' δ' ∧ W i δ' m') ⟨I1, δ, m1, Go.refl g1.sm, l.ex g1.ei, h0⟩ ?_ ?_ ?_
  · rintro i σ' H' hi ⟨I', δ', m', a, b, w⟩
    exact wk.g H' I' m' a.sm a.ei (hS i δ' m' w)
  · rintro i x σ' H' H'' hi ⟨I', δ', m', a, b, w⟩ y
    obtain ⟨I3, d, hd1, g3, px⟩ := wk.y i H' x H'' I' m' hi a.sm a.ei (hS i δ' m' w) y
    refine hs i d δ' m' hd1 w σ' H'' I3 x g3.sm (b.ex g3.ei) px _ (fun σ2 H2 I2 δ2 m2 _ g2 l2 f2 => ?_) fun x H2 I2 m2 g2 f2 => kx x H2 I2 m2 (((g1.trans a).trans g3).trans g2) f2
    have g12 := (g1.trans a).trans (g3.trans g2)
    have g22 := a.trans (g3.trans g2)
    refine f2 σ2 H2 I2 _ g2.sm l2 ?_ ?_ ?_ ?_ ?_
    · exact fun σ3 H3 I3 δ3 m3 k1 k2 k3 => ⟨I3, δ3, m3, g22.trans k1, k2, k3⟩
    · exact fun v H3 I3 d' m3 k1 k2 k3 => kr v H3 I3 d' m3 (g12.trans k1) k2 k3
    · exact fun σ3 H3 I3 δ3 m3 k1 k2 k3 => kn σ3 H3 I3 δ3 m3 (g12.trans k1) k2 k3
    · exact fun σ3 H3 I3 δ3 m3 k1 k2 k3 => ⟨I3, δ3, m3, g22.trans k1, k2, k3⟩
    · exact fun x H3 I3 m3 k1 k2 => kx x H3 I3 m3 (g12.trans k1) k2
  · rintro σ' H' ⟨I', δ', m', a, b, w⟩
    exact kn σ' H' I' δ' m' (g1.trans a) b (hd δ' m' w)) kx
/-- for, over a list of things that are written so; W of what was taken -/
theorem ds_forL {α : Type} {wi : TI} {g : TG} {t : TS} {T : List Nat} {PN PB PC : Nk} {PR : Rk} {PX : Xk} (l : List α) (enc : α → Da) (W : List α → Sd → Sto → Prop) (h : DW K E wi δ m (fun ds S m1 => ds = l.map enc ∧ W [] δ m1 ∧ (∀ pre δ' m', W pre δ' m' → S m') ∧
    (∀ pre a post δ' m', l = pre ++ a :: post → W pre δ' m' → DB K E g T δ' m' (enc a) (fun δ2 m2 => DS K E t δ2 m2 (W (pre ++ [a])) PR PX PN (W (pre ++ [a]))) PX) ∧ (∀ δ' m', W l δ' m' → PN δ' m')) PX) : DS K E (tFor wi g t) δ m PN PR PX PB PC := ds_for (T := T) fun σ H I s l0 Q kq kx => h σ H I s l0 Q (fun J H' I' ds S m1 Gd Y gg w q => by
  obtain ⟨rfl, h0, hS, hs, hd⟩ := q
  refine kq J H' I' _ S m1 Gd Y gg w ⟨fun i δ' m' => W (l.take i) δ' m', h0, fun i δ' m' q => hS _ δ' m' q, fun i d δ' m' hd1 q => ?_, fun δ' m' q => ?_⟩
  · rw [List.getElem?_map] at hd1
    cases e : l[i]? with
    | none => rw [e] at hd1; cases hd1
    | some a =>
      rw [e] at hd1
      cases hd1
      obtain ⟨hi, ea⟩ := List.getElem?_eq_some_iff.mp e
      have e1 : l.take (i + 1) = l.take i ++ [a] := by rw [List.take_add_one, e]; rfl
      have e2 : l = l.take i ++ a :: l.drop (i + 1) := by
        have h1 := List.take_append_drop i l
        rw [List.drop_eq_getElem_cons hi, ea] at h1
        exact h1.symm
      have r := hs (l.take i) a _ δ' m' e2 q
      rw [← e1] at r
      exact r
  · rw [List.length_map, List.take_length] at q
    exact hd δ' m' q) kx
/-- while: W of what falls, the slots and the store -/
theorem ds_while {tt : TT} {t : TS} {PN PB PC : Nk} {PR : Rk} {PX : Xk} (W : Nat → Sd → Sto → Prop) (h0 : ∃ n, W n δ m)
    (hs : ∀ n δ' m', W n δ' m' → DT K E tt δ' m' (fun b m2 => if b = true then DS K E t δ' m2 (fun δ3 m3 => ∃ n', n' < n ∧ W n' δ3 m3) PR PX PN (fun δ3 m3 => ∃ n', n' < n ∧ W n' δ3 m3) else PN δ' m2) PX) : DS K E (tWhile tt t) δ m PN PR PX PB PC := fun σ H I D s l kn kr kb kc kx => by
  obtain ⟨n0, h0⟩ := h0
  refine ⟨fun n σ' H' => ∃ I' δ' m', Go K H I m H' I' m' ∧ SL K I' σ' δ' ∧ W n δ' m', ⟨n0, I, δ, m, Go.refl s, l, h0⟩, ?_⟩
  rintro n σ' H' ⟨I', δ', m', a, b, w⟩
  refine hs n δ' m' w σ' H' I' a.sm b _ (fun bb H2 I2 m2 g2 f2 => ?_) fun x H2 I2 m2 g2 f2 => kx x H2 I2 m2 (a.trans g2) f2
  have g12 := a.trans g2
  cases bb with
  | true =>
    rw [if_pos rfl] at f2
    rw [if_pos rfl]
    refine ⟨fun σ3 H3 => ∃ n', n' < n ∧ ∃ I3 δ3 m3, Go K H I m H3 I3 m3 ∧ SL K I3 σ3 δ3 ∧ W n' δ3 m3, fun σ3 H3 q => ?_, ?_⟩
    · obtain ⟨n', lt, r⟩ := q
      exact ⟨n', lt, r⟩
    · refine f2 σ' H2 I2 _ g2.sm (b.ex g2.ei) ?_ ?_ ?_ ?_ ?_
      · rintro σ3 H3 I3 δ3 m3 k1 k2 ⟨n', lt, w'⟩
        exact ⟨n', lt, I3, δ3, m3, g12.trans k1, k2, w'⟩
      · exact fun v H3 I3 d' m3 k1 k2 k3 => kr v H3 I3 d' m3 (g12.trans k1) k2 k3
      · exact fun σ3 H3 I3 δ3 m3 k1 k2 k3 => kn σ3 H3 I3 δ3 m3 (g12.trans k1) k2 k3
      · rintro σ3 H3 I3 δ3 m3 k1 k2 ⟨n', lt, w'⟩
        exact ⟨n', lt, I3, δ3, m3, g12.trans k1, k2, w'⟩
      · exact fun x H3 I3 m3 k1 k2 => kx x H3 I3 m3 (g12.trans k1) k2
  | false =>
    rw [if_neg (by decide)] at f2
    rw [if_neg (by decide)]
    exact kn σ' H2 I2 δ' m2 g12 (b.ex g2.ei) f2
end
end G

set_option maxHeartbeats 4000000
/-! Comprehensions, built-ins, slices, texts, tables, isinstance over data and a store. -/
namespace G
open PySem PySem.Spec PyProof.Rows L2
def wipeD (δ : Sd) : List Nat → Sd
  | [] => δ
  | v :: vs => (wipeD δ vs).set v none
section
variable {K : PySem.W.Frag} {E : XK} {δ : Sd} {m : Sto} {te ta tb tl : TE} {tA : TA} {d d1 d2 : Da} {ds es : List Da} {Φ : Da → Sto → Prop} {Ψ : Xn → Sto → Prop} {Φw : List Da → (Sto → Prop) → Sto → Prop}
theorem SL.wipe1 {I : Hp} {σ : L2.St} (s : SL K I σ δ) (i : Nat) : SL K I (σ.set i none) (δ.set i none) := by
  refine ⟨by simp [s.len], fun j d h => ?_⟩
  by_cases c : j = i
  · subst c
    by_cases hi : j < δ.length
    · rw [List.getElem?_set_self hi] at h
      cases h
    · rw [List.getElem?_eq_none (by simpa using hi)] at h
      cases h
  · rw [List.getElem?_set_ne (Ne.symm c)] at h
    obtain ⟨v, a, b⟩ := s.da j d h
    exact ⟨v, by rw [List.getElem?_set_ne (Ne.symm c)]; exact a, b⟩
theorem SL.wipe {I : Hp} {σ : L2.St} (s : SL K I σ δ) : ∀ vs : List Nat, SL K I (wipe σ vs) (wipeD δ vs)
  | [] => s
  | v :: vs => (SL.wipe s vs).wipe1 v
theorem wipe_wipe {σ : L2.St} : ∀ vs : List Nat, wipe (wipe σ vs) vs = wipe σ vs := by
  intro vs
  have key : ∀ (us : List Nat), (∀ u ∈ us, u ∈ vs) → ∀ τ : L2.St, wipe (wipe τ us) vs = wipe τ vs := by
    intro us
    induction us with
    | nil => intro _ τ; rfl
    | cons u us ih =>
      intro h τ
      show wipe ((wipe τ us).set u none) vs = wipe τ vs
      rw [wipe_set (h u List.mem_cons_self), ih (fun x m => h x (List.mem_cons_of_mem _ m))]
  exact key vs (fun u m => m) σ
/-- an object beside: it is neither of what stays nor of the store -/
theorem Go.side {H I H1 I1 : Hp} {m m1 : Sto} {D : Addr} {o : HO} (g : Go K H I m H1 I1 m1) (h : H D = none) (hi : I1 D = none) (hm : m1 D = none) : Go K H I m (upd H1 D o) I1 m1 := by
  refine ⟨g.ei, fun p u e n t => ?_, fun p e => ?_, g.gn, g.mn, fun p u e => ?_, fun a c e => ?_, g.sm.nt⟩
  · rw [upd_ne (ne_of_none e h)]; exact g.fr p u e n t
  · intro y
    unfold Fr0 at y
    by_cases z : p = D
    · subst z; exact e (.inl h)
    · rw [upd_ne z] at y; exact g.dom p e y
  · rw [upd_ne (ne_of_none e hi)]; exact g.sm.ex p u e
  · obtain ⟨a1, u, a2, a3⟩ := g.sm.st a c e
    have ne : a ≠ D := fun z => by rw [z, hm] at e; cases e
    exact ⟨a1, u, by rw [upd_ne ne]; exact a2, a3⟩
/-- an object beside becomes one that stays -/
theorem Go.side_in {H I H1 I1 : Hp} {m m1 : Sto} {D : Addr} {o : HO} (g : Go K H I m H1 I1 m1) (h : H D = none) (ho : H1 D = some o) (hi : I1 D = none) (hm : m1 D = none) (hx : ∀ ps, o ≠ .tbl ps := by intro _ z; cases z) : Go K H I m H1 (upd I1 D o) m1 := by
  have eJ : Ex I1 (upd I1 D o) := Evl.Ex.new hi
  refine ⟨g.ei.trans eJ, g.fr, g.dom, fun p u e => ?_, g.mn, fun p u e => ?_, fun a c e => ?_, fun p ps e => ?_⟩
  · by_cases z : p = D
    · subst z; exact .inr (.inl (.inl h))
    · rw [upd_ne z] at e; exact g.gn p u e
  · by_cases z : p = D
    · subst z; rw [upd_same] at e; rw [← e]; exact ho
    · rw [upd_ne z] at e; exact g.sm.ex p u e
  · obtain ⟨a1, u, a2, a3⟩ := g.sm.st a c e
    have ne : a ≠ D := fun z => by rw [z, hm] at e; cases e
    exact ⟨by rw [upd_ne ne]; exact a1, u, a2, a3.ex eJ⟩
  · by_cases z : p = D
    · subst z; rw [upd_same] at e; exact hx ps (Option.some.inj e)
    · rw [upd_ne z] at e; exact g.sm.nt p ps e
theorem Go.side_put {H I H1 I1 : Hp} {m m1 : Sto} {D : Addr} {o : HO} {c : Cell} (g : Go K H I m H1 I1 m1) (h : H D = none) (ho : H1 D = some o) (hi : I1 D = none) (hc : CellIs K I1 c o) : Go K H I m H1 I1 (m1.put D c) := by
  refine ⟨g.ei, g.fr, g.dom, g.gn, fun p e => ?_, g.sm.ex, fun a c' e => ?_, g.sm.nt⟩
  · by_cases z : p = D
    · subst z; exact .inr (.inl h)
    · rw [Sto.put_ne z] at e; exact g.mn p e
  · by_cases z : a = D
    · subst z; rw [Sto.put_same] at e; cases e; exact ⟨hi, o, ho, hc⟩
    · rw [Sto.put_ne z] at e; exact g.sm.st a c' e
/-- what is beside stays beside -/
theorem Go.keep_side {H I H1 I1 : Hp} {m m1 : Sto} {D : Addr} {o : HO} (g : Go K H I m H1 I1 m1) (ho : H D = some o) (hi : I D = none) (hm : m D = none) (hx : ¬ Lo o := by rintro (⟨_, z⟩ | ⟨_, z⟩) <;> cases z) (ht : ∀ ps, o ≠ .tbl ps := by intro _ z; cases z) : H1 D = some o ∧ I1 D = none ∧ m1 D = none := by
  refine ⟨g.fr D o ho hm ht, ?_, ?_⟩
  · cases e : I1 D with
    | none => rfl
    | some u =>
      rcases g.gn D u e with z | z | z | z
      · rw [hi] at z; cases z
      · exact absurd z (fr0_ne ho ht)
      · exact absurd hm z
      · have y := g.sm.ex D u e
        rw [g.fr D o ho hm ht] at y
        cases y
        exact absurd z hx
  · cases e : m1 D with
    | none => rfl
    | some c =>
      rcases g.mn D (by rw [e]; exact nofun) with z | z
      · exact absurd hm z
      · exact absurd z (fr0_ne ho ht)
theorem lc_both {wi : TI} {g : TG} {t : TT} {vs T : List Nat} (hT : ∀ i ∈ T, i ∈ vs) (h : DW K E0 wi δ m (fun ds S m1 => ∃ W : Nat → List Da → Sto → Prop, W 0 [] m1 ∧ (∀ i acc m', W i acc m' → S m') ∧ ds.length ≤ 100000 ∧
    (∀ i d acc m', ds[i]? = some d → W i acc m' → DB K E0 g T (wipeD δ vs) m' d (fun δ2 m2 => DT K E0 t δ2 m2 (fun b m3 => if b = true then DE K E0 te δ2 m3 (fun d' m4 => W (i + 1) (acc ++ [d']) m4) (fun _ _ => False) else W (i + 1) acc m3) (fun _ _ => False)) (fun _ _ => False)) ∧
    (∀ acc m', W ds.length acc m' → Φ (.lst acc) m' ∨ ∀ a, m' a = none → Φ (.adr a) (m'.put a (.lst acc)))) (fun _ _ => False)) : DE K E (tLc wi g t te vs) δ m Φ Ψ := fun σ H I s l Q kq kx => h σ H I s l _ (fun J H1 I1 ds S m1 Gd Y g1 wk f D hD => by
  obtain ⟨W, h0, hS, hl, hs, hd⟩ := f
  have l1 := l.ex g1.ei
  refine lc_it wk.w (fun i H' => ∃ (I' : Hp) (m' : Sto) (acc : List Da) (av : List V), Go K H1 I1 m1 H' I' m' ∧ H' D = some (.lst av) ∧ I' D = none ∧ m' D = none ∧ DtAll K I' av acc ∧ acc.length ≤ i ∧ W i acc m') ?_ ?_ ?_ ?_
  · exact ⟨I1, m1, [], [], (Go.refl g1.sm).side hD (g1.sm.inone hD) (g1.sm.free hD), upd_same, g1.sm.inone hD, g1.sm.free hD, .nil, Nat.le_refl _, h0⟩
  · rintro i H' hi ⟨I', m', acc, av, a, _, _, _, _, _, w⟩
    exact wk.g H' I' m' a.sm a.ei (hS i acc m' w)
  · rintro i x H' H'' hi ⟨I', m', acc, av, a, hD', iD, mD, ra, la, w⟩ y
    obtain ⟨I3, d, hd1, g3, px⟩ := wk.y i H' x H'' I' m' hi a.sm a.ei (hS i acc m' w) y
    obtain ⟨hD3, iD3, mD3⟩ := g3.keep_side hD' iD mD
    have l3 : SL K I3 (L2.wipe σ vs) (wipeD δ vs) := (l1.ex (a.ei.trans g3.ei)).wipe vs
    refine hs i d acc m' hd1 w (L2.wipe σ vs) H'' I3 x g3.sm l3 px _ (fun σ2 H2 I2 δ2 m2 wp g2 l2 f2 => ?_) fun x H2 I2 m2 g2 f2 => f2.elim
    refine ⟨(wp vs hT).trans (wipe_wipe vs), f2 σ2 H2 I2 g2.sm l2 _ (fun b H4 I4 m4 g4 f4 => ?_) fun x H2 I2 m2 g2 f2 => f2.elim⟩
    have g34 := g3.trans (g2.trans g4)
    cases b with
    | true =>
      rw [if_pos rfl] at f4
      rw [if_pos rfl]
      refine f4 σ2 H4 I4 g4.sm (l2.ex g4.ei) _ (fun v H5 I5 d' m5 g5 pv f5 => ?_) fun x H2 I2 m2 g2 f2 => f2.elim
      have g35 := g34.trans g5
      obtain ⟨hD5, iD5, mD5⟩ := g35.keep_side hD' iD mD
      have ra5 := ra.ex g35.ei
      refine ⟨av, hD5, Evl.sz_lt (by rw [ra.len]; omega), I5, m5, acc ++ [d'], av ++ [v], (a.trans g35).side hD iD5 mD5, upd_same, iD5, mD5, ra5.append (.cons pv .nil), by simp; exact la, f5⟩
    | false =>
      rw [if_neg (by decide)] at f4
      rw [if_neg (by decide)]
      obtain ⟨hD4, iD4, mD4⟩ := g34.keep_side hD' iD mD
      exact ⟨I4, m4, acc, av, a.trans g34, hD4, iD4, mD4, ra.ex g34.ei, Nat.le_succ_of_le la, f4⟩
  · rintro H' ⟨I', m', acc, av, a, hD', iD, mD, ra, la, w⟩
    rcases hd acc m' w with f | f
    · exact kq (.ref D) H' _ _ m' (g1.trans (a.side_in hD hD' iD mD)) (.lst upd_same (ra.ex (Evl.Ex.new iD))) f
    · exact kq (.ref D) H' I' _ _ (g1.trans (a.side_put (c := .lst acc) hD hD' iD ⟨av, rfl, ra⟩)) (.adr D) (f D mD)) fun x H' I' m' g f => f.elim
theorem dt_yes {Φb : Bool → Sto → Prop} (k : Φb true m) : DT K E tYes δ m Φb Ψ := fun σ H I s l Q kq kx => kq true H I m (Go.refl s) k
/-- [te for g in wi if t]: a list that stays -/
theorem de_lc {wi : TI} {g : TG} {t : TT} {vs T : List Nat} (hT : ∀ i ∈ T, i ∈ vs) (h : DW K E0 wi δ m (fun ds S m1 => ∃ W : Nat → List Da → Sto → Prop, W 0 [] m1 ∧ (∀ i acc m', W i acc m' → S m') ∧ ds.length ≤ 100000 ∧
    (∀ i d acc m', ds[i]? = some d → W i acc m' → DB K E0 g T (wipeD δ vs) m' d (fun δ2 m2 => DT K E0 t δ2 m2 (fun b m3 => if b = true then DE K E0 te δ2 m3 (fun d' m4 => W (i + 1) (acc ++ [d']) m4) (fun _ _ => False) else W (i + 1) acc m3) (fun _ _ => False)) (fun _ _ => False)) ∧
    (∀ acc m', W ds.length acc m' → Φ (.lst acc) m')) (fun _ _ => False)) : DE K E (tLc wi g t te vs) δ m Φ Ψ := lc_both hT fun σ H I s l Q kq kx => h σ H I s l Q (fun J H' I' ds S m' Gd Y g w f => by
  obtain ⟨W, h0, hS, hl, hs, hd⟩ := f
  exact kq J H' I' ds S m' Gd Y g w ⟨W, h0, hS, hl, hs, fun acc m' w => .inl (hd acc m' w)⟩) kx
theorem de_lcM {wi : TI} {g : TG} {t : TT} {vs T : List Nat} (hT : ∀ i ∈ T, i ∈ vs) (h : DW K E0 wi δ m (fun ds S m1 => ∃ W : Nat → List Da → Sto → Prop, W 0 [] m1 ∧ (∀ i acc m', W i acc m' → S m') ∧ ds.length ≤ 100000 ∧
    (∀ i d acc m', ds[i]? = some d → W i acc m' → DB K E0 g T (wipeD δ vs) m' d (fun δ2 m2 => DT K E0 t δ2 m2 (fun b m3 => if b = true then DE K E0 te δ2 m3 (fun d' m4 => W (i + 1) (acc ++ [d']) m4) (fun _ _ => False) else W (i + 1) acc m3) (fun _ _ => False)) (fun _ _ => False)) ∧
    (∀ acc m', W ds.length acc m' → ∀ a, m' a = none → Φ (.adr a) (m'.put a (.lst acc)))) (fun _ _ => False)) : DE K E (tLc wi g t te vs) δ m Φ Ψ := lc_both hT fun σ H I s l Q kq kx => h σ H I s l Q (fun J H' I' ds S m' Gd Y g w f => by
  obtain ⟨W, h0, hS, hl, hs, hd⟩ := f
  exact kq J H' I' ds S m' Gd Y g w ⟨W, h0, hS, hl, hs, fun acc m' w => .inr (hd acc m' w)⟩) kx
def pick (f : Da → Bool) (mk : Da → Da) (ds : List Da) : List Da := (ds.filter f).map mk
theorem pick_all (mk : Da → Da) (ds : List Da) : pick (fun _ => true) mk ds = ds.map mk := by unfold pick; rw [List.filter_eq_self.mpr (fun _ _ => rfl)]
theorem pick_snoc {f : Da → Bool} {mk : Da → Da} {i : Nat} (h : ds[i]? = some d) : pick f mk (ds.take (i + 1)) = if f d = true then pick f mk (ds.take i) ++ [mk d] else pick f mk (ds.take i) := by
  have e : ds.take (i + 1) = ds.take i ++ [d] := by
    rw [List.take_add_one, h]; rfl
  unfold pick
  rw [e, List.filter_append, List.map_append]
  by_cases c : f d = true
  · rw [if_pos c]; simp [c]
  · rw [if_neg c]; simp [c]
/-- .. whose turns change nothing: f keeps, mk makes -/
theorem de_lcP {wi : TI} {g : TG} {t : TT} {vs T : List Nat} (f : Da → Bool) (mk : Da → Da) (hT : ∀ i ∈ T, i ∈ vs) (h : DW K E0 wi δ m (fun ds S m1 => S m1 ∧ ds.length ≤ 100000 ∧
    (∀ d ∈ ds, DB K E0 g T (wipeD δ vs) m1 d (fun δ2 m2 => DT K E0 t δ2 m2 (fun b m3 => b = f d ∧ (if b = true then DE K E0 te δ2 m3 (fun d' m4 => d' = mk d ∧ m4 = m1) (fun _ _ => False) else m3 = m1)) (fun _ _ => False)) (fun _ _ => False)) ∧
    Φ (.lst (pick f mk ds)) m1) (fun _ _ => False)) : DE K E (tLc wi g t te vs) δ m Φ Ψ := de_lc hT fun σ H I s l Q kq kx => h σ H I s l Q (fun J H' I' ds S m1 Gd Y g w q => by
  obtain ⟨hS, hl, hs, hd⟩ := q
  refine kq J H' I' ds S m1 Gd Y g w ⟨fun i acc m' => acc = pick f mk (ds.take i) ∧ m' = m1, ⟨rfl, rfl⟩, fun i acc m' q => q.2 ▸ hS, hl, fun i d acc m' hd1 q => ?_, fun acc m' q => ?_⟩
  · obtain ⟨rfl, rfl⟩ := q
    refine fun σ2 H2 I2 x s2 l2 p2 Q2 kq2 kx2 => hs d (List.mem_of_getElem? hd1) σ2 H2 I2 x s2 l2 p2 Q2 (fun σ3 H3 I3 δ3 m3 wp g3 l3 f3 => kq2 σ3 H3 I3 δ3 m3 wp g3 l3 ?_) kx2
    refine fun σ4 H4 I4 s4 l4 Q4 kq4 kx4 => f3 σ4 H4 I4 s4 l4 Q4 (fun b H5 I5 m5 g5 f5 => kq4 b H5 I5 m5 g5 ?_) kx4
    obtain ⟨rfl, f5⟩ := f5
    by_cases c : f d = true
    · rw [if_pos c] at f5 ⊢
      exact de_imp f5 (fun d' m2 q => by
        show _ = pick f mk (ds.take (i + 1)) ∧ _
        rw [q.1, q.2, pick_snoc hd1, if_pos c]
        exact ⟨rfl, rfl⟩) fun x m' q => q
    · rw [if_neg c] at f5 ⊢
      show _ = pick f mk (ds.take (i + 1)) ∧ _
      rw [f5, pick_snoc hd1, if_neg c]
      exact ⟨rfl, rfl⟩
  · obtain ⟨rfl, rfl⟩ := q
    rw [List.take_length]
    exact hd) kx
/-! ### scalars in lists -/
theorem dtAll_map {α : Type} {H : Hp} {f : α → Da} {g : α → V} (h : ∀ a v, Dt K H v (f a) → v = g a) : ∀ {l : List α} {xs : List V}, DtAll K H xs (l.map f) → xs = l.map g
  | [], xs, r => by cases r; rfl
  | a :: l, xs, r => by
    cases r with
    | cons q r => rw [h a _ q, dtAll_map h r]; rfl
theorem dt_ints {H : Hp} {ns : List Int} {xs : List V} (r : DtAll K H xs (ns.map .int)) : xs = ns.map V.int := dtAll_map (fun a v q => by cases q; rfl) r
theorem dt_bls {H : Hp} {ns : List Bool} {xs : List V} (r : DtAll K H xs (ns.map .bl)) : xs = ns.map V.bl := dtAll_map (fun a v q => by cases q; rfl) r
theorem dt_strs {H : Hp} {ns : List Str} {xs : List V} (r : DtAll K H xs (ns.map .str)) : xs = ns.map V.str := dtAll_map (fun a v q => by cases q; rfl) r
/-! ### built-ins -/
theorem one_arg {H : Hp} {vs : List V} (p : DtAll K H vs [d]) : ∃ v, vs = [v] ∧ Dt K H v d := by
  cases p with
  | cons a r => cases r; exact ⟨_, rfl, a⟩
theorem two_arg {H : Hp} {vs : List V} (p : DtAll K H vs [d1, d2]) : ∃ v u, vs = [v, u] ∧ Dt K H v d1 ∧ Dt K H u d2 := by
  cases p with
  | cons a r => cases r with | cons b r => cases r; exact ⟨_, _, rfl, a, b⟩
theorem rcd_all {d : Da} (h : ∃ bs : List Bool, d = .lst (bs.map .bl) ∧ Φ (.bl (bs.all id)) m) : RCD K (rAll K) [d] m Φ := by
  obtain ⟨bs, rfl, k⟩ := h
  exact rcd_sc (fun _ => .bl _) (fun vs H I s p Q k => by
    obtain ⟨v, rfl, a⟩ := one_arg p
    cases a with
    | lst hs rs => exact ⟨_, bs, rfl, by rw [dt_bls rs] at hs; exact Evl.sq_of (s.ex _ _ hs), k⟩) k
theorem rcd_sum {d : Da} (h : ∃ ns : List Int, d = .lst (ns.map .int) ∧ Φ (.int ns.sum) m) : RCD K (rSum K) [d] m Φ := by
  obtain ⟨ns, rfl, k⟩ := h
  exact rcd_sc (fun _ => .int _) (fun vs H I s p Q k => by
    obtain ⟨v, rfl, a⟩ := one_arg p
    cases a with
    | lst hs rs => exact ⟨_, ns, rfl, by rw [dt_ints rs] at hs; exact Evl.sq_of (s.ex _ _ hs), k⟩) k
/-- len of a list or a tuple -/
def lenD (m : Sto) : Da → Option Nat
  | .lst ds => some ds.length
  | .tup ds => some ds.length
  | .adr a => match m a with
    | some (.lst ds) => some ds.length
    | _ => none
  | _ => none
theorem rcd_len (h : ∃ n, lenD m d = some n ∧ Φ (.int n) m) : RCD K (fun xs H Q => ∃ p ys, xs = [.ref p] ∧ (SqL K H p ys ∨ SqT K H p ys) ∧ Q (.int ys.length) H) [d] m Φ := by
  obtain ⟨n, e, k⟩ := h
  refine rcd_sc (fun _ => .int _) (fun vs H I s p Q k => ?_) k
  obtain ⟨v, rfl, a⟩ := one_arg p
  cases a with
  | lst hs rs => cases e; exact ⟨_, _, rfl, .inl (Evl.sq_of (s.ex _ _ hs)), by rw [rs.len]; exact k⟩
  | tup hs rs => cases e; exact ⟨_, _, rfl, .inr (Evl.ex_t s.ex hs), by rw [rs.len]; exact k⟩
  | adr a =>
    simp only [lenD] at e
    split at e
    · rename_i ds hm
      cases e
      obtain ⟨xs, h1, r⟩ := s.lst hm
      exact ⟨_, _, rfl, .inl (Evl.sq_of h1), by rw [r.len]; exact k⟩
    · cases e
  | _ => cases e
theorem rcd_lenS {z : Str} (h : z.length ≤ sizeLine ∧ Φ (.int z.length) m) : RCD K (fun xs H Q => ∃ z, xs = [.str z] ∧ z.length ≤ sizeLine ∧ Q (.int z.length) H) [.str z] m Φ := rcd_sc (fun _ => .int _) (fun vs H I s p Q k => by
    obtain ⟨v, rfl, a⟩ := one_arg p
    cases a
    exact ⟨z, rfl, h.1, k⟩) h.2
theorem rcd_abs {i : Int} (k : Φ (.int (if i < 0 then -i else i)) m) : RCD K (fun xs H Q => ∃ i, xs = [.int i] ∧ Q (.int (if i < 0 then -i else i)) H) [.int i] m Φ := rcd_sc (fun _ => .int _) (fun vs H I s p Q k => by
    obtain ⟨v, rfl, a⟩ := one_arg p
    cases a
    exact ⟨i, rfl, k⟩) k
theorem rcd_max {i j : Int} (k : Φ (.int (max i j)) m) : RCD K (fun xs H Q => ∃ i j, xs = [.int i, .int j] ∧ Q (.int (if j > i then j else i)) H) [.int i, .int j] m Φ := rcd_sc (fun _ => .int _) (fun vs H I s p Q k => by
    obtain ⟨v, u, rfl, a, b⟩ := two_arg p
    cases a
    cases b
    refine ⟨i, j, rfl, ?_⟩
    have e2 : (if j > i then j else i) = max i j := by
      rw [Int.max_def]
      split <;> split <;> omega
    rw [e2]
    exact k) k
theorem rcd_min {i j : Int} (k : Φ (.int (min i j)) m) : RCD K (fun xs H Q => ∃ i j, xs = [.int i, .int j] ∧ Q (.int (if j < i then j else i)) H) [.int i, .int j] m Φ := rcd_sc (fun _ => .int _) (fun vs H I s p Q k => by
    obtain ⟨v, u, rfl, a, b⟩ := two_arg p
    cases a
    cases b
    refine ⟨i, j, rfl, ?_⟩
    have e2 : (if j < i then j else i) = min i j := by
      rw [Int.min_def]
      split <;> split <;> omega
    rw [e2]
    exact k) k
theorem rcd_int1 {i : Int} (k : Φ (.int i) m) : RCD K (fun xs H Q => (∃ i, xs = [.int i] ∧ Q (.int i) H) ∨ ∃ k, xs = [.bl k] ∧ Q (.int (if k = true then 1 else 0)) H) [.int i] m Φ := rcd_sc (fun _ => .int _) (fun vs H I s p Q k => by
    obtain ⟨v, rfl, a⟩ := one_arg p
    cases a
    exact .inl ⟨i, rfl, k⟩) k
theorem rcd_int1B {b : Bool} (k : Φ (.int (if b = true then 1 else 0)) m) : RCD K (fun xs H Q => (∃ i, xs = [.int i] ∧ Q (.int i) H) ∨ ∃ k, xs = [.bl k] ∧ Q (.int (if k = true then 1 else 0)) H) [.bl b] m Φ := rcd_sc (fun _ => .int _) (fun vs H I s p Q k => by
    obtain ⟨v, rfl, a⟩ := one_arg p
    cases a
    exact .inr ⟨b, rfl, k⟩) k
theorem rcd_intS {z : Str} (h : ∃ n, intText? z = some n ∧ z.length ≤ 640 ∧ Φ (.int n) m) : RCD K (fun xs H Q => ∃ a n, xs = [.str a] ∧ intText? a = some n ∧ a.length ≤ 640 ∧ Q (.int n) H) [.str z] m Φ := by
  obtain ⟨n, e1, e2, k⟩ := h
  exact rcd_sc (fun _ => .int _) (fun vs H I s p Q k => by
    obtain ⟨v, rfl, a⟩ := one_arg p
    cases a
    exact ⟨z, n, rfl, e1, e2, k⟩) k
theorem rcd_strI {i : Int} (h : i.natAbs.log2 < 1920 ∧ Φ (.str (Str.ofString (toString i))) m) : RCD K (fun xs H Q => ∃ i, xs = [.int i] ∧ i.natAbs.log2 < 1920 ∧ Q (.str (Str.ofString (toString i))) H) [.int i] m Φ := rcd_sc (fun _ => .str _) (fun vs H I s p Q k => by
    obtain ⟨v, rfl, a⟩ := one_arg p
    cases a
    exact ⟨i, rfl, h.1, k⟩) h.2
theorem rcd_sorted (h : ∃ ds, seqD m d = some ds ∧ isTupD d = false ∧ isStrD d = false ∧ isAdrD d = false ∧ SortOk ds ∧ Φ (.lst (srt ds)) m) : RCD K (rSortedD K) [d] m Φ := fun vs H I s p Q kq => by
  obtain ⟨ds, e, t1, t2, t3, so, k⟩ := h
  obtain ⟨v, rfl, a⟩ := one_arg p
  cases a with
  | @lst a xs _ hs rs =>
    cases e
    refine ⟨I, _, a, xs, rfl, s.ex, s.ex _ _ hs, rs, so, fun q ys hq hy => ?_⟩
    have gn := Go.new (o := .lst ys) s hq
    exact kq _ _ _ _ m gn (.lst upd_same (hy.ex gn.ei)) k
  | tup hs rs => cases t1
  | str z => cases t2
  | adr a => cases t3
  | _ => cases e
theorem seq_at {H I : Hp} (s : SM K I m H) {v : V} (p : Dt K I v d) (e : seqD m d = some ds) (n : isStrD d = false) : ∃ a xs, v = .ref a ∧ DtAll K I xs ds ∧ (SqL K H a xs ∨ SqT K H a xs) := by
  cases p with
  | lst hs rs => cases e; exact ⟨_, _, rfl, rs, .inl (Evl.sq_of (s.ex _ _ hs))⟩
  | tup hs rs => cases e; exact ⟨_, _, rfl, rs, .inr (Evl.ex_t s.ex hs)⟩
  | str z => cases n
  | adr a =>
    simp only [seqD] at e
    split at e
    · rename_i ds hm
      cases e
      obtain ⟨xs, h1, r⟩ := s.lst hm
      exact ⟨_, _, rfl, r, .inl (Evl.sq_of h1)⟩
    · cases e
  | _ => cases e
theorem rcd_list (h : ∃ ds, seqD m d = some ds ∧ isStrD d = false ∧ Φ (.lst ds) m) : RCD K (fun xs H Q => ∃ p ys, xs = [.ref p] ∧ (SqL K H p ys ∨ SqT K H p ys) ∧ ∀ l, H l = none → Q (.ref l) (upd H l (.lst ys))) [d] m Φ := fun vs H I s p Q kq => by
  obtain ⟨ds, e, n, k⟩ := h
  obtain ⟨v, rfl, a⟩ := one_arg p
  obtain ⟨b, xs, rfl, rs, hs⟩ := seq_at s a e n
  refine ⟨b, xs, rfl, hs, fun l hl => ?_⟩
  have gn := Go.new (o := .lst xs) s hl
  exact kq _ _ _ _ m gn (.lst upd_same (rs.ex gn.ei)) k
theorem rcd_listM (h : ∃ ds, seqD m d = some ds ∧ isStrD d = false ∧ ∀ a, m a = none → Φ (.adr a) (m.put a (.lst ds))) : RCD K (fun xs H Q => ∃ p ys, xs = [.ref p] ∧ (SqL K H p ys ∨ SqT K H p ys) ∧ ∀ l, H l = none → Q (.ref l) (upd H l (.lst ys))) [d] m Φ := fun vs H I s p Q kq => by
  obtain ⟨ds, e, n, k⟩ := h
  obtain ⟨v, rfl, a⟩ := one_arg p
  obtain ⟨b, xs, rfl, rs, hs⟩ := seq_at s a e n
  exact ⟨b, xs, rfl, hs, fun l hl => kq _ _ I _ _ (Go.put (c := .lst ds) s hl ⟨xs, rfl, rs⟩) (.adr l) (k l (s.free hl))⟩
theorem rcd_tuple (h : ∃ ds, seqD m d = some ds ∧ isStrD d = false ∧ isTupD d = false ∧ Φ (.tup ds) m) : RCD K (fun xs H Q => ∃ p ys, xs = [.ref p] ∧ ((SqL K H p ys ∧ ∀ l, H l = none → Q (.ref l) (upd H l (.tup ys))) ∨ (SqT K H p ys ∧ Q (.ref p) H))) [d] m Φ := fun vs H I s p Q kq => by
  obtain ⟨ds, e, n, n2, k⟩ := h
  obtain ⟨v, rfl, a⟩ := one_arg p
  have key : ∃ b xs, v = .ref b ∧ DtAll K I xs ds ∧ SqL K H b xs := by
    cases a with
    | lst hs rs => cases e; exact ⟨_, _, rfl, rs, Evl.sq_of (s.ex _ _ hs)⟩
    | tup hs rs => cases n2
    | str z => cases n
    | adr a =>
      simp only [seqD] at e
      split at e
      · rename_i ds hm
        cases e
        obtain ⟨xs, h1, r⟩ := s.lst hm
        exact ⟨_, _, rfl, r, Evl.sq_of h1⟩
      · cases e
    | _ => cases e
  obtain ⟨b, xs, rfl, rs, hs⟩ := key
  refine ⟨b, xs, rfl, .inl ⟨hs, fun l hl => ?_⟩⟩
  have gn := Go.new (o := .tup xs) s hl
  exact kq _ _ _ _ m gn (.tup (Evl.st_of upd_same) (rs.ex gn.ei)) k
/-! ### slices -/
def DO (K : PySem.W.Frag) (E : XK) (to : TO) (δ : Sd) (m : Sto) (Φo : Option Int → Sto → Prop) (Ψ : Xn → Sto → Prop) : Prop := ∀ σ H I, SM K I m H → SL K I σ δ → ∀ Q : Option Int → Hp → Prop, (∀ o H' I' m', Go K H I m H' I' m' → Φo o m' → Q o H') → (∀ x H' I' m', Go K H I m H' I' m' → Ψ x m' → XE K E x H' I') → to σ H Q
variable {Φo : Option Int → Sto → Prop}
theorem do_no (k : Φo none m) : DO K E tNoPart δ m Φo Ψ := fun σ H I s l Q kq kx => kq _ H I m (Go.refl s) k
theorem do_some (h : DE K E te δ m (fun d m1 => ∃ i, d = .int i ∧ Φo (some i) m1) Ψ) : DO K E (tPart te) δ m Φo Ψ := fun σ H I s l Q kq kx => h σ H I s l _ (fun v H' I' d m' g p f => by
  obtain ⟨i, rfl, f⟩ := f
  cases p
  exact ⟨i, rfl, kq _ H' I' m' g f⟩) kx
def cutD {α : Type} (ds : List α) (lo hi : Option Int) : List α := (ds.drop (HT.sIx ds.length 0 lo)).take (HT.sIx ds.length ds.length hi - HT.sIx ds.length 0 lo)
theorem dtAll_cut {H : Hp} {xs : List V} (r : DtAll K H xs ds) (lo hi : Option Int) : DtAll K H (cutV xs lo hi) (cutD ds lo hi) := by
  unfold cutV cutD
  rw [r.len]
  exact (r.drop _).take _
def RSl (K : PySem.W.Frag) (r : V → Option Int → Option Int → Hp → VK → Prop) (d : Da) (lo hi : Option Int) (m : Sto) (Φ : Da → Sto → Prop) : Prop := ∀ x H I, SM K I m H → Dt K I x d → ∀ Q : VK, (∀ v H' I' d m', Go K H I m H' I' m' → Dt K I' v d → Φ d m' → Q v H') → r x lo hi H Q
theorem de_sl {r : V → Option Int → Option Int → Hp → VK → Prop} {tl th : TO} (h : DE K E te δ m (fun d m1 => DO K E tl δ m1 (fun lo m2 => DO K E th δ m2 (fun hi m3 => RSl K r d lo hi m3 Φ) Ψ) Ψ) Ψ) : DE K E (tSl r te tl th) δ m Φ Ψ := fun σ H I s l Q kq kx => h σ H I s l _ (fun v H1 I1 d m1 g p f =>
  f σ H1 I1 g.sm (l.ex g.ei) _ (fun lo H2 I2 m2 g2 f2 => f2 σ H2 I2 g2.sm (l.ex (g.ei.trans g2.ei)) _ (fun hi H3 I3 m3 g3 f3 => f3 v H3 I3 g3.sm (p.ex (g2.ei.trans g3.ei)) Q fun u H4 I4 d4 m4 g4 p4 f4 => kq u H4 I4 d4 m4 (((g.trans g2).trans g3).trans g4) p4 f4)
    fun x H3 I3 m3 g3 f3 => kx x H3 I3 m3 ((g.trans g2).trans g3) f3) fun x H2 I2 m2 g2 f2 => kx x H2 I2 m2 (g.trans g2) f2) kx
theorem rsl_L {lo hi : Option Int} (h : ∃ ds, seqD m d = some ds ∧ isStrD d = false ∧ isTupD d = false ∧ Φ (.lst (cutD ds lo hi)) m) : RSl K (rSlL K) d lo hi m Φ := fun x H I s p Q kq => by
  obtain ⟨ds, e, n1, n2, k⟩ := h
  have key : ∃ b xs, x = .ref b ∧ DtAll K I xs ds ∧ SqL K H b xs := by
    cases p with
    | lst hs rs => cases e; exact ⟨_, _, rfl, rs, Evl.sq_of (s.ex _ _ hs)⟩
    | tup hs rs => cases n2
    | str z => cases n1
    | adr a =>
      simp only [seqD] at e
      split at e
      · rename_i ds hm
        cases e
        obtain ⟨xs, h1, r⟩ := s.lst hm
        exact ⟨_, _, rfl, r, Evl.sq_of h1⟩
      · cases e
    | _ => cases e
  obtain ⟨b, xs, rfl, rs, hs⟩ := key
  refine ⟨b, xs, rfl, hs, fun q hq => ?_⟩
  have gn := Go.new (o := .lst (cutV xs lo hi)) s hq
  exact kq _ _ _ _ m gn (.lst upd_same ((dtAll_cut rs lo hi).ex gn.ei)) k
theorem rsl_R {lo hi : Option Int} (k : Φ (.lst (cutD ds lo hi)) m) : RSl K (rSlL K) (.scr ds) lo hi m Φ := fun x H I s p Q kq => by
  cases p with
  | @scr a xs _ hs rs =>
    refine ⟨_, _, rfl, Evl.ex_l s.ex hs, fun q hq => ?_⟩
    have gn := Go.new (o := .lst (cutV xs lo hi)) s hq
    exact kq _ _ _ _ m gn (.lst upd_same ((dtAll_cut rs lo hi).ex gn.ei)) k
theorem rcd_lenR (k : Φ (.int ds.length) m) : RCD K (fun xs H Q => ∃ p ys, xs = [.ref p] ∧ (SqL K H p ys ∨ SqT K H p ys) ∧ Q (.int ys.length) H) [.scr ds] m Φ := rcd_sc (fun _ => .int _) (fun vs H I s p Q k => by
  obtain ⟨v, rfl, a⟩ := one_arg p
  cases a with
  | scr hs rs => exact ⟨_, _, rfl, .inl (Evl.ex_l s.ex hs), by rw [rs.len]; exact k⟩) k
theorem rsl_T {lo hi : Option Int} (hw : ¬ (HT.sIx ds.length 0 lo = 0 ∧ HT.sIx ds.length ds.length hi = ds.length) ∧ Φ (.tup (cutD ds lo hi)) m) : RSl K (rSlT K) (.tup ds) lo hi m Φ := fun x H I s p Q kq => by
  cases p with
  | @tup a xs _ hs rs =>
    refine ⟨_, _, rfl, Evl.ex_t s.ex hs, by rw [rs.len]; exact hw.1, fun q hq => ?_⟩
    have gn := Go.new (o := .tup (cutV xs lo hi)) s hq
    exact kq _ _ _ _ m gn (.tup (Evl.st_of upd_same) ((dtAll_cut rs lo hi).ex gn.ei)) hw.2
theorem rsl_S {z : Str} {lo hi : Option Int} (h : z.length ≤ sizeLine ∧ Φ (.str (cutS z lo hi)) m) : RSl K rSlS (.str z) lo hi m Φ := fun x H I s p Q kq => by
  cases p
  exact ⟨z, rfl, h.1, kq _ H I _ m (Go.refl s) (.str _) h.2⟩
theorem cutD_from {α : Type} {ds : List α} {i : Nat} (h : i ≤ ds.length) : cutD ds (some (i : Int)) none = ds.drop i := by
  unfold cutD
  rw [HT.sIx_nat, HT.sIx_none, Nat.min_eq_left h]
  exact List.take_of_length_le (by rw [List.length_drop]; exact Nat.le_refl _)
theorem cutD_to {α : Type} {ds : List α} {i : Nat} : cutD ds none (some (i : Int)) = ds.take i := by
  unfold cutD
  rw [HT.sIx_nat, HT.sIx_none]
  show ((ds.drop 0).take (min i ds.length - 0)) = ds.take i
  rw [List.drop_zero, Nat.sub_zero]
  by_cases c : i ≤ ds.length
  · rw [Nat.min_eq_left c]
  · rw [Nat.min_eq_right (by omega), List.take_of_length_le (Nat.le_refl _), List.take_of_length_le (by omega)]
/-! ### tuples and lists together -/
theorem rd_catT (h : ds ≠ [] ∧ es ≠ [] ∧ ds.length + es.length ≤ 100000 ∧ Φ (.tup (ds ++ es)) m) : RD K (rCatT K) (.tup ds) (.tup es) m Φ := fun x y H I s hx hy Q kq => by
  obtain ⟨h, he, hl, k⟩ := h
  cases hx with
  | @tup a xs _ h1 r1 =>
    cases hy with
    | @tup b ys _ h2 r2 =>
      refine ⟨a, b, xs, ys, rfl, rfl, Evl.ex_t s.ex h1, Evl.ex_t s.ex h2, ?_, Evl.sz_of (by rw [r1.len, r2.len]; exact hl), ?_⟩
      · intro z
        have := r1.len
        rw [z] at this
        exact h (List.length_eq_zero_iff.mp this.symm)
      · exact ⟨fun z => absurd (List.length_eq_zero_iff.mp (by rw [← r2.len, z]; rfl)) he, fun _ p hp => by
          have gn := Go.new (o := .tup (xs ++ ys)) s hp
          exact kq _ _ _ _ m gn (.tup (Evl.st_of upd_same) ((r1.append r2).ex gn.ei)) k⟩
/-- a list known as data or by the store -/
theorem seq_exact {H I : Hp} (s : SM K I m H) {v : V} (p : Dt K I v d) (e : seqD m d = some ds) (n1 : isStrD d = false) (n2 : isTupD d = false) : ∃ a xs, v = .ref a ∧ DtAll K I xs ds ∧ H a = some (.lst xs) := by
  cases p with
  | lst hs rs => cases e; exact ⟨_, _, rfl, rs, s.ex _ _ hs⟩
  | tup hs rs => cases n2
  | str z => cases n1
  | adr a =>
    simp only [seqD] at e
    split at e
    · rename_i ds hm
      cases e
      obtain ⟨xs, h1, r⟩ := s.lst hm
      exact ⟨_, _, rfl, r, h1⟩
    · cases e
  | _ => cases e
theorem rd_cat (h : ∃ ds es, seqD m d1 = some ds ∧ isStrD d1 = false ∧ isTupD d1 = false ∧ seqD m d2 = some es ∧ isStrD d2 = false ∧ isTupD d2 = false ∧ ds.length + es.length ≤ 100000 ∧ Φ (.lst (ds ++ es)) m) : RD K rCat d1 d2 m Φ := fun x y H I s hx hy Q kq => by
  obtain ⟨ds, es, e1, a1, a2, e2, b1, b2, hl, k⟩ := h
  obtain ⟨a, xs, rfl, r1, h1⟩ := seq_exact s hx e1 a1 a2
  obtain ⟨b, ys, rfl, r2, h2⟩ := seq_exact s hy e2 b1 b2
  refine ⟨a, b, xs, ys, rfl, rfl, h1, h2, Evl.sz_of (by rw [r1.len, r2.len]; exact hl), fun p hp => ?_⟩
  have gn := Go.new (o := .lst (xs ++ ys)) s hp
  exact kq _ _ _ _ m gn (.lst upd_same ((r1.append r2).ex gn.ei)) k
/-! ### texts -/
theorem rd_addS {x y : Str} (h : x.length + y.length ≤ sizeLine ∧ Φ (.str (x ++ y)) m) : RD K (fun x y H Q => ∃ i j, x = .str i ∧ y = .str j ∧ i.length + j.length ≤ sizeLine ∧ Q (.str (i ++ j)) H) (.str x) (.str y) m Φ := rd_sc (fun _ => .str _) (fun u v H I s hx hy Q k => by
  cases hx; cases hy
  exact ⟨x, y, rfl, rfl, h.1, k⟩) h.2
theorem rd_inS {c : Nat} {z : Str} (k : Φ (.bl (decide (c ∈ z.cps.toList))) m) : RD K (fun x y H Q => ∃ (c : Nat) (z : Str), x = .str ⟨#[c]⟩ ∧ y = .str z ∧ Q (.bl (decide (c ∈ z.cps.toList))) H) (.str (sign c)) (.str z) m Φ := rd_sc (fun _ => .bl _) (fun u v H I s hx hy Q k => by
  cases hx; cases hy
  exact ⟨c, z, rfl, rfl, k⟩) k
theorem rd_ixS {z : Str} {i : Int} (h : z.length ≤ sizeLine ∧ ∃ c, atI z.cps.toList i = some c ∧ Φ (.str (sign c)) m) : RD K rIxS (.str z) (.int i) m Φ := by
  obtain ⟨hz, c, e, k⟩ := h
  exact rd_sc (fun _ => .str _) (fun u v H I s hx hy Q k => by
    cases hx; cases hy
    exact ⟨z, i, c, rfl, rfl, hz, e, k⟩) k
def RM (K : PySem.W.Frag) (r : V → List V → Hp → VK → Prop) (z : Str) (d : Da) (m : Sto) (Φ : Da → Sto → Prop) : Prop := ∀ v H I, SM K I m H → Dt K I v d → ∀ Q : VK, (∀ v H' I' d m', Go K H I m H' I' m' → Dt K I' v d → Φ d m' → Q v H') → r (.str z) [v] H Q
theorem de_m1 {r : V → List V → Hp → VK → Prop} (h : DE K E ta δ m (fun d m1 => ∃ z, d = .str z ∧ DE K E tb δ m1 (fun d2 m2 => RM K r z d2 m2 Φ) Ψ) Ψ) : DE K E (tM1 r ta tb) δ m Φ Ψ := fun σ H I s l Q kq kx => h σ H I s l _ (fun v H1 I1 d m1 g p f => by
  obtain ⟨z, rfl, f⟩ := f
  cases p
  exact ⟨⟨z, rfl⟩, f σ H1 I1 g.sm (l.ex g.ei) _ (fun u H2 I2 d2 m2 g2 q f2 => f2 u H2 I2 g2.sm q Q fun w H3 I3 d3 m3 g3 p3 f3 => kq w H3 I3 d3 m3 ((g.trans g2).trans g3) p3 f3) fun x H2 I2 m2 g2 f2 => kx x H2 I2 m2 (g.trans g2) f2⟩) kx
theorem rm_split {z w : Str} (h : (w.length == 0) = false ∧ z.length + 2 ≤ sizeLine ∧ Φ (.lst ((Txt.split z w).map .str)) m) : RM K (fun x xs H Q => ∃ a b, x = .str a ∧ xs = [.str b] ∧ (b.length == 0) = false ∧ a.length + 2 ≤ sizeLine ∧ rNewStrs (Txt.split a b) H Q) z (.str w) m Φ := fun v H I s p Q kq => by
  cases p
  refine ⟨z, w, rfl, rfl, h.1, h.2.1, fun p hp => ?_⟩
  have gn := Go.new (o := .lst ((Txt.split z w).map V.str)) s hp
  have key : ∀ (l : List Str) (J : Hp), DtAll K J (l.map V.str) (l.map Da.str) := by
    intro l J
    induction l with
    | nil => exact .nil
    | cons a l ih => exact .cons (.str a) ih
  exact kq _ _ _ _ m gn (.lst upd_same (key _ _)) h.2.2
theorem rm_join {z : Str} {d : Da} (h : ∃ ys : List Str, d = .lst (ys.map .str) ∧ (ys.map (fun x => x.length)).sum + ys.length * z.length ≤ 16777216 ∧ Φ (.str (Txt.join z ys)) m) : RM K (fun x xs H Q => ∃ a p ys, x = .str a ∧ xs = [.ref p] ∧ (SqL K H p (ys.map V.str) ∨ SqT K H p (ys.map V.str)) ∧ (ys.map (fun x => x.length)).sum + ys.length * a.length ≤ 16777216 ∧ Q (.str (Txt.join a ys)) H) z d m Φ := fun v H I s p Q kq => by
  obtain ⟨ys, rfl, h⟩ := h
  cases p with
  | @lst a xs _ hs rs =>
    rw [dt_strs rs] at hs
    exact ⟨z, a, ys, rfl, rfl, .inl (Evl.sq_of (s.ex _ _ hs)), h.1, kq _ H I _ m (Go.refl s) (.str _) h.2⟩
theorem rm_starts {z w : Str} (k : Φ (.bl (Txt.startswith z w)) m) : RM K (fun x xs H Q => ∃ a b, x = .str a ∧ xs = [.str b] ∧ Q (.bl (Txt.startswith a b)) H) z (.str w) m Φ := fun v H I s p Q kq => by
  cases p
  exact ⟨z, w, rfl, rfl, kq _ H I _ m (Go.refl s) (.bl _) k⟩
/-! ### tables -/
theorem rd_inK {a : Addr} {kvs : List (Str × V)} {z : Str} (k : Φ (.bl (kvs.lookup z).isSome) m) : RD K (rInK a kvs) (.str z) (.adr a) m Φ := rd_sc (fun _ => .bl _) (fun u v H I s hx hy Q k => by
  cases hx; cases hy
  exact ⟨z, rfl, rfl, k⟩) k
theorem rd_notinK {a : Addr} {kvs : List (Str × V)} {z : Str} (k : Φ (.bl (!(kvs.lookup z).isSome)) m) : RD K (rNotInK a kvs) (.str z) (.adr a) m Φ := rd_sc (fun _ => .bl _) (fun u v H I s hx hy Q k => by
  cases hx; cases hy
  exact ⟨z, rfl, rfl, k⟩) k
theorem rd_ixK {a : Addr} {kvs : List (Str × V)} {z : Str} (h : ∃ v d, kvs.lookup z = some v ∧ sca d = some v ∧ Φ d m) : RD K (rIxK a kvs) (.adr a) (.str z) m Φ := by
  obtain ⟨v, d, e, hv, k⟩ := h
  exact rd_sc (fun _ => sca_dt hv _) (fun u w H I s hx hy Q k => by
    cases hx; cases hy
    exact ⟨z, v, rfl, rfl, e, k⟩) k
theorem de_adr {a : Addr} (k : Φ (.adr a) m) : DE K E (tC (.ref a)) δ m Φ Ψ := de_c (fun _ => .adr a) k
/-! ### isinstance -/
def tyD (m : Sto) : Da → Value
  | .non => .type "NoneType"
  | .bl _ => .type "bool"
  | .int _ => .type "int"
  | .str _ => .type "str"
  | .lst _ => .type "list"
  | .tup _ => .type "tuple"
  | .obj C _ => .ref C
  | .scr _ => .none
  | .exc _ _ => .none
  | .exl _ _ _ _ => .none
  | .adr a => match m a with
    | some (.lst _) => .type "list"
    | some (.dct _) => .type "dict"
    | some (.dcl _) => .type "dict"
    | some (.tbl _) => .none
    | some (.ins C _) => .ref C
    | none => .none
def tyC : Cell → Bool
  | .dcl _ => false
  | .tbl _ => false
  | _ => true
def okTy (m : Sto) : Da → Prop
  | .adr a => ∃ c, m a = some c ∧ tyC c = true
  | .scr _ => False
  | .exc _ _ => False
  | .exl _ _ _ _ => False
  | _ => True
theorem Dt.ty {H I : Hp} (s : SM K I m H) {v : V} (h : Dt K I v d) (o : okTy m d) : TyX K H v (tyD m d) := by
  cases h with
  | non => exact .base .non
  | bl b => exact .base (.bl b)
  | int i => exact .base (.int i)
  | str x => exact .base (.str x)
  | lst h r => exact .base (.lst (s.ex _ _ h))
  | scr h r => exact o.elim
  | exc a D => exact o.elim
  | exl h r => exact o.elim
  | tup h r =>
    have h := Evl.ex_t s.ex h
    rcases h with (h | ⟨o, h⟩) | ⟨o, _, _, q, c, _⟩
    · exact .base (.tup h)
    · exact .fTuple h
    · exact .kTuple q c
  | obj h r c => exact .base (.ins (s.ex _ _ h) c.cl c.ha c.hn c.tk c.hm)
  | adr a =>
    obtain ⟨c, hm, nd⟩ := o
    simp only [tyD]
    rw [hm]
    cases c with
    | lst ds => obtain ⟨xs, h1, r⟩ := s.lst hm; exact .base (.lst h1)
    | ins C gs => obtain ⟨dx, fs, h1, r, c⟩ := s.ins hm; exact .base (.ins h1 c.cl c.ha c.hn c.tk c.hm)
    | dct kvs => obtain ⟨us, h1, r⟩ := s.dct hm; exact .base (.dK h1)
    | dcl kvs => cases nd
    | tbl q => cases nd
/-- whether data are of a built-in type, by its name -/
def isTy (m : Sto) (n : String) : Da → Bool
  | .non => false
  | .bl _ => n == "bool" || n == "int"
  | .int _ => n == "int"
  | .str _ => n == "str"
  | .lst _ => n == "list"
  | .tup _ => n == "tuple"
  | .obj _ _ => false
  | .scr _ => false
  | .exc _ _ => false
  | .exl _ _ _ _ => false
  | .adr a => match m a with
    | some (.lst _) => n == "list"
    | _ => false
theorem kit_t {a b : String} {r : Bool} (h : kitB a b = some r) : PySem.W.kitOne K (.type a) (.type b) = some r := kit_ty h
theorem kit_isTy {H I : Hp} (s : SM K I m H) {v : V} (h : Dt K I v d) (o : okTy m d) {n : String} (hn : n ∈ ["int", "bool", "str", "list", "tuple"]) : PySem.W.kitOne K (tyD m d) (.type n) = some (isTy m n d) := by
  have key : ∀ {t : String} {f : Bool} (g : String → Bool), (∀ n ∈ ["int", "bool", "str", "list", "tuple"], kitB t n = some (g n)) → PySem.W.kitOne K (.type t) (.type n) = some (g n) := fun g hg => kit_t (hg n hn)
  cases h with
  | non => exact key (f := true) (fun _ => false) (by decide +kernel)
  | bl b => exact key (f := true) (fun n => n == "bool" || n == "int") (by decide +kernel)
  | int i => exact key (f := true) (fun n => n == "int") (by decide +kernel)
  | str x => exact key (f := true) (fun n => n == "str") (by decide +kernel)
  | lst h r => exact key (f := true) (fun n => n == "list") (by decide +kernel)
  | scr h r => exact o.elim
  | exc a D => exact o.elim
  | exl h r => exact o.elim
  | tup h r => exact key (f := true) (fun n => n == "tuple") (by decide +kernel)
  | obj h r c => exact c.kit n hn
  | adr a =>
    obtain ⟨c, hm, nd⟩ := o
    simp only [tyD, isTy]
    rw [hm]
    cases c with
    | lst ds => exact key (f := true) (fun n => n == "list") (by decide +kernel)
    | ins C gs => obtain ⟨dx, fs, h1, r, c⟩ := s.ins hm; exact c.kit n hn
    | dct kvs => exact key (f := true) (fun _ => false) (by decide +kernel)
    | dcl kvs => cases nd
    | tbl q => cases nd
theorem de_isi {n : String} (hn : n ∈ ["int", "bool", "str", "list", "tuple"]) (h : DE K E te δ m (fun d m1 => okTy m1 d ∧ Φ (.bl (isTy m1 n d)) m1) Ψ) : DE K E (tCB (rIsi K) (tCons te (tCons (tC (.ty n)) tNil))) δ m Φ Ψ := fun σ H I s l Q kq kx => h σ H I s l _ (fun v H1 I1 d m1 g p f => 
  ⟨v, .ty n, _, _, isTy m1 n d, rfl, .ty n, p.ty g.sm f.1, kit_isTy g.sm p f.1 hn, kq _ H1 I1 _ m1 g (.bl _) f.2⟩) kx
end
end G

set_option maxHeartbeats 4000000
/-! Promises by the number of arguments; and, or by truth; fields and dicts. -/
namespace G
open PySem PySem.Spec PyProof.Rows L2
def f0 (g : Sto → Rk → Xk → Prop) : Fs := fun ds m R X => ds = [] ∧ g m R X
def f1 (g : Da → Sto → Rk → Xk → Prop) : Fs := fun ds m R X => ∃ a, ds = [a] ∧ g a m R X
def f2 (g : Da → Da → Sto → Rk → Xk → Prop) : Fs := fun ds m R X => ∃ a b, ds = [a, b] ∧ g a b m R X
def f3 (g : Da → Da → Da → Sto → Rk → Xk → Prop) : Fs := fun ds m R X => ∃ a b c, ds = [a, b, c] ∧ g a b c m R X
def f4 (g : Da → Da → Da → Da → Sto → Rk → Xk → Prop) : Fs := fun ds m R X => ∃ a b c d, ds = [a, b, c, d] ∧ g a b c d m R X
def M0 (g : Sto → Rk → Xk → Prop) : Prop := ∀ m R R' X X', (∀ d m', R d m' → R' d m') → (∀ x m', X x m' → X' x m') → g m R X → g m R' X'
theorem mo0 {g : Sto → Rk → Xk → Prop} (h : M0 g) : FMono (f0 g) := fun ds m R R' X X' hr hx ⟨e, q⟩ => ⟨e, h m R R' X X' hr hx q⟩
theorem mo1 {g : Da → Sto → Rk → Xk → Prop} (h : ∀ a, M0 (g a)) : FMono (f1 g) := fun ds m R R' X X' hr hx ⟨a, e, q⟩ => ⟨a, e, h a m R R' X X' hr hx q⟩
theorem mo2 {g : Da → Da → Sto → Rk → Xk → Prop} (h : ∀ a b, M0 (g a b)) : FMono (f2 g) := fun ds m R R' X X' hr hx ⟨a, b, e, q⟩ => ⟨a, b, e, h a b m R R' X X' hr hx q⟩
theorem mo3 {g : Da → Da → Da → Sto → Rk → Xk → Prop} (h : ∀ a b c, M0 (g a b c)) : FMono (f3 g) := fun ds m R R' X X' hr hx ⟨a, b, c, e, q⟩ => ⟨a, b, c, e, h a b c m R R' X X' hr hx q⟩
theorem mo4 {g : Da → Da → Da → Da → Sto → Rk → Xk → Prop} (h : ∀ a b c d, M0 (g a b c d)) : FMono (f4 g) := fun ds m R R' X X' hr hx ⟨a, b, c, d, e, q⟩ => ⟨a, b, c, d, e, h a b c d m R R' X X' hr hx q⟩
theorem ln0 {g : Sto → Rk → Xk → Prop} : ∀ ds m R X, f0 g ds m R X → ds.length = 0 := fun ds m R X ⟨e, _⟩ => by rw [e]; rfl
theorem ln1 {g : Da → Sto → Rk → Xk → Prop} : ∀ ds m R X, f1 g ds m R X → ds.length = 1 := fun ds m R X ⟨a, e, _⟩ => by rw [e]; rfl
theorem ln2 {g : Da → Da → Sto → Rk → Xk → Prop} : ∀ ds m R X, f2 g ds m R X → ds.length = 2 := fun ds m R X ⟨a, b, e, _⟩ => by rw [e]; rfl
theorem ln3 {g : Da → Da → Da → Sto → Rk → Xk → Prop} : ∀ ds m R X, f3 g ds m R X → ds.length = 3 := fun ds m R X ⟨a, b, c, e, _⟩ => by rw [e]; rfl
theorem ln4 {g : Da → Da → Da → Da → Sto → Rk → Xk → Prop} : ∀ ds m R X, f4 g ds m R X → ds.length = 4 := fun ds m R X ⟨a, b, c, d, e, _⟩ => by rw [e]; rfl
/-- what a pure def answers: data or an error; P: where it may be asked -/
def pu (P : Prop) (r : Rs) : Sto → Rk → Xk → Prop := fun m R X => P ∧ match r with
  | .ok d => R d m
  | .er x => X x m
theorem pu_mono {P : Sto → Prop} {r : Sto → Rs} : M0 fun m R X => pu (P m) (r m) m R X := fun m R R' X X' hr hx ⟨p, q⟩ => ⟨p, by
  cases e : r m with
  | ok d => rw [e] at q; exact hr _ _ q
  | er x => rw [e] at q; exact hx _ _ q⟩
theorem ite_t {c : Bool} {P Q : Prop} (h : c = true) (p : P) : if c = true then P else Q := by rw [if_pos h]; exact p
theorem ite_f {c : Bool} {P Q : Prop} (h : c = false) (q : Q) : if c = true then P else Q := by rw [if_neg (by rw [h]; decide)]; exact q
theorem ex_bl {x : Bool} {P : Bool → Prop} (h : P x) : ∃ b, Da.bl x = Da.bl b ∧ P b := ⟨x, rfl, h⟩
theorem ex_int {x : Int} {P : Int → Prop} (h : P x) : ∃ b, Da.int x = Da.int b ∧ P b := ⟨x, rfl, h⟩
theorem ex_str {x : Str} {P : Str → Prop} (h : P x) : ∃ b, Da.str x = Da.str b ∧ P b := ⟨x, rfl, h⟩
theorem ex_tup {x : List Da} {P : List Da → Prop} (h : P x) : ∃ b, Da.tup x = Da.tup b ∧ P b := ⟨x, rfl, h⟩
theorem ex_tru {m : Sto} {d : Da} {x : Bool} {P : Bool → Prop} (e : truD m d = some x) (h : P x) : ∃ b, truD m d = some b ∧ P b := ⟨x, e, h⟩
theorem ok_and {m : Sto} {d : Da} {P : Prop} (e : okTy m d) (h : P) : okTy m d ∧ P := ⟨e, h⟩
theorem lt_and {i n : Nat} {P : Prop} (e : Nat.ble (i + 1) n = true) (h : P) : i < n ∧ P := ⟨Nat.le_of_ble_eq_true e, h⟩
theorem le_and {l : List Da} {n : Nat} {P : Prop} (e : Nat.ble l.length n = true) (h : P) : l.length ≤ n ∧ P := ⟨Nat.le_of_ble_eq_true e, h⟩
theorem tru_lst {m : Sto} {a : Addr} {ds : List Da} (h : m a = some (.lst ds)) : truD m (.adr a) = some (!ds.isEmpty) := by simp only [truD, h]
theorem len_lst {m : Sto} {a : Addr} {ds : List Da} (h : m a = some (.lst ds)) : lenD m (.adr a) = some ds.length := by simp only [lenD, h]
theorem seq_adr {m : Sto} {a : Addr} {ds : List Da} (h : m a = some (.lst ds)) : seqD m (.adr a) = some ds := by simp only [seqD, h]
theorem flds_adr {m : Sto} {a C : Addr} {fs : List (Nat × Da)} (h : m a = some (.ins C fs)) : fldsD m (.adr a) = some (C, fs) := by simp only [fldsD, h]
theorem put_put {m : Sto} {a : Addr} {c c' : Cell} : (m.put a c).put a c' = m.put a c' := by
  funext p
  by_cases h : p = a <;> simp [Sto.put, h]
theorem del_put {m : Sto} {a : Addr} {c : Cell} (h : m a = none) : (m.put a c).del a = m := by
  funext p
  by_cases e : p = a
  · subst e; simp [Sto.del, h]
  · simp [Sto.put, Sto.del, e]
theorem atD_last {α : Type} {l : List α} {x : α} : atD (l ++ [x]) (-1) = some x := by
  unfold atD ixN
  have h : ¬ (0 : Int) ≤ -1 := by decide
  rw [if_neg h, if_pos (by simp; omega)]
  simp
  rw [show (-1 + ((l.length : Int) + 1)).toNat = l.length by omega]
  simp
theorem atD_0 {α : Type} {x : α} {l : List α} : atD (x :: l) 0 = some x := atD_nat (j := 0) rfl
theorem atD_1 {α : Type} {x y : α} {l : List α} : atD (x :: y :: l) 1 = some y := atD_nat (j := 1) rfl
theorem atD_2 {α : Type} {x y z : α} {l : List α} : atD (x :: y :: z :: l) 2 = some z := atD_nat (j := 2) rfl
theorem atD_3 {α : Type} {x y z u : α} {l : List α} : atD (x :: y :: z :: u :: l) 3 = some u := atD_nat (j := 3) rfl
theorem ixN_last {n : Nat} (h : 0 < n) : ixN n (-1) = some (n - 1) := by
  unfold ixN
  have h0 : ¬ (0 : Int) ≤ -1 := by decide
  rw [if_neg h0, if_pos (by omega)]
  congr 1
  omega
section
variable {K : PySem.W.Frag} {E : XK} {δ : Sd} {m : Sto} {te ta tb : TE} {tA : TA} {d : Da} {Φ : Da → Sto → Prop} {Ψ : Xn → Sto → Prop} {PN PB PC : Nk} {PR : Rk} {PX : Xk} {t u : TS}
/-- a call that raises nothing -/
theorem de_call0 {F : Fs} (mo : FMono F) (h : DEA K E tA δ m (fun ds m1 => F ds m1 Φ fun _ _ => False) Ψ) : DE K E (tCall (spW K F) [] E0 tA) δ m Φ Ψ := fun σ H I s l Q kq kx => h σ H I s l _ (fun vs H1 I1 ds m1 g p f => by
  refine ⟨I1, m1, ds, g.sm, by rw [List.append_nil]; exact p, mo _ _ _ _ _ _ ?_ ?_ f⟩
  · exact fun d m' fd v H' I' g2 pv => kq v H' I' d m' (g.trans g2) pv fd
  · exact fun x m' fx H' I' g2 => fx.elim) kx
theorem de_meth0 {C : Addr} {mn : Str} {F : Fs} (mo : FMono F) (hn : mn ∉ fnames) (h : DE K E te δ m (fun d m1 => ∃ gs, fldsD m1 d = some (C, gs) ∧ DEA K E tA δ m1 (fun ds m2 => F (d :: ds) m2 Φ fun _ _ => False) Ψ) Ψ) : DE K E (tMeth C mn (spW K F) [] E0 te tA) δ m Φ Ψ := fun σ H I s l Q kq kx => h σ H I s l _ (fun v H1 I1 d m1 g p f => by
  obtain ⟨gs, e1, f⟩ := f
  obtain ⟨a, dx, fs, rfl, h1, r, c⟩ := flds_of g.sm p e1
  have lk := r.nolook hn
  refine ⟨a, dx, fs, rfl, h1, lk, f σ H1 I1 g.sm (l.ex g.ei) _ (fun vs H2 I2 ds m2 g2 ps f2 => ?_) fun x H2 I2 m2 g2 f2 => kx x H2 I2 m2 (g.trans g2) f2⟩
  refine ⟨I2, m2, d :: ds, g2.sm, by rw [List.append_nil]; exact .cons (p.ex g2.ei) ps, mo _ _ _ _ _ _ ?_ ?_ f2⟩
  · exact fun d m' fd v H' I' g3 pv => kq v H' I' d m' ((g.trans g2).trans g3) pv fd
  · exact fun x m' fx H' I' g3 => fx.elim) kx
theorem de_make0 {C : Addr} {F : Fs} (mo : FMono F) (c : ClsOk K C) (h : DEA K E tA δ m (fun ds m1 => ∀ a, m1 a = none → F (.adr a :: ds) (m1.put a (.ins C [])) (fun d m2 => d = .non ∧ Φ (.adr a) m2) fun _ _ => False) Ψ) : DE K E (tMake C (spW K F) [] E0 tA) δ m Φ Ψ := fun σ H I s l Q kq kx => h σ H I s l _ (fun vs H1 I1 ds m1 g p f => by
  intro x dx hx hdx ne
  have g1 : Go K H1 I1 m1 (upd H1 dx (.own x)) I1 m1 := Go.grow g.sm (Evl.Ex.new hdx)
  have hx' : upd H1 dx (.own x) x = none := by rw [upd_ne (Ne.symm ne)]; exact hx
  have g2 := Go.put (p := x) (o := .ins C dx []) (c := .ins C []) g1.sm hx' ⟨dx, [], rfl, .nil, c⟩
  have g3 := (g.trans g1).trans g2
  refine ⟨I1, m1.put x (.ins C []), .adr x :: ds, g2.sm, by rw [List.append_nil]; exact .cons (.adr x) p, mo _ _ _ _ _ _ ?_ ?_ (f x (g.sm.free hx))⟩
  · rintro d m' ⟨rfl, fd⟩ v H' I' g4 pv
    cases pv
    exact ⟨rfl, kq _ H' I' _ m' (g3.trans g4) (.adr x) fd⟩
  · exact fun y m' fx H' I' g4 => fx.elim) kx
/-! by truth -/
theorem de_andT (h : DE K E ta δ m (fun d m1 => ∃ b, truD m1 d = some b ∧ if b = true then DE K E tb δ m1 Φ Ψ else Φ d m1) Ψ) : DE K E (tAndT K ta tb) δ m Φ Ψ := fun σ H I s l Q kq kx => h σ H I s l _ (fun v H' I' d m' g p f => by
  obtain ⟨b, e, f⟩ := f
  refine ⟨b, tru_of g.sm p e, ?_⟩
  cases b with
  | true => 
    rw [if_pos rfl] at f
    exact f σ H' I' g.sm (l.ex g.ei) Q (fun b H2 I2 d m2 g2 p f2 => kq b H2 I2 d m2 (g.trans g2) p f2) fun x H2 I2 m2 g2 f2 => kx x H2 I2 m2 (g.trans g2) f2
  | false => exact kq _ H' I' _ m' g p (by rw [if_neg (by decide)] at f; exact f)) kx
theorem de_orT (h : DE K E ta δ m (fun d m1 => ∃ b, truD m1 d = some b ∧ if b = true then Φ d m1 else DE K E tb δ m1 Φ Ψ) Ψ) : DE K E (tOrT K ta tb) δ m Φ Ψ := fun σ H I s l Q kq kx => h σ H I s l _ (fun v H' I' d m' g p f => by
  obtain ⟨b, e, f⟩ := f
  refine ⟨b, tru_of g.sm p e, ?_⟩
  cases b with
  | false => 
    rw [if_neg (by decide)] at f
    exact f σ H' I' g.sm (l.ex g.ei) Q (fun b H2 I2 d m2 g2 p f2 => kq b H2 I2 d m2 (g.trans g2) p f2) fun x H2 I2 m2 g2 f2 => kx x H2 I2 m2 (g.trans g2) f2
  | true => exact kq _ H' I' _ m' g p (by rw [if_pos rfl] at f; exact f)) kx
theorem de_notT (h : DE K E ta δ m (fun d m1 => ∃ b, truD m1 d = some b ∧ Φ (.bl (!b)) m1) Ψ) : DE K E (tNotT K ta) δ m Φ Ψ := fun σ H I s l Q kq kx => h σ H I s l _ (fun v H' I' d m' g p f => by
  obtain ⟨b, e, f⟩ := f
  exact ⟨b, tru_of g.sm p e, kq _ H' I' _ m' g (.bl _) f⟩) kx
theorem de_un {r : V → Hp → VK → Prop} (h : DE K E ta δ m (fun d m1 => ∀ x H I, SM K I m1 H → Dt K I x d → ∀ Q : VK, (∀ v H' I' d m', Go K H I m1 H' I' m' → Dt K I' v d → Φ d m' → Q v H') → r x H Q) Ψ) : DE K E (tUn r ta) δ m Φ Ψ := fun σ H I s l Q kq kx => h σ H I s l _ (fun v H' I' d m' g p f => f v H' I' g.sm p Q fun u H2 I2 d2 m2 g2 p2 f2 => kq u H2 I2 d2 m2 (g.trans g2) p2 f2) kx
theorem ru_neg {i : Int} (k : Φ (.int (-i)) m) : ∀ x H I, SM K I m H → Dt K I x (.int i) → ∀ Q : VK, (∀ v H' I' d m', Go K H I m H' I' m' → Dt K I' v d → Φ d m' → Q v H') → rU (fun i => V.int (-i)) x H Q := fun x H I s p Q kq => by
  cases p
  exact ⟨i, rfl, kq _ H I _ m (Go.refl s) (.int _) k⟩
theorem rd_pow {i j : Int} (h : CPow i j ∧ Φ (.int (i ^ j.toNat)) m) : RD K (rI CPow fun i j => .int (i ^ j.toNat)) (.int i) (.int j) m Φ := rd_I h.1 (fun _ => .int _) h.2
/-! fields -/
theorem ds_fld {f : Nat} {tv : TE} (hf : f < fnames.length) (h : DE K E tv δ m (fun d m1 => DE K E ta δ m1 (fun d2 m2 => ∃ a C gs, d2 = .adr a ∧ m2 a = some (.ins C gs) ∧ gs.length < 1000 ∧ PN δ (m2.put a (.ins C (putD f d gs)))) PX) PX) : DS K E (sFld K ta tv (fnm f)) δ m PN PR PX PB PC := fun σ H I D s l kn kr kb kc kx => h σ H I s l _ (fun y H1 I1 d m1 g p q => q σ H1 I1 g.sm (l.ex g.ei) _ (fun x H2 I2 d2 m2 g2 p2 q2 => by
  obtain ⟨a, C, gs, rfl, hm, hl, k⟩ := q2
  cases p2
  obtain ⟨dx, fs, h1, r, c⟩ := g2.sm.ins hm
  have gm := Go.mut (o := .ins C dx (putF (fnm f) y fs)) (c := .ins C (putD f d gs)) g2.sm hm ⟨dx, _, rfl, r.put hf (p.ex g2.ei), c⟩
  have g12 := (g.trans g2).trans gm
  exact ⟨a, C, dx, fs, rfl, h1, c.cl, c.na _ (fnm_mem hf), by rw [r.len]; exact hl, kn _ _ _ _ _ g12 (l.ex g12.ei) k⟩) fun x H2 I2 m2 g2 f2 => kx x H2 I2 m2 (g.trans g2) f2) kx
theorem ds_fldA {f : Nat} {tv : TE} {rd : V → V → Hp → VK → Prop} (hf : f < fnames.length) (h : DE K E ta δ m (fun d1 m1 => ∃ a C gs d0, d1 = .adr a ∧ m1 a = some (.ins C gs) ∧ gs.lookup f = some d0 ∧ DE K E tv δ m1 (fun d m2 => RD K rd d0 d m2 fun d' m3 => ∃ gs', m3 a = some (.ins C gs') ∧ gs'.length < 1000 ∧ PN δ (m3.put a (.ins C (putD f d' gs')))) PX) PX) : DS K E (sFldAug K ta tv rd (fnm f)) δ m PN PR PX PB PC := fun σ H I D s l kn kr kb kc kx => h σ H I s l _ (fun y H1 I1 d m1 g p q => by
  obtain ⟨a, C, gs, d0, rfl, hm, e, q⟩ := q
  cases p
  obtain ⟨dx, fs, h1, r, c⟩ := g.sm.ins hm
  have lk := r.look hf
  rw [e] at lk
  obtain ⟨u, u1, u2⟩ := lk
  refine ⟨a, C, dx, fs, u, rfl, h1, c.cl, c.na _ (fnm_mem hf), u1, q σ H1 I1 g.sm (l.ex g.ei) _ (fun x H2 I2 d2 m2 g2 p2 q2 => ?_) fun x H2 I2 m2 g2 f2 => kx x H2 I2 m2 (g.trans g2) f2⟩
  refine q2 u x H2 I2 g2.sm (u2.ex g2.ei) p2 _ fun z H3 I3 d3 m3 g3 p3 q3 => ?_
  obtain ⟨gs', hm3, hl, k⟩ := q3
  obtain ⟨dx', fs', h3, r3, c3⟩ := g3.sm.ins hm3
  have gm := Go.mut (o := .ins C dx' (putF (fnm f) z fs')) (c := .ins C (putD f d3 gs')) g3.sm hm3 ⟨dx', _, rfl, r3.put hf p3, c3⟩
  have g12 := ((g.trans g2).trans g3).trans gm
  exact ⟨dx', fs', h3, by rw [r3.len]; exact hl, kn _ _ _ _ _ g12 (l.ex g12.ei) k⟩) kx
theorem ds_aug {i : Nat} {ti : TIp} {d0 : Da} (hv : δ[i]? = some (some d0)) (h : DE K E te δ m (fun d m1 => RD K ti d0 d m1 fun d' m2 => i < δ.length ∧ PN (δ.set i (some d')) m2) PX) : DS K E (tAug i te ti) δ m PN PR PX PB PC := fun σ H I D s l kn kr kb kc kx => by
  obtain ⟨v, h1, h2⟩ := l.da i d0 hv
  refine ⟨v, h1, h σ H I s l _ (fun y H1 I1 d m1 g p q => q v y H1 I1 g.sm (h2.ex g.ei) p _ fun z H2 I2 d2 m2 g2 p2 q2 => ?_) kx⟩
  have g12 := g.trans g2
  exact kn _ _ _ _ _ g12 ((l.ex g12.ei).set q2.1 fun d' e => by cases e; exact p2) q2.2
theorem rd_ipI {f : Int → Int → Int} {i j : Int} (k : Φ (.int (f i j)) m) : RD K (ipI f) (.int i) (.int j) m Φ := rd_sc (fun _ => .int _) (fun x y H I s hx hy Q k => by
  cases hx; cases hy
  exact ⟨i, j, rfl, rfl, k⟩) k
/-! comprehensions over a list of things that are written so -/
theorem take_snoc {α : Type} {l : List α} {i : Nat} {a : α} (h : l[i]? = some a) : l.take (i + 1) = l.take i ++ [a] := by
  rw [List.take_add_one, h]; rfl
theorem de_lcT {α : Type} {wi : TI} {g : TG} {t : TT} {vs T : List Nat} (l : List α) (enc : α → Da) (f : α → Bool) (mk : α → Da) (hT : ∀ i ∈ T, i ∈ vs) (h : DW K E0 wi δ m (fun ds S m1 => ds = l.map enc ∧ S m1 ∧ l.length ≤ 100000 ∧
    (∀ a ∈ l, DB K E0 g T (wipeD δ vs) m1 (enc a) (fun δ2 m2 => DT K E0 t δ2 m2 (fun b m3 => b = f a ∧ (if b = true then DE K E0 te δ2 m3 (fun d' m4 => d' = mk a ∧ m4 = m1) (fun _ _ => False) else m3 = m1)) (fun _ _ => False)) (fun _ _ => False)) ∧
    Φ (.lst ((l.filter f).map mk)) m1) (fun _ _ => False)) : DE K E (tLc wi g t te vs) δ m Φ Ψ := de_lc hT fun σ H I s l0 Q kq kx => h σ H I s l0 Q (fun J H' I' ds S m1 Gd Y g w q => by
  obtain ⟨rfl, hS, hl, hs, hd⟩ := q
  refine kq J H' I' _ S m1 Gd Y g w ⟨fun i acc m' => acc = ((l.take i).filter f).map mk ∧ m' = m1, ⟨rfl, rfl⟩, fun i acc m' q => q.2 ▸ hS, by rw [List.length_map]; exact hl, fun i d acc m' hd1 q => ?_, fun acc m' q => ?_⟩
  · obtain ⟨rfl, rfl⟩ := q
    rw [List.getElem?_map] at hd1
    cases e : l[i]? with
    | none => rw [e] at hd1; cases hd1
    | some a =>
      rw [e] at hd1
      cases hd1
      refine fun σ2 H2 I2 x s2 l2 p2 Q2 kq2 kx2 => hs a (List.mem_of_getElem? e) σ2 H2 I2 x s2 l2 p2 Q2 (fun σ3 H3 I3 δ3 m3 wp g3 l3 f3 => kq2 σ3 H3 I3 δ3 m3 wp g3 l3 ?_) kx2
      refine fun σ4 H4 I4 s4 l4 Q4 kq4 kx4 => f3 σ4 H4 I4 s4 l4 Q4 (fun b H5 I5 m5 g5 f5 => kq4 b H5 I5 m5 g5 ?_) kx4
      obtain ⟨rfl, f5⟩ := f5
      by_cases c : f a = true
      · rw [if_pos c] at f5 ⊢
        exact de_imp f5 (fun d' m2 q => by
          show _ = ((l.take (i + 1)).filter f).map mk ∧ _
          rw [q.1, q.2, take_snoc e, List.filter_append, List.map_append, List.filter_cons, if_pos c]
          exact ⟨rfl, rfl⟩) fun x m' q => q
      · rw [if_neg c] at f5 ⊢
        show _ = ((l.take (i + 1)).filter f).map mk ∧ _
        rw [f5, take_snoc e, List.filter_append, List.map_append, List.filter_cons, if_neg c]
        exact ⟨(List.append_nil _).symm, rfl⟩
  · obtain ⟨rfl, rfl⟩ := q
    rw [List.length_map, List.take_length]
    exact hd) kx
theorem de_lcU {α : Type} {wi : TI} {g : TG} {vs T : List Nat} (l : List α) (enc : α → Da) (mk : α → Da) (hT : ∀ i ∈ T, i ∈ vs) (h : DW K E0 wi δ m (fun ds S m1 => ds = l.map enc ∧ S m1 ∧ l.length ≤ 100000 ∧
    (∀ a ∈ l, DB K E0 g T (wipeD δ vs) m1 (enc a) (fun δ2 m2 => DE K E0 te δ2 m2 (fun d' m4 => d' = mk a ∧ m4 = m1) (fun _ _ => False)) (fun _ _ => False)) ∧
    Φ (.lst (l.map mk)) m1) (fun _ _ => False)) : DE K E (tLc wi g tYes te vs) δ m Φ Ψ := de_lcT l enc (fun _ => true) mk hT fun σ H I s l0 Q kq kx => h σ H I s l0 Q (fun J H' I' ds S m1 Gd Y g w q => by
  obtain ⟨e, hS, hl, hs, hd⟩ := q
  refine kq J H' I' _ S m1 Gd Y g w ⟨e, hS, hl, fun a ha => ?_, by rw [List.filter_eq_self.mpr (fun _ _ => rfl)]; exact hd⟩
  refine fun σ2 H2 I2 x s2 l2 p2 Q2 kq2 kx2 => hs a ha σ2 H2 I2 x s2 l2 p2 Q2 (fun σ3 H3 I3 δ3 m3 wp g3 l3 f3 => kq2 σ3 H3 I3 δ3 m3 wp g3 l3 ?_) kx2
  exact dt_yes ⟨rfl, by rw [if_pos rfl]; exact f3⟩) kx
theorem callr_or {X : Cx} {f : Value} {r1 r2 : List V → Hp → VK → Prop} (h1 : CallR X f r1) (h2 : CallR X f r2) : CallR X f (fun xs H Q => r1 xs H Q ∨ r2 xs H Q) := by
  intro pins s σ H vs us Q I rr h
  rcases h with h | h
  · exact h1 pins s σ H vs us Q I rr h
  · exact h2 pins s σ H vs us Q I rr h
theorem rcd_orL {r1 r2 : List V → Hp → VK → Prop} {ds : List Da} (h : RCD K r1 ds m Φ) : RCD K (fun xs H Q => r1 xs H Q ∨ r2 xs H Q) ds m Φ := fun vs H I s p Q kq => .inl (h vs H I s p Q kq)
theorem rcd_orR {r1 r2 : List V → Hp → VK → Prop} {ds : List Da} (h : RCD K r2 ds m Φ) : RCD K (fun xs H Q => r1 xs H Q ∨ r2 xs H Q) ds m Φ := fun vs H I s p Q kq => .inr (h vs H I s p Q kq)
theorem rcd_strS {z : Str} (k : Φ (.str z) m) : RCD K (fun xs H Q => ∃ a, xs = [.str a] ∧ Q (.str a) H) [.str z] m Φ := rcd_sc (fun _ => .str _) (fun vs H I s p Q k => by
    obtain ⟨v, rfl, a⟩ := one_arg p
    cases a
    exact ⟨z, rfl, k⟩) k
/-! known otherwise, the heap as it stands -/
def RGo (K : PySem.W.Frag) (m : Sto) (d : Da) (m' : Sto) (d' : Da) : Prop := ∀ H I, SM K I m H → ∀ v, Dt K I v d → ∃ J, Go K H I m H J m' ∧ Dt K J v d'
theorem de_re (h : DE K E te δ m (fun d m1 => ∃ d' m2, RGo K m1 d m2 d' ∧ Φ d' m2) Ψ) : DE K E te δ m Φ Ψ := fun σ H I s l Q kq kx => h σ H I s l Q (fun v H' I' d m' g p f => by
  obtain ⟨d', m2, r, f⟩ := f
  obtain ⟨J, g2, p2⟩ := r H' I' g.sm v p
  exact kq v H' J d' m2 (g.trans g2) p2 f) kx
theorem Go.less {H I : Hp} {m m' : Sto} (s : SM K I m H) (h : ∀ a c, m' a = some c → m a = some c) : Go K H I m H I m' := ⟨Evl.Ex.refl _, fun _ _ e _ _ => e, fun _ e => e, fun _ _ e => .inl e, fun p e => by
    cases q : m' p with
    | none => exact absurd q e
    | some c => exact .inl (by rw [h p c q]; exact nofun), s.ex, fun a c e => s.st a c (h a c e), s.nt⟩
theorem rgo_less {m' : Sto} (h : ∀ a c, m' a = some c → m a = some c) : RGo K m d m' d := fun H I s v p => ⟨I, Go.less s h, p⟩
/-- an object whose one field is a list, both stay -/
theorem rgo_obj1 {p q C : Addr} {f : Nat} {ds : List Da} (hp : m p = some (.ins C [(f, .adr q)])) (hq : m q = some (.lst ds)) : RGo K m (.adr p) ((m.del q).del p) (.obj C [(f, .lst ds)]) := fun H I s v pv => by
  cases pv
  obtain ⟨J, g, dq⟩ := Go.frz s hq rfl
  have ne : p ≠ q := fun e => by rw [e, hq] at hp; cases hp
  have hp' : m.del q p = some (.ins C [(f, .adr q)]) := by rw [Sto.del_ne ne]; exact hp
  obtain ⟨J2, g2, dp⟩ := Go.frz g.sm hp' rfl
  refine ⟨J2, g.trans g2, ?_⟩
  cases dp with
  | obj h r c =>
    refine .obj h ?_ c
    cases r with
    | cons hi h2 r2 =>
      cases r2
      cases h2
      exact .cons hi (dq.ex g2.ei) .nil
theorem pe_eq {X : Cx} {e : Expr} {t t' : TE} (h : PE X e t) (q : t = t') : PE X e t' := q ▸ h
theorem pts_eq {X : Cx} {es : List Expr} {t t' : TT} (h : PTs X es t) (q : t = t') : PTs X es t' := q ▸ h
end
end G

set_option maxHeartbeats 4000000
/-! More rules: in, forgetting, freezing. -/
namespace G
open PySem PySem.Spec PyProof.Rows L2
section
variable {K : PySem.W.Frag} {E : XK} {δ : Sd} {m m' : Sto} {te : TE} {d d1 d2 : Da} {Φ : Da → Sto → Prop} {Ψ : Xn → Sto → Prop} {PN PB PC : Nk} {PR : Rk} {PX : Xk} {t : TS}
theorem ds_less (h : ∀ a c, m' a = some c → m a = some c) (k : DS K E t δ m' PN PR PX PB PC) : DS K E t δ m PN PR PX PB PC := fun σ H I D s l kn kr kb kc kx => ds_then (Go.less s h) k l kn kr kb kc kx
theorem less_put {p : Addr} {c : Cell} (h : m p = none) : ∀ a c', m a = some c' → (m.put p c) a = some c' := fun a c' e => by
  have ne : a ≠ p := fun z => by rw [z, h] at e; cases e
  rw [Sto.put_ne ne]
  exact e
theorem sca_flat {v : V} (h : sca d = some v) : flatV v = true := by
  cases d <;> simp [sca] at h <;> subst h <;> rfl
theorem dt_scas {α : Type} {H : Hp} {enc : α → Da} {g : α → V} (hg : ∀ a, sca (enc a) = some (g a)) {l : List α} {xs : List V} (r : DtAll K H xs (l.map enc)) : xs = l.map g := dtAll_map (fun a v q => q.sca (hg a)) r
theorem rd_in {α : Type} {neg : Bool} {l : List α} {enc : α → Da} {g : α → V} {vx : V} (hx : sca d1 = some vx) (hd : d2 = .lst (l.map enc) ∨ d2 = .tup (l.map enc)) (hg : ∀ a, sca (enc a) = some (g a)) (k : Φ (.bl (if neg = true then !inV vx (l.map g) else inV vx (l.map g))) m) : RD K (rIn K neg) d1 d2 m Φ := rd_sc (fun _ => .bl _) (fun x y H I s px py Q kq => by
  have e := px.sca hx
  subst e
  have hf : (l.map g).all flatV = true := by
    rw [List.all_map, List.all_eq_true]
    exact fun a _ => sca_flat (hg a)
  rcases hd with rfl | rfl
  · cases py with
    | @lst a xs _ h r =>
      have e := dt_scas hg r
      subst e
      exact ⟨a, _, rfl, .inl (Evl.sq_of (s.ex _ _ h)), sca_flat hx, hf, kq⟩
  · cases py with
    | @tup a xs _ h r =>
      have e := dt_scas hg r
      subst e
      exact ⟨a, _, rfl, .inr (Evl.ex_t s.ex h), sca_flat hx, hf, kq⟩) k
/-- what is left in the store may be forgotten at a return, at an error -/
theorem ds_lessR (h : DS K E t δ m PN (fun d m' => ∃ m2 : Sto, (∀ a c, m2 a = some c → m' a = some c) ∧ PR d m2) (fun x m' => ∃ m2 : Sto, (∀ a c, m2 a = some c → m' a = some c) ∧ PX x m2) PB PC) : DS K E t δ m PN PR PX PB PC := fun σ H I D s l kn kr kb kc kx => h σ H I D s l kn (fun v H' I' d m' g p q => by
  obtain ⟨m2, q1, q2⟩ := q
  exact kr v H' I' d m2 (g.trans (Go.less g.sm q1)) p q2) kb kc fun x H' I' m' g q => by
  obtain ⟨m2, q1, q2⟩ := q
  exact kx x H' I' m2 (g.trans (Go.less g.sm q1)) q2
theorem de_lessX (h : DE K E te δ m (fun d m' => ∃ m2 : Sto, (∀ a c, m2 a = some c → m' a = some c) ∧ Φ d m2) Ψ) : DE K E te δ m Φ Ψ := de_re (de_imp h (fun d m' q => by
  obtain ⟨m2, q1, q2⟩ := q
  exact ⟨d, m2, rgo_less q1, q2⟩) fun _ _ q => q)
theorem less_refl : ∀ a c, m a = some c → m a = some c := fun _ _ h => h
end
end G

set_option maxHeartbeats 4000000
/-! More rules: extend, pop. -/
namespace G
open PySem PySem.Spec PyProof.Rows L2
section
variable {K : PySem.W.Frag} {E : XK} {δ : Sd} {m m' : Sto} {te ta tb : TE} {d d1 d2 : Da} {Φ : Da → Sto → Prop} {Ψ : Xn → Sto → Prop}
/-- xs.extend(ys) as a value -/
theorem de_ext (h : DE K E ta δ m (fun d1 m1 => ∃ a ds1, d1 = .adr a ∧ m1 a = some (.lst ds1) ∧ DE K E te δ m1 (fun d m2 => ∃ ds es, m2 a = some (.lst ds) ∧ d = .lst es ∧ ds.length + es.length ≤ 100000 ∧ Φ .non (m2.put a (.lst (ds ++ es)))) Ψ) Ψ) : DE K E (tBM K "list" rExtend ta (tCons te tNil)) δ m Φ Ψ := fun σ H I s l Q kq kx => h σ H I s l _ (fun v H1 I1 d1 m1 g p f => by
  obtain ⟨a, ds1, rfl, hm1, f⟩ := f
  cases p
  obtain ⟨xs1, h1, _⟩ := g.sm.lst hm1
  refine ⟨.inl ⟨rfl, xs1, Evl.sq_of h1⟩, f σ H1 I1 g.sm (l.ex g.ei) _ (fun u H2 I2 d m2 g2 pu f2 => ?_) fun x H2 I2 m2 g2 f2 => kx x H2 I2 m2 (g.trans g2) f2⟩
  obtain ⟨ds, es, hm, rfl, hl, k⟩ := f2
  obtain ⟨xs, h2, r⟩ := g2.sm.lst hm
  cases pu with
  | @lst b zs _ hb rz =>
    exact ⟨a, b, xs, zs, rfl, rfl, h2, g2.sm.ex _ _ hb, Evl.sz_of (by rw [r.len, rz.len]; exact hl), kq _ _ I2 _ _ ((g.trans g2).trans (Go.mut (c := .lst (ds ++ es)) g2.sm hm ⟨_, rfl, r.append rz⟩)) .non k⟩) kx
theorem DtAll.erase {H : Hp} {vs : List V} {ds : List Da} (n : Nat) (h : DtAll K H vs ds) : DtAll K H (vs.eraseIdx n) (ds.eraseIdx n) := by
  induction vs generalizing ds n with
  | nil => cases h; exact .nil
  | cons u vs ih => cases h with | cons h q => cases n with
    | zero => exact q
    | succ n => exact .cons h (ih n q)
/-- xs.pop(i) as a value -/
theorem de_popAt (h : DE K E ta δ m (fun d1 m1 => ∃ a ds1, d1 = .adr a ∧ m1 a = some (.lst ds1) ∧ DE K E te δ m1 (fun d m2 => ∃ ds i k e, m2 a = some (.lst ds) ∧ d = .int i ∧ -(2 ^ 63) ≤ i ∧ i < 2 ^ 63 ∧ seqIndex? i ds.length = some k ∧ ds[k]? = some e ∧ Φ e (m2.put a (.lst (ds.eraseIdx k)))) Ψ) Ψ) : DE K E (tBM K "list" rPopAt ta (tCons te tNil)) δ m Φ Ψ := fun σ H I s l Q kq kx => h σ H I s l _ (fun v H1 I1 d1 m1 g p f => by
  obtain ⟨a, ds1, rfl, hm1, f⟩ := f
  cases p
  obtain ⟨xs1, h1, _⟩ := g.sm.lst hm1
  refine ⟨.inl ⟨rfl, xs1, Evl.sq_of h1⟩, f σ H1 I1 g.sm (l.ex g.ei) _ (fun u H2 I2 d m2 g2 pu f2 => ?_) fun x H2 I2 m2 g2 f2 => kx x H2 I2 m2 (g.trans g2) f2⟩
  obtain ⟨ds, i, k, e, hm, rfl, i1, i2, hk, he, kk⟩ := f2
  cases pu
  obtain ⟨xs, h2, r⟩ := g2.sm.lst hm
  obtain ⟨y, hy, py⟩ := r.get he
  exact ⟨a, xs, i, k, y, rfl, rfl, h2, i1, i2, by rw [r.len]; exact hk, hy, kq _ _ I2 _ _ ((g.trans g2).trans (Go.mut (c := .lst (ds.eraseIdx k)) g2.sm hm ⟨_, rfl, r.erase k⟩)) py kk⟩) kx
end
end G

set_option maxHeartbeats 4000000
/-! The layer W: a term of the hand layer, its wish over data and store as a function that is reckoned (by whnf), and the proof that the wish suffices, in one record. -/
namespace G
open PySem PySem.Spec PyProof.Rows L2
/-! ### words -/
def iteBA (p : Prop) (q : Prop) : List ((Bool)) → Prop
  | [] => False
  | true :: _ => p
  | false :: r0 => (fun _ : Prop => q) (iteBA p q r0)
abbrev iteB (b : Bool) (p q : Prop) : Prop := iteBA p q [(b)]
theorem iteB_eq (b : Bool) (p q : Prop) : iteB b p q = (match b with
  | true => p
  | false => q) := by cases b <;> rfl
theorem iteB_mono {b : Bool} {p q p' q' : Prop} (h1 : p → p') (h2 : q → q') (h : iteB b p q) : iteB b p' q' := by
  cases b
  · exact h2 h
  · exact h1 h
theorem iteB_if {b : Bool} {p q : Prop} (h : iteB b p q) : if b = true then p else q := by
  cases b
  · rw [if_neg (by decide)]; exact h
  · rw [if_pos rfl]; exact h
theorem iteB_of {b : Bool} {p q : Prop} (h : if b = true then p else q) : iteB b p q := by
  cases b
  · rw [if_neg (by decide)] at h; exact h
  · rw [if_pos rfl] at h; exact h
def optKA {α : Type} (k : α → Prop) : List ((Option α)) → Prop
  | [] => False
  | some a :: _ => k a
  | none :: r0 => optKA k r0
abbrev optK {α : Type} (o : Option α) (k : α → Prop) : Prop := optKA k [(o)]
theorem optK_eq {α : Type} (o : Option α) (k : α → Prop) : optK o k = (match o with
  | some a => k a
  | none => False) := by cases o <;> rfl
theorem optK_ok {α : Type} {o : Option α} {k : α → Prop} (h : optK o k) : ∃ a, o = some a ∧ k a := by
  cases o with
  | none => exact h.elim
  | some a => exact ⟨a, rfl, h⟩
theorem optK_mono {α : Type} {o : Option α} {k k' : α → Prop} (f : ∀ a, k a → k' a) (h : optK o k) : optK o k' := by
  cases o with
  | none => exact h
  | some a => exact f a h
theorem optK_of {α : Type} {o : Option α} {a : α} {k : α → Prop} (e : o = some a) (h : k a) : optK o k := by rw [e]; exact h
/-- a slot read -/
def getS : Sd → Nat → (Da → Prop) → Prop
  | [], _, _ => False
  | x :: _, 0, k => optK x k
  | _ :: r, n + 1, k => getS r n k
theorem getS_ok : ∀ {δ : Sd} {i : Nat} {k : Da → Prop}, getS δ i k → ∃ d, δ[i]? = some (some d) ∧ k d
  | [], _, _, h => h.elim
  | x :: _, 0, k, h => by
    obtain ⟨d, rfl, h⟩ := optK_ok (show optK x k from h)
    exact ⟨d, rfl, h⟩
  | _ :: r, n + 1, k, h => by
    have h : getS r n k := h
    obtain ⟨d, h1, h2⟩ := getS_ok h
    exact ⟨d, by simpa using h1, h2⟩
theorem getS_mono : ∀ {δ : Sd} {i : Nat} {k k' : Da → Prop}, (∀ d, k d → k' d) → getS δ i k → getS δ i k'
  | [], _, _, _, _, h => h.elim
  | x :: _, 0, k, k', f, h => optK_mono f (show optK x k from h)
  | _ :: r, n + 1, k, k', f, h => getS_mono (δ := r) (i := n) f h
/-- a slot stored -/
def setS : Sd → Nat → Option Da → (Sd → Prop) → Prop
  | _ :: r, 0, d, k => k (d :: r)
  | x :: r, n + 1, d, k => setS r n d fun r' => k (x :: r')
  | [], _, _, _ => False
theorem setS_ok : ∀ {δ : Sd} {i : Nat} {d : Option Da} {k : Sd → Prop}, setS δ i d k → i < δ.length ∧ k (δ.set i d)
  | [], _, _, _, h => h.elim
  | _ :: r, 0, d, k, h => ⟨by simp, h⟩
  | x :: r, n + 1, d, k, h => by
    have h : setS r n d (fun r' => k (x :: r')) := h
    obtain ⟨h1, h2⟩ := setS_ok h
    exact ⟨by simp; omega, h2⟩
theorem setS_mono : ∀ {δ : Sd} {i : Nat} {d : Option Da} {k k' : Sd → Prop}, (∀ δ', k δ' → k' δ') → setS δ i d k → setS δ i d k'
  | [], _, _, _, _, _, h => h.elim
  | _ :: r, 0, d, k, k', f, h => f _ h
  | x :: r, n + 1, d, k, k', f, h => setS_mono (δ := r) (i := n) (fun r' => f (x :: r')) h
/-- the truth of data -/
def truKA (m : Sto) (k : Bool → Prop) : List ((Da)) → Prop
  | [] => False
  | .non :: _ => k false
  | .bl b :: _ => k b
  | .int i :: _ => k (i != 0)
  | .str x :: _ => x.length ≤ sizeLine ∧ k ((x.length : Int) != 0)
  | .lst ds :: _ => k (!ds.isEmpty)
  | .tup ds :: _ => k (!ds.isEmpty)
  | .adr a :: _ => optK (m a) fun c => match c with
    | .lst ds => k (!ds.isEmpty)
    | .dct kvs => k (!kvs.isEmpty)
    | _ => False
  | _ :: r0 => truKA m k r0
abbrev truK (m : Sto) (d : Da) (k : Bool → Prop) : Prop := truKA m k [(d)]
theorem truK_eq (m : Sto) (d : Da) (k : Bool → Prop) : truK m d k = (match d with
  | .non => k false
  | .bl b => k b
  | .int i => k (i != 0)
  | .str x => x.length ≤ sizeLine ∧ k ((x.length : Int) != 0)
  | .lst ds => k (!ds.isEmpty)
  | .tup ds => k (!ds.isEmpty)
  | .adr a => optK (m a) fun c => match c with
    | .lst ds => k (!ds.isEmpty)
    | .dct kvs => k (!kvs.isEmpty)
    | _ => False
  | _ => False) := by cases d <;> rfl
theorem truK_ok {m : Sto} {d : Da} {k : Bool → Prop} (h : truK m d k) : ∃ b, truD m d = some b ∧ k b := by
  cases d with
  | non => exact ⟨_, rfl, h⟩
  | bl b => exact ⟨_, rfl, h⟩
  | int i => exact ⟨_, rfl, h⟩
  | str x => exact ⟨_, if_pos h.1, h.2⟩
  | lst ds => exact ⟨_, rfl, h⟩
  | tup ds => exact ⟨_, rfl, h⟩
  | obj C fs => exact h.elim
  | scr ds => exact h.elim
  | exc a D => exact h.elim
  | exl a D dx ld => exact h.elim
  | adr a =>
    obtain ⟨c, e, h⟩ := optK_ok h
    simp only [truD, e]
    cases c with
    | lst ds => exact ⟨_, rfl, h⟩
    | dct kvs => exact ⟨_, rfl, h⟩
    | ins C fs => exact h.elim
    | dcl kvs => exact h.elim
    | tbl q => exact h.elim
theorem truK_mono {m : Sto} {d : Da} {k k' : Bool → Prop} (f : ∀ b, k b → k' b) (h : truK m d k) : truK m d k' := by
  cases d with
  | non => exact f _ h
  | bl b => exact f _ h
  | int i => exact f _ h
  | str x => exact ⟨h.1, f _ h.2⟩
  | lst ds => exact f _ h
  | tup ds => exact f _ h
  | obj C fs => exact h
  | scr ds => exact h
  | exc a D => exact h
  | exl a D dx ld => exact h
  | adr a =>
    refine optK_mono (fun c h => ?_) h
    cases c with
    | lst ds => exact f _ h
    | dct kvs => exact f _ h
    | ins C fs => exact h
    | dcl kvs => exact h
    | tbl q => exact h
/-! ### the records -/
structure SE (K : PySem.W.Frag) where
  t : XK → TE
  w : Sd → Sto → Rk → Xk → Prop
  ok : ∀ {E : XK} {δ : Sd} {m : Sto} {Φ : Rk} {Ψ : Xk}, w δ m Φ Ψ → DE K E (t E) δ m Φ Ψ
  mono : ∀ {δ : Sd} {m : Sto} {Φ Φ' : Rk} {Ψ Ψ' : Xk}, (∀ d m', Φ d m' → Φ' d m') → (∀ x m', Ψ x m' → Ψ' x m') → w δ m Φ Ψ → w δ m Φ' Ψ'
structure SAr (K : PySem.W.Frag) where
  t : XK → TA
  w : Sd → Sto → (List Da → Sto → Prop) → Xk → Prop
  ok : ∀ {E : XK} {δ : Sd} {m : Sto} {Φ : List Da → Sto → Prop} {Ψ : Xk}, w δ m Φ Ψ → DEA K E (t E) δ m Φ Ψ
  mono : ∀ {δ : Sd} {m : Sto} {Φ Φ' : List Da → Sto → Prop} {Ψ Ψ' : Xk}, (∀ d m', Φ d m' → Φ' d m') → (∀ x m', Ψ x m' → Ψ' x m') → w δ m Φ Ψ → w δ m Φ' Ψ'
structure STe (K : PySem.W.Frag) where
  t : XK → TT
  w : Sd → Sto → (Bool → Sto → Prop) → Xk → Prop
  ok : ∀ {E : XK} {δ : Sd} {m : Sto} {Φ : Bool → Sto → Prop} {Ψ : Xk}, w δ m Φ Ψ → DT K E (t E) δ m Φ Ψ
  mono : ∀ {δ : Sd} {m : Sto} {Φ Φ' : Bool → Sto → Prop} {Ψ Ψ' : Xk}, (∀ d m', Φ d m' → Φ' d m') → (∀ x m', Ψ x m' → Ψ' x m') → w δ m Φ Ψ → w δ m Φ' Ψ'
structure SSt (K : PySem.W.Frag) where
  t : XK → TS
  w : Sd → Sto → Nk → Rk → Xk → Nk → Nk → Prop
  ok : ∀ {E : XK} {δ : Sd} {m : Sto} {N : Nk} {R : Rk} {X : Xk} {B C : Nk}, w δ m N R X B C → DS K E (t E) δ m N R X B C
  mono : ∀ {δ : Sd} {m : Sto} {N N' : Nk} {R R' : Rk} {X X' : Xk} {B B' C C' : Nk}, (∀ d m', N d m' → N' d m') → (∀ d m', R d m' → R' d m') → (∀ d m', X d m' → X' d m') → (∀ d m', B d m' → B' d m') → (∀ d m', C d m' → C' d m') → w δ m N R X B C → w δ m N' R' X' B' C'
/-- what is walked: its data; where it may change, what must hold of the store at each turn -/
structure SIt (K : PySem.W.Frag) where
  t : XK → TI
  w : Sd → Sto → (List Da → Option (Sto → Prop) → Sto → Prop) → Xk → Prop
  ok : ∀ {E : XK} {δ : Sd} {m : Sto} {Φ : List Da → Option (Sto → Prop) → Sto → Prop} {Ψ : Xk}, w δ m Φ Ψ → DW K E (t E) δ m (fun ds S m' => ∃ o, (∀ m2, S m2 ↔ o.elim True fun s => s m2) ∧ Φ ds o m') Ψ
  mono : ∀ {δ : Sd} {m : Sto} {Φ Φ' : List Da → Option (Sto → Prop) → Sto → Prop} {Ψ Ψ' : Xk}, (∀ d o m', Φ d o m' → Φ' d o m') → (∀ x m', Ψ x m' → Ψ' x m') → w δ m Φ Ψ → w δ m Φ' Ψ'
structure STg (K : PySem.W.Frag) where
  t : TG
  T : List Nat
  w : Sd → Sto → Da → Nk → Xk → Prop
  ok : ∀ {E : XK} {δ : Sd} {m : Sto} {d : Da} {Φ : Nk} {Ψ : Xk}, w δ m d Φ Ψ → DB K E t T δ m d Φ Ψ
  mono : ∀ {δ : Sd} {m : Sto} {d : Da} {Φ Φ' : Nk} {Ψ Ψ' : Xk}, (∀ d m', Φ d m' → Φ' d m') → (∀ x m', Ψ x m' → Ψ' x m') → w δ m d Φ Ψ → w δ m d Φ' Ψ'
structure STgs (K : PySem.W.Frag) where
  t : TGs
  T : List Nat
  n : Nat
  w : Sd → Sto → List Da → Nk → Xk → Prop
  ok : ∀ {E : XK} {δ : Sd} {m : Sto} {ds : List Da} {Φ : Nk} {Ψ : Xk}, w δ m ds Φ Ψ → ds.length = n ∧ DBs K E t T δ m ds Φ Ψ
  mono : ∀ {δ : Sd} {m : Sto} {ds : List Da} {Φ Φ' : Nk} {Ψ Ψ' : Xk}, (∀ d m', Φ d m' → Φ' d m') → (∀ x m', Ψ x m' → Ψ' x m') → w δ m ds Φ Ψ → w δ m ds Φ' Ψ'
/-- an operation on two values -/
structure O2 (K : PySem.W.Frag) where
  r : R2
  w : Da → Da → Sto → Rk → Prop
  ok : ∀ {d1 d2 : Da} {m : Sto} {Φ : Rk}, w d1 d2 m Φ → RD K r d1 d2 m Φ
  mono : ∀ {d1 d2 : Da} {m : Sto} {Φ Φ' : Rk}, (∀ d m', Φ d m' → Φ' d m') → w d1 d2 m Φ → w d1 d2 m Φ'
/-- a built-in that is called -/
structure C1 (K : PySem.W.Frag) where
  r : List V → Hp → VK → Prop
  w : List Da → Sto → Rk → Prop
  ok : ∀ {ds : List Da} {m : Sto} {Φ : Rk}, w ds m Φ → RCD K r ds m Φ
  mono : ∀ {ds : List Da} {m : Sto} {Φ Φ' : Rk}, (∀ d m', Φ d m' → Φ' d m') → w ds m Φ → w ds m Φ'
/-- a def's promise -/
structure Fn where
  F : Fs
  mo : FMono F
section
variable {K : PySem.W.Frag}
/-! ### expressions -/
def sVar (i : Nat) : SE K where
  t := fun _ => tVar i
  w := fun δ m Φ Ψ => getS δ i fun d => Φ d m
  ok := fun h => by obtain ⟨d, h1, h2⟩ := getS_ok h; exact de_var h1 h2
  mono := fun f _ h => getS_mono (fun d => f d _) h
def sInt (i : Int) : SE K := ⟨fun _ => tC (.int i), fun δ m Φ Ψ => Φ (.int i) m, fun h => de_int h, fun f _ h => f _ _ h⟩
def sStr (x : Str) : SE K := ⟨fun _ => tC (.str x), fun δ m Φ Ψ => Φ (.str x) m, fun h => de_str h, fun f _ h => f _ _ h⟩
def sBl (b : Bool) : SE K := ⟨fun _ => tC (.bl b), fun δ m Φ Ψ => Φ (.bl b) m, fun h => de_bl h, fun f _ h => f _ _ h⟩
def sNon : SE K := ⟨fun _ => tC .non, fun δ m Φ Ψ => Φ .non m, fun h => de_non h, fun f _ h => f _ _ h⟩
def sAdr (a : Addr) : SE K := ⟨fun _ => tC (.ref a), fun δ m Φ Ψ => Φ (.adr a) m, fun h => de_adr h, fun f _ h => f _ _ h⟩
def sNil : SAr K := ⟨fun _ => tNil, fun δ m Φ Ψ => Φ [] m, fun h => de_nil h, fun f _ h => f _ _ h⟩
def sCons (a : SE K) (as : SAr K) : SAr K where
  t := fun E => tCons (a.t E) (as.t E)
  w := fun δ m Φ Ψ => a.w δ m (fun d m1 => as.w δ m1 (fun ds m2 => Φ (d :: ds) m2) Ψ) Ψ
  ok := fun h => de_cons (a.ok (a.mono (fun _ _ h => as.ok h) (fun _ _ h => h) h))
  mono := fun f g h => a.mono (fun _ _ h => as.mono (fun _ _ h => f _ _ h) g h) g h
def sTup (as : SAr K) : SE K where
  t := fun E => tTup (as.t E)
  w := fun δ m Φ Ψ => as.w δ m (fun ds m1 => iteB (Nat.ble ds.length 100000) (Φ (.tup ds) m1) False) Ψ
  ok := fun h => de_tup (as.ok (as.mono (fun ds _ h => by
    cases e : Nat.ble ds.length 100000 with
    | true => rw [e] at h; exact ⟨Nat.le_of_ble_eq_true e, h⟩
    | false => rw [e] at h; exact h.elim) (fun _ _ h => h) h))
  mono := fun f g h => as.mono (fun _ _ h => iteB_mono (f _ _) id h) g h
/-- a list that stays -/
def sLst (as : SAr K) : SE K where
  t := fun E => tLst (as.t E)
  w := fun δ m Φ Ψ => as.w δ m (fun ds m1 => iteB (Nat.ble ds.length 100000) (Φ (.lst ds) m1) False) Ψ
  ok := fun h => de_lst (as.ok (as.mono (fun ds _ h => by
    cases e : Nat.ble ds.length 100000 with
    | true => rw [e] at h; exact ⟨Nat.le_of_ble_eq_true e, h⟩
    | false => rw [e] at h; exact h.elim) (fun _ _ h => h) h))
  mono := fun f g h => as.mono (fun _ _ h => iteB_mono (f _ _) id h) g h
/-- a list of the store -/
def sLstM (as : SAr K) : SE K where
  t := fun E => tLst (as.t E)
  w := fun δ m Φ Ψ => as.w δ m (fun ds m1 => iteB (Nat.ble ds.length 100000) (∀ a, m1 a = none → Φ (.adr a) (m1.put a (.lst ds))) False) Ψ
  ok := fun h => de_lstM (as.ok (as.mono (fun ds _ h => by
    cases e : Nat.ble ds.length 100000 with
    | true => rw [e] at h; exact ⟨Nat.le_of_ble_eq_true e, h⟩
    | false => rw [e] at h; exact h.elim) (fun _ _ h => h) h))
  mono := fun f g h => as.mono (fun _ _ h => iteB_mono (fun h a ha => f _ _ (h a ha)) id h) g h
def sOp (o : O2 K) (a b : SE K) : SE K where
  t := fun E => tOp o.r (a.t E) (b.t E)
  w := fun δ m Φ Ψ => a.w δ m (fun d1 m1 => b.w δ m1 (fun d2 m2 => o.w d1 d2 m2 Φ) Ψ) Ψ
  ok := fun h => de_op (a.ok (a.mono (fun _ _ h => b.ok (b.mono (fun _ _ h => o.ok h) (fun _ _ h => h) h)) (fun _ _ h => h) h))
  mono := fun f g h => a.mono (fun _ _ h => b.mono (fun _ _ h => o.mono f h) g h) g h
def negKA (k : Da → Prop) : List ((Da)) → Prop
  | [] => False
  | .int i :: _ => k (.int (-i))
  | _ :: r0 => negKA k r0
abbrev negK (d : Da) (k : Da → Prop) : Prop := negKA k [(d)]
theorem negK_eq (d : Da) (k : Da → Prop) : negK d k = (match d with
  | .int i => k (.int (-i))
  | _ => False) := by cases d <;> rfl
def sNeg (a : SE K) : SE K where
  t := fun E => tUn (rU fun i => V.int (-i)) (a.t E)
  w := fun δ m Φ Ψ => a.w δ m (fun d m1 => negK d fun d' => Φ d' m1) Ψ
  ok := fun h => de_un (a.ok (a.mono (fun d m1 h => by
    cases d with
    | int i => exact ru_neg h
    | _ => exact h.elim) (fun _ _ h => h) h))
  mono := fun f g h => a.mono (fun d _ h => by cases d <;> first | exact f _ _ h | exact h) g h
def sNot (a : SE K) : SE K where
  t := fun E => tNotT K (a.t E)
  w := fun δ m Φ Ψ => a.w δ m (fun d m1 => truK m1 d fun b => Φ (.bl (!b)) m1) Ψ
  ok := fun h => de_notT (a.ok (a.mono (fun d m1 h => truK_ok h) (fun _ _ h => h) h))
  mono := fun f g h => a.mono (fun d _ h => truK_mono (fun b => f _ _) h) g h
def sAnd (a b : SE K) : SE K where
  t := fun E => tAndT K (a.t E) (b.t E)
  w := fun δ m Φ Ψ => a.w δ m (fun d m1 => truK m1 d fun c => iteB c (b.w δ m1 Φ Ψ) (Φ d m1)) Ψ
  ok := fun h => de_andT (a.ok (a.mono (fun d m1 h => by
    obtain ⟨c, e, h⟩ := truK_ok h
    exact ⟨c, e, iteB_if (iteB_mono (fun h => b.ok h) (fun h => h) h)⟩) (fun _ _ h => h) h))
  mono := fun f g h => a.mono (fun d _ h => truK_mono (fun c h => iteB_mono (fun h => b.mono f g h) (f _ _) h) h) g h
def sOr (a b : SE K) : SE K where
  t := fun E => tOrT K (a.t E) (b.t E)
  w := fun δ m Φ Ψ => a.w δ m (fun d m1 => truK m1 d fun c => iteB c (Φ d m1) (b.w δ m1 Φ Ψ)) Ψ
  ok := fun h => de_orT (a.ok (a.mono (fun d m1 h => by
    obtain ⟨c, e, h⟩ := truK_ok h
    exact ⟨c, e, iteB_if (iteB_mono (fun h => h) (fun h => b.ok h) h)⟩) (fun _ _ h => h) h))
  mono := fun f g h => a.mono (fun d _ h => truK_mono (fun c h => iteB_mono (f _ _) (fun h => b.mono f g h) h) h) g h
/-- an expression as a test -/
def sTru (a : SE K) : STe K where
  t := fun E => fun σ H Q => a.t E σ H fun x H' => ∃ k, TruV K x H' k ∧ Q k H'
  w := fun δ m Φ Ψ => a.w δ m (fun d m1 => truK m1 d fun b => Φ b m1) Ψ
  ok := fun h => dt_tru (a.ok (a.mono (fun d m1 h => truK_ok h) (fun _ _ h => h) h))
  mono := fun f g h => a.mono (fun d _ h => truK_mono (fun b => f _ _) h) g h
def sYes : STe K := ⟨fun _ => tYes, fun δ m Φ Ψ => Φ true m, fun h => dt_yes h, fun f _ h => f _ _ h⟩
def sIfe (c : STe K) (a b : SE K) : SE K where
  t := fun E => tIf (c.t E) (a.t E) (b.t E)
  w := fun δ m Φ Ψ => c.w δ m (fun k m1 => iteB k (a.w δ m1 Φ Ψ) (b.w δ m1 Φ Ψ)) Ψ
  ok := fun h => de_ife (c.ok (c.mono (fun k m1 h => iteB_if (iteB_mono (fun h => a.ok h) (fun h => b.ok h) h)) (fun _ _ h => h) h))
  mono := fun f g h => c.mono (fun k _ h => iteB_mono (fun h => a.mono f g h) (fun h => b.mono f g h) h) g h
def blKA (k : Bool → Prop) : List ((Da)) → Prop
  | [] => False
  | .bl b :: _ => k b
  | _ :: r0 => blKA k r0
abbrev blK (d : Da) (k : Bool → Prop) : Prop := blKA k [(d)]
theorem blK_eq (d : Da) (k : Bool → Prop) : blK d k = (match d with
  | .bl b => k b
  | _ => False) := by cases d <;> rfl
theorem blK_ok {d : Da} {k : Bool → Prop} (h : blK d k) : ∃ b, d = .bl b ∧ k b := by cases d <;> first | exact ⟨_, rfl, h⟩ | exact h.elim
theorem blK_mono {d : Da} {k k' : Bool → Prop} (f : ∀ b, k b → k' b) (h : blK d k) : blK d k' := by cases d <;> first | exact f _ h | exact h
def sChain (o o' : O2 K) (a b c : SE K) : SE K where
  t := fun E => tChain o.r o'.r (a.t E) (b.t E) (c.t E)
  w := fun δ m Φ Ψ => a.w δ m (fun d1 m1 => b.w δ m1 (fun d2 m2 => o.w d1 d2 m2 fun d m3 => blK d fun k => iteB k (c.w δ m3 (fun d3 m4 => o'.w d2 d3 m4 Φ) Ψ) (Φ (.bl false) m3)) Ψ) Ψ
  ok := fun h => de_chain (a.ok (a.mono (fun _ _ h => b.ok (b.mono (fun _ _ h => o.ok (o.mono (fun _ _ h => by
    obtain ⟨k, e, h⟩ := blK_ok h
    exact ⟨k, e, iteB_if (iteB_mono (fun h => c.ok (c.mono (fun _ _ h => o'.ok h) (fun _ _ h => h) h)) (fun h => h) h)⟩) h)) (fun _ _ h => h) h)) (fun _ _ h => h) h))
  mono := fun f g h => a.mono (fun _ _ h => b.mono (fun _ _ h => o.mono (fun _ _ h => blK_mono (fun k h => iteB_mono (fun h => c.mono (fun _ _ h => o'.mono f h) g h) (f _ _) h) h) h) g h) g h
/-- the fields of an object -/
def fldsKA (m : Sto) (k : Addr → List (Nat × Da) → Prop) : List ((Da)) → Prop
  | [] => False
  | .obj C gs :: _ => k C gs
  | .adr a :: _ => optK (m a) fun c => match c with
    | .ins C gs => k C gs
    | _ => False
  | _ :: r0 => fldsKA m k r0
abbrev fldsK (m : Sto) (d : Da) (k : Addr → List (Nat × Da) → Prop) : Prop := fldsKA m k [(d)]
theorem fldsK_eq (m : Sto) (d : Da) (k : Addr → List (Nat × Da) → Prop) : fldsK m d k = (match d with
  | .obj C gs => k C gs
  | .adr a => optK (m a) fun c => match c with
    | .ins C gs => k C gs
    | _ => False
  | _ => False) := by cases d <;> rfl
theorem fldsK_ok {m : Sto} {d : Da} {k : Addr → List (Nat × Da) → Prop} (h : fldsK m d k) : ∃ C gs, fldsD m d = some (C, gs) ∧ k C gs := by
  cases d with
  | obj C gs => exact ⟨C, gs, rfl, h⟩
  | adr a =>
    obtain ⟨c, e, h⟩ := optK_ok h
    cases c with
    | ins C gs => exact ⟨C, gs, by simp only [fldsD, e], h⟩
    | _ => exact h.elim
  | _ => exact h.elim
theorem fldsK_mono {m : Sto} {d : Da} {k k' : Addr → List (Nat × Da) → Prop} (f : ∀ C gs, k C gs → k' C gs) (h : fldsK m d k) : fldsK m d k' := by
  cases d with
  | obj C gs => exact f _ _ h
  | adr a =>
    refine optK_mono (fun c h => ?_) h
    cases c with
    | ins C gs => exact f _ _ h
    | _ => exact h
  | _ => exact h
/-- by number -/
def lookK : List (Nat × Da) → Nat → (Da → Prop) → Prop
  | [], _, _ => False
  | (j, d) :: r, i, k => match Nat.beq i j with
    | true => k d
    | false => lookK r i k
theorem lookK_ok : ∀ {gs : List (Nat × Da)} {i : Nat} {k : Da → Prop}, lookK gs i k → ∃ d, gs.lookup i = some d ∧ k d
  | [], _, _, h => h.elim
  | (j, d) :: r, i, k, h => by
    unfold lookK at h
    split at h
    · rename_i e
      have : i = j := Nat.eq_of_beq_eq_true e
      subst this
      exact ⟨d, by simp [List.lookup], h⟩
    · rename_i e
      have ne : (i == j) = false := by
        have : i ≠ j := fun z => by rw [z, Nat.beq_refl] at e; cases e
        simpa using this
      obtain ⟨d', h1, h2⟩ := lookK_ok h
      exact ⟨d', by simp only [List.lookup, ne]; exact h1, h2⟩
theorem lookK_mono : ∀ {gs : List (Nat × Da)} {i : Nat} {k k' : Da → Prop}, (∀ d, k d → k' d) → lookK gs i k → lookK gs i k'
  | [], _, _, _, _, h => h
  | (j, d) :: r, i, k, k', f, h => by
    unfold lookK at h ⊢
    split at h
    · exact f _ h
    · exact lookK_mono f h
def sFld (a : SE K) (f : Nat) (hf : f < fnames.length := by decide) : SE K where
  t := fun E => tFld K (a.t E) (fnm f)
  w := fun δ m Φ Ψ => a.w δ m (fun d m1 => fldsK m1 d fun C gs => lookK gs f fun d' => Φ d' m1) Ψ
  ok := fun h => de_fld hf (a.ok (a.mono (fun d m1 h => by
    obtain ⟨C, gs, e1, h⟩ := fldsK_ok h
    obtain ⟨d', e2, h⟩ := lookK_ok h
    exact ⟨C, gs, d', e1, e2, h⟩) (fun _ _ h => h) h))
  mono := fun g x h => a.mono (fun d _ h => fldsK_mono (fun C gs h => lookK_mono (fun d h => g _ _ h) h) h) x h
/-! calls -/
def sCB (c : C1 K) (as : SAr K) : SE K where
  t := fun E => tCB c.r (as.t E)
  w := fun δ m Φ Ψ => as.w δ m (fun ds m1 => c.w ds m1 Φ) Ψ
  ok := fun h => de_cb (as.ok (as.mono (fun _ _ h => c.ok h) (fun _ _ h => h) h))
  mono := fun f g h => as.mono (fun _ _ h => c.mono f h) g h
def sCall (F : Fn) (as : SAr K) : SE K where
  t := fun E => tCall (spW K F.F) [] E (as.t E)
  w := fun δ m Φ Ψ => as.w δ m (fun ds m1 => F.F ds m1 Φ Ψ) Ψ
  ok := fun h => de_call F.mo (as.ok h)
  mono := fun f g h => as.mono (fun _ _ h => F.mo _ _ _ _ _ _ f g h) g h
/-- a method, of an object whose class is known -/
def sMeth (C : Addr) (mn : Str) (F : Fn) (a : SE K) (as : SAr K) (hn : mn ∉ fnames := by decide +kernel) : SE K where
  t := fun E => tMeth C mn (spW K F.F) [] E (a.t E) (as.t E)
  w := fun δ m Φ Ψ => a.w δ m (fun d m1 => fldsK m1 d fun C' gs => C' = C ∧ as.w δ m1 (fun ds m2 => F.F (d :: ds) m2 Φ Ψ) Ψ) Ψ
  ok := fun h => de_meth F.mo hn (a.ok (a.mono (fun d m1 h => by
    obtain ⟨C', gs, e1, h2⟩ := fldsK_ok h
    exact ⟨gs, by rw [e1, h2.1], as.ok h2.2⟩) (fun _ _ h => h) h))
  mono := fun f g h => a.mono (fun d _ h => fldsK_mono (fun C gs h => ⟨h.1, as.mono (fun _ _ h => F.mo _ _ _ _ _ _ f g h) g h.2⟩) h) g h
/-- C(..): the new object is in the store -/
def sMake (C : Addr) (c : ClsOk K C) (F : Fn) (as : SAr K) : SE K where
  t := fun E => tMake C (spW K F.F) [] E (as.t E)
  w := fun δ m Φ Ψ => as.w δ m (fun ds m1 => ∀ a, m1 a = none → F.F (.adr a :: ds) (m1.put a (.ins C [])) (fun d m2 => d = .non ∧ Φ (.adr a) m2) Ψ) Ψ
  ok := fun h => de_make F.mo c (as.ok h)
  mono := fun f g h => as.mono (fun _ _ h a ha => F.mo _ _ _ _ _ _ (fun _ _ h => ⟨h.1, f _ _ h.2⟩) g (h a ha)) g h
/-- what is in the store stays from now on -/
def frzKA (m : Sto) (k : Da → Sto → Prop) : List ((Da)) → Prop
  | [] => False
  | .adr a :: _ => optK (m a) fun c => match c with
    | .lst ds => k (.lst ds) (m.del a)
    | .ins C gs => k (.obj C gs) (m.del a)
    | _ => k (.adr a) m
  | d :: r0 => (fun _ : Prop => k d m) (frzKA m k r0)
abbrev frzK (d : Da) (m : Sto) (k : Da → Sto → Prop) : Prop := frzKA m k [(d)]
theorem frzK_eq (d : Da) (m : Sto) (k : Da → Sto → Prop) : frzK d m k = (match d with
  | .adr a => optK (m a) fun c => match c with
    | .lst ds => k (.lst ds) (m.del a)
    | .ins C gs => k (.obj C gs) (m.del a)
    | _ => k (.adr a) m
  | d => k d m) := by cases d <;> rfl
theorem frzK_ok {d : Da} {m : Sto} {k : Da → Sto → Prop} (h : frzK d m k) : ∃ d' m', RGo K m d m' d' ∧ k d' m' := by
  have self : k d m → ∃ d' m', RGo K m d m' d' ∧ k d' m' := fun h => ⟨d, m, fun H I s v p => ⟨I, Go.refl s, p⟩, h⟩
  cases d with
  | adr a =>
    obtain ⟨c, e, h⟩ := optK_ok h
    cases c with
    | lst ds => exact ⟨_, _, fun H I s v p => by cases p; exact Go.frz s e rfl, h⟩
    | ins C gs => exact ⟨_, _, fun H I s v p => by cases p; exact Go.frz s e rfl, h⟩
    | dct kvs => exact self h
    | dcl kvs => exact self h
    | tbl q => exact self h
  | _ => exact self h
theorem frzK_mono {d : Da} {m : Sto} {k k' : Da → Sto → Prop} (f : ∀ d m, k d m → k' d m) (h : frzK d m k) : frzK d m k' := by
  cases d with
  | adr a =>
    refine optK_mono (fun c h => ?_) h
    cases c with
    | lst ds => exact f _ _ h
    | ins C gs => exact f _ _ h
    | dct kvs => exact f _ _ h
    | dcl kvs => exact f _ _ h
    | tbl q => exact f _ _ h
  | _ => exact f _ _ h
def sFrz (a : SE K) : SE K where
  t := a.t
  w := fun δ m Φ Ψ => a.w δ m (fun d m1 => frzK d m1 Φ) Ψ
  ok := fun h => de_re (a.ok (a.mono (fun d m1 h => frzK_ok h) (fun _ _ h => h) h))
  mono := fun f g h => a.mono (fun d _ h => frzK_mono (fun d m h => f _ _ h) h) g h
end
end G

set_option maxHeartbeats 4000000
/-! W: operations, built-ins, methods of texts and lists, slices. -/
namespace G
open PySem PySem.Spec PyProof.Rows L2
/-! ### words -/
@[irreducible] def eqS (x y : Str) : Bool := decide (x = y)
theorem eqS_def (x y : Str) : eqS x y = decide (x = y) := by unfold eqS; rfl
theorem eqS_self (x : Str) : eqS x x = true := by rw [eqS_def]; exact decide_eq_true rfl
theorem eqS_ne {x y : Str} (h : x ≠ y) : eqS x y = false := by rw [eqS_def]; exact decide_eq_false h
/-- x is in z -/
@[irreducible] def inS (x z : Str) : Bool := !(Builtin.Str.occurrences z x 0 z.length 1).isEmpty
theorem inS_def (x z : Str) : inS x z = !(Builtin.Str.occurrences z x 0 z.length 1).isEmpty := by unfold inS; rfl
theorem inS_sign (c : Nat) (z : Str) : inS (sign c) z = decide (c ∈ z.cps.toList) := by rw [inS_def]; exact PySem.StrLaws.found_one z c
/-- a list, known as data or by the store -/
def lstKA (m : Sto) (k : List Da → Prop) : List ((Da)) → Prop
  | [] => False
  | .lst ds :: _ => k ds
  | .adr a :: _ => optK (m a) fun c => match c with
    | .lst ds => k ds
    | _ => False
  | _ :: r0 => lstKA m k r0
abbrev lstK (m : Sto) (d : Da) (k : List Da → Prop) : Prop := lstKA m k [(d)]
theorem lstK_eq (m : Sto) (d : Da) (k : List Da → Prop) : lstK m d k = (match d with
  | .lst ds => k ds
  | .adr a => optK (m a) fun c => match c with
    | .lst ds => k ds
    | _ => False
  | _ => False) := by cases d <;> rfl
theorem lstK_ok {m : Sto} {d : Da} {k : List Da → Prop} (h : lstK m d k) : ∃ ds, seqD m d = some ds ∧ isStrD d = false ∧ isTupD d = false ∧ k ds := by
  cases d with
  | lst ds => exact ⟨ds, rfl, rfl, rfl, h⟩
  | adr a =>
    obtain ⟨c, e, h⟩ := optK_ok h
    cases c with
    | lst ds => exact ⟨ds, by simp only [seqD, e], rfl, rfl, h⟩
    | _ => exact h.elim
  | _ => exact h.elim
theorem lstK_mono {m : Sto} {d : Da} {k k' : List Da → Prop} (f : ∀ ds, k ds → k' ds) (h : lstK m d k) : lstK m d k' := by
  cases d with
  | lst ds => exact f _ h
  | adr a =>
    refine optK_mono (fun c h => ?_) h
    cases c with
    | lst ds => exact f _ h
    | _ => exact h
  | _ => exact h
/-- a list or a tuple -/
def seqKA (m : Sto) (k : List Da → Prop) : List ((Da)) → Prop
  | [] => False
  | .tup ds :: _ => k ds
  | .lst ds :: _ => k ds
  | .adr a :: _ => optK (m a) fun c => match c with
    | .lst ds => k ds
    | _ => False
  | _ :: r0 => seqKA m k r0
abbrev seqK (m : Sto) (d : Da) (k : List Da → Prop) : Prop := seqKA m k [(d)]
theorem seqK_eq (m : Sto) (d : Da) (k : List Da → Prop) : seqK m d k = (match d with
  | .tup ds => k ds
  | .lst ds => k ds
  | .adr a => optK (m a) fun c => match c with
    | .lst ds => k ds
    | _ => False
  | _ => False) := by cases d <;> rfl
theorem seqK_ok {m : Sto} {d : Da} {k : List Da → Prop} (h : seqK m d k) : ∃ ds, seqD m d = some ds ∧ isStrD d = false ∧ k ds := by
  cases d with
  | lst ds => exact ⟨ds, rfl, rfl, h⟩
  | tup ds => exact ⟨ds, rfl, rfl, h⟩
  | adr a =>
    obtain ⟨c, e, h⟩ := optK_ok h
    cases c with
    | lst ds => exact ⟨ds, by simp only [seqD, e], rfl, h⟩
    | _ => exact h.elim
  | _ => exact h.elim
theorem seqK_mono {m : Sto} {d : Da} {k k' : List Da → Prop} (f : ∀ ds, k ds → k' ds) (h : seqK m d k) : seqK m d k' := by
  cases d with
  | lst ds => exact f _ h
  | tup ds => exact f _ h
  | adr a =>
    refine optK_mono (fun c h => ?_) h
    cases c with
    | lst ds => exact f _ h
    | _ => exact h
  | _ => exact h
mutual
/-- the library's data, lists of the store read -/
def pyM (m : Sto) : Da → Option PyData
  | .non => some .none
  | .bl b => some (.bool b)
  | .int i => some (.int i)
  | .str x => some (.str x)
  | .lst ds => (pysM m ds).map .list
  | .tup ds => (pysM m ds).map .tuple
  | .obj _ _ => none
  | .adr a => match m a with
    | some (.lst ds) => (pys ds).map .list
    | _ => none
  | .scr _ => none
  | .exc _ _ => none
  | .exl _ _ _ _ => none
def pysM (m : Sto) : List Da → Option (List PyData)
  | [] => some []
  | d :: ds => match pyM m d, pysM m ds with
    | some x, some xs => some (x :: xs)
    | _, _ => none
end
section
variable {K : PySem.W.Frag} {H I : Hp} {m : Sto}
theorem pysM_cons {d : Da} {ds : List Da} {xs : List PyData} (h : pysM m (d :: ds) = some xs) : ∃ y ys, pyM m d = some y ∧ pysM m ds = some ys ∧ xs = y :: ys := by
  simp only [pysM] at h
  split at h
  · rename_i y ys a b
    exact ⟨y, ys, a, b, (Option.some.inj h).symm⟩
  · cases h
mutual
theorem Dt.dpM (s : SM K I m H) {v : V} {d : Da} {p : PyData} (n : pyM m d = some p) : Dt K I v d → L2.Dp K H v p
  | .non => by simp [pyM] at n; subst n; exact .non
  | .bl b => by simp [pyM] at n; subst n; exact .bl b
  | .int i => by simp [pyM] at n; subst n; exact .int i
  | .str x => by simp [pyM] at n; subst n; exact .str x
  | .lst (ds := ds) h r => by
    simp only [pyM, Option.map_eq_some_iff] at n
    obtain ⟨ps, e, rfl⟩ := n
    exact .lst (Evl.sq_of (s.ex _ _ h)) (DtAll.dpM s e r)
  | .tup (ds := ds) h r => by
    simp only [pyM, Option.map_eq_some_iff] at n
    obtain ⟨ps, e, rfl⟩ := n
    exact .tup (Evl.ex_t s.ex h) (DtAll.dpM s e r)
  | .obj h r c => by simp [pyM] at n
  | .adr a => by
    simp only [pyM] at n
    split at n
    · rename_i ds hm
      simp only [Option.map_eq_some_iff] at n
      obtain ⟨ps, e, rfl⟩ := n
      obtain ⟨xs, h1, r⟩ := s.lst hm
      exact .lst (Evl.sq_of h1) (DtAll.dp e (r.ex s.ex))
    · cases n
  | .scr h r => by simp [pyM] at n
  | .exc a D => by simp [pyM] at n
  | .exl h r => by simp [pyM] at n
theorem DtAll.dpM (s : SM K I m H) {vs : List V} {ds : List Da} {ps : List PyData} (n : pysM m ds = some ps) : DtAll K I vs ds → L2.DpAll K H vs ps
  | .nil => by simp [pysM] at n; subst n; exact .nil
  | .cons h r => by
    obtain ⟨y, ys, e1, e2, rfl⟩ := pysM_cons n
    exact .cons (Dt.dpM s e1 h) (DtAll.dpM s e2 r)
end
end
/-! ### operations -/
section
variable {K : PySem.W.Frag} {m : Sto} {Φ Φ' : Rk} {d1 d2 : Da} {ds es : List Da}
theorem rd_orL {r r' : R2} (h : RD K r d1 d2 m Φ) : RD K (fun x y H Q => r x y H Q ∨ r' x y H Q) d1 d2 m Φ := fun x y H I s hx hy Q kq => .inl (h x y H I s hx hy Q kq)
theorem rd_orR {r r' : R2} (h : RD K r' d1 d2 m Φ) : RD K (fun x y H Q => r x y H Q ∨ r' x y H Q) d1 d2 m Φ := fun x y H I s hx hy Q kq => .inr (h x y H I s hx hy Q kq)
theorem rd_catT2 {d : Da} (h : (d :: ds).length + es.length ≤ 100000 ∧ Φ (.tup (d :: ds ++ es)) m) : RD K (rCatT K) (.tup (d :: ds)) (.tup es) m Φ := fun x y H I s hx hy Q kq => by
  obtain ⟨hl, k⟩ := h
  cases hx with
  | @tup a xs _ h1 r1 =>
    cases hy with
    | @tup b ys _ h2 r2 =>
      have nx : xs ≠ [] := fun z => by subst z; cases r1
      refine ⟨a, b, xs, ys, rfl, rfl, Evl.ex_t s.ex h1, Evl.ex_t s.ex h2, nx, Evl.sz_of (by rw [r1.len, r2.len]; exact hl), ?_⟩
      refine ⟨fun z => ?_, fun _ p hp => ?_⟩
      · subst z
        cases r2
        rw [List.append_nil] at k
        exact kq _ H I _ m (Go.refl s) (.tup h1 r1) k
      · have gn := Go.new (o := .tup (xs ++ ys)) s hp
        exact kq _ _ _ _ m gn (.tup (Evl.st_of upd_same) ((r1.append r2).ex gn.ei)) k
def addWA (m : Sto) (Φ : Rk) : List ((Da) × (Da)) → Prop
  | [] => False
  | (.int i, .int j) :: _ => Φ (.int (i + j)) m
  | (.str x, .str y) :: _ => x.length + y.length ≤ sizeLine ∧ Φ (.str (x ++ y)) m
  | (.tup (d :: ds), .tup es) :: _ => (d :: ds).length + es.length ≤ 100000 ∧ Φ (.tup (d :: ds ++ es)) m
  | (.lst ds, d2) :: _ => lstK m d2 fun es => ds.length + es.length ≤ 100000 ∧ Φ (.lst (ds ++ es)) m
  | (.adr a, d2) :: _ => lstK m (.adr a) fun ds => lstK m d2 fun es => ds.length + es.length ≤ 100000 ∧ Φ (.lst (ds ++ es)) m
  | (_, _) :: r0 => addWA m Φ r0
abbrev addW (d1 d2 : Da) (m : Sto) (Φ : Rk) : Prop := addWA m Φ [(d1, d2)]
theorem addW_eq (d1 d2 : Da) (m : Sto) (Φ : Rk) : addW d1 d2 m Φ = (match d1, d2 with
  | .int i, .int j => Φ (.int (i + j)) m
  | .str x, .str y => x.length + y.length ≤ sizeLine ∧ Φ (.str (x ++ y)) m
  | .tup (d :: ds), .tup es => (d :: ds).length + es.length ≤ 100000 ∧ Φ (.tup (d :: ds ++ es)) m
  | .lst ds, d2 => lstK m d2 fun es => ds.length + es.length ≤ 100000 ∧ Φ (.lst (ds ++ es)) m
  | .adr a, d2 => lstK m (.adr a) fun ds => lstK m d2 fun es => ds.length + es.length ≤ 100000 ∧ Φ (.lst (ds ++ es)) m
  | _, _ => False) := by
  cases d1 with
  | tup ds => cases ds <;> cases d2 <;> rfl
  | _ => cases d2 <;> rfl
abbrev rAddU (K : PySem.W.Frag) : R2 := fun x y H Q => (rI0 fun i j => .int (i + j)) x y H Q ∨ ((fun x y H Q => ∃ i j, x = V.str i ∧ y = V.str j ∧ i.length + j.length ≤ sizeLine ∧ Q (.str (i ++ j)) H) x y H Q ∨ (rCatT K x y H Q ∨ rCat x y H Q))
theorem op_addU {X : Cx} : OpR X (binaryOp .Add) (rAddU X.K) := op_add.or (op_add_str.or (op_catT.or op_cat))
def oAdd : O2 K where
  r := rAddU K
  w := addW
  ok := fun {d1 d2 m Φ} h => by
    have cat : ∀ {d1 : Da}, (lstK m d1 fun ds => lstK m d2 fun es => ds.length + es.length ≤ 100000 ∧ Φ (.lst (ds ++ es)) m) → RD K (rAddU K) d1 d2 m Φ := fun {d1} h => by
      obtain ⟨ds, a1, a2, a3, h⟩ := lstK_ok h
      obtain ⟨es, b1, b2, b3, h⟩ := lstK_ok h
      exact rd_orR (rd_orR (rd_orR (rd_cat ⟨ds, es, a1, a2, a3, b1, b2, b3, h.1, h.2⟩)))
    have catL : ∀ ds, (lstK m d2 fun es => ds.length + es.length ≤ 100000 ∧ Φ (.lst (ds ++ es)) m) → RD K (rAddU K) (.lst ds) d2 m Φ := fun ds h => cat (d1 := .lst ds) h
    rw [addW_eq] at h
    split at h
    · exact rd_orL (rd_add h)
    · exact rd_orR (rd_orL (rd_addS h))
    · exact rd_orR (rd_orR (rd_orL (rd_catT2 h)))
    · exact catL _ h
    · exact cat h
    · exact h.elim
  mono := fun {d1 d2 m Φ Φ'} f h => by
    rw [addW_eq] at h ⊢
    split at h
    · exact f _ _ h
    · exact ⟨h.1, f _ _ h.2⟩
    · exact ⟨h.1, f _ _ h.2⟩
    · exact lstK_mono (fun es h => ⟨h.1, f _ _ h.2⟩) h
    · exact lstK_mono (fun ds h => lstK_mono (fun es h => ⟨h.1, f _ _ h.2⟩) h) h
    · exact h
/-- two ints -/
def int2A (k : Int → Int → Prop) : List ((Da) × (Da)) → Prop
  | [] => False
  | (.int i, .int j) :: _ => k i j
  | (_, _) :: r0 => int2A k r0
abbrev int2 (d1 d2 : Da) (k : Int → Int → Prop) : Prop := int2A k [(d1, d2)]
theorem int2_eq (d1 d2 : Da) (k : Int → Int → Prop) : int2 d1 d2 k = (match d1, d2 with
  | .int i, .int j => k i j
  | _, _ => False) := by cases d1 <;> cases d2 <;> rfl
theorem int2_ok {k : Int → Int → Prop} (h : int2 d1 d2 k) : ∃ i j, d1 = .int i ∧ d2 = .int j ∧ k i j := by
  rw [int2_eq] at h
  split at h
  · exact ⟨_, _, rfl, rfl, h⟩
  · exact h.elim
theorem int2_mono {k k' : Int → Int → Prop} (f : ∀ i j, k i j → k' i j) (h : int2 d1 d2 k) : int2 d1 d2 k' := by
  rw [int2_eq] at h ⊢
  split at h
  · exact f _ _ h
  · exact h
def oInt0 (g : Int → Int → V) (gd : Int → Int → Da) (hg : ∀ i j H, Dt K H (g i j) (gd i j)) : O2 K where
  r := rI0 g
  w := fun d1 d2 m Φ => int2 d1 d2 fun i j => Φ (gd i j) m
  ok := fun h => by obtain ⟨i, j, rfl, rfl, h⟩ := int2_ok h; exact rd_I0 (hg i j) h
  mono := fun f h => int2_mono (fun i j => f _ _) h
def oSub : O2 K := oInt0 (fun i j => .int (i - j)) (fun i j => .int (i - j)) (fun _ _ _ => .int _)
def oLt : O2 K := oInt0 (fun i j => .bl (decide (i < j))) (fun i j => .bl (decide (i < j))) (fun _ _ _ => .bl _)
def oLe : O2 K := oInt0 (fun i j => .bl (decide (i ≤ j))) (fun i j => .bl (decide (i ≤ j))) (fun _ _ _ => .bl _)
def oGt : O2 K := oInt0 (fun i j => .bl (decide (j < i))) (fun i j => .bl (decide (j < i))) (fun _ _ _ => .bl _)
def oGe : O2 K := oInt0 (fun i j => .bl (decide (j ≤ i))) (fun i j => .bl (decide (j ≤ i))) (fun _ _ _ => .bl _)
theorem rd_mulW {i j : Int} (h : CMulW i j ∧ Φ (.int (i * j)) m) : RD K (rI CMulW fun i j => .int (i * j)) (.int i) (.int j) m Φ := rd_I h.1 (fun _ => .int _) h.2
theorem rd_fdivW {i j : Int} (h : CDivW i j ∧ Φ (.int (i / j)) m) : RD K (rI CDivW fun i j => .int (i / j)) (.int i) (.int j) m Φ := rd_I h.1 (fun _ => .int _) h.2
theorem rd_rep {k : Int} (h : lstK m d1 fun ds => -(2 ^ 63) ≤ k ∧ k < 2 ^ 63 ∧ ds.length * k.toNat ≤ 100000 ∧ Φ (.lst (List.replicate k.toNat ds).flatten) m) : RD K rRep d1 (.int k) m Φ := fun x y H I s hx hy Q kq => by
  obtain ⟨ds, a1, a2, a3, h1, h2, hl, k0⟩ := lstK_ok h
  obtain ⟨a, xs, rfl, r, hs⟩ := seq_exact s hx a1 a2 a3
  cases hy
  refine ⟨a, k, xs, rfl, rfl, hs, h1, h2, Evl.sz_of (by rw [r.len]; exact hl), fun p hp => ?_⟩
  have gn := Go.new (o := .lst (List.replicate k.toNat xs).flatten) s hp
  refine kq _ _ _ _ m gn (.lst upd_same ?_) k0
  have key : ∀ n : Nat, DtAll K I (List.replicate n xs).flatten (List.replicate n ds).flatten := by
    intro n
    induction n with
    | zero => exact .nil
    | succ n ih => rw [List.replicate_succ, List.replicate_succ, List.flatten_cons, List.flatten_cons]; exact r.append ih
  exact (key _).ex gn.ei
def mulWA (m : Sto) (Φ : Rk) : List ((Da) × (Da)) → Prop
  | [] => False
  | (.int i, .int j) :: _ => (CMul i j ∨ CMulW i j) ∧ Φ (.int (i * j)) m
  | (d1, .int k) :: _ => lstK m d1 fun ds => -(2 ^ 63) ≤ k ∧ k < 2 ^ 63 ∧ ds.length * k.toNat ≤ 100000 ∧ Φ (.lst (List.replicate k.toNat ds).flatten) m
  | (_, _) :: r0 => mulWA m Φ r0
abbrev mulW (d1 d2 : Da) (m : Sto) (Φ : Rk) : Prop := mulWA m Φ [(d1, d2)]
theorem mulW_eq (d1 d2 : Da) (m : Sto) (Φ : Rk) : mulW d1 d2 m Φ = (match d1, d2 with
  | .int i, .int j => (CMul i j ∨ CMulW i j) ∧ Φ (.int (i * j)) m
  | d1, .int k => lstK m d1 fun ds => -(2 ^ 63) ≤ k ∧ k < 2 ^ 63 ∧ ds.length * k.toNat ≤ 100000 ∧ Φ (.lst (List.replicate k.toNat ds).flatten) m
  | _, _ => False) := by cases d1 <;> cases d2 <;> rfl
abbrev rMulU : R2 := fun x y H Q => (fun x y H Q => (rI CMul fun i j => .int (i * j)) x y H Q ∨ (rI CMulW fun i j => .int (i * j)) x y H Q) x y H Q ∨ rRep x y H Q
theorem op_mulU {X : Cx} : OpR X (binaryOp .Mult) rMulU := (op_mul.or op_mulW).or op_rep
def oMul : O2 K where
  r := rMulU
  w := mulW
  ok := fun {d1 d2 m Φ} h => by
    rw [mulW_eq] at h
    split at h
    · rcases h with ⟨c | c, h⟩
      · exact rd_orL (rd_orL (rd_mul ⟨c, h⟩))
      · exact rd_orL (rd_orR (rd_mulW ⟨c, h⟩))
    · exact rd_orR (rd_rep h)
    · exact h.elim
  mono := fun {d1 d2 m Φ Φ'} f h => by
    rw [mulW_eq] at h ⊢
    split at h
    · exact ⟨h.1, f _ _ h.2⟩
    · exact lstK_mono (fun ds h => ⟨h.1, h.2.1, h.2.2.1, f _ _ h.2.2.2⟩) h
    · exact h
def oIntC (C : Int → Int → Prop) (g : Int → Int → V) (gd : Int → Int → Da) (hg : ∀ i j H, Dt K H (g i j) (gd i j)) : O2 K where
  r := rI C g
  w := fun d1 d2 m Φ => int2 d1 d2 fun i j => C i j ∧ Φ (gd i j) m
  ok := fun h => by obtain ⟨i, j, rfl, rfl, h⟩ := int2_ok h; exact rd_I h.1 (hg i j) h.2
  mono := fun f h => int2_mono (fun i j h => ⟨h.1, f _ _ h.2⟩) h
def oFdiv : O2 K := oIntC CDivW (fun i j => .int (i / j)) (fun i j => .int (i / j)) (fun _ _ _ => .int _)
def oMod : O2 K := oIntC (fun _ j => 0 < j) (fun i j => .int (i % j)) (fun i j => .int (i % j)) (fun _ _ _ => .int _)
def oPow : O2 K := oIntC CPow (fun i j => .int (i ^ j.toNat)) (fun i j => .int (i ^ j.toNat)) (fun _ _ _ => .int _)
/-! equality -/
theorem rd_eqM {p1 p2 : PyData} (h1 : pyM m d1 = some p1) (h2 : pyM m d2 = some p2) (s1 : SeqAt.shaped p1 = true) (s2 : SeqAt.shaped p2 = true) (k : Φ (.bl (PyData.eqv p1 p2)) m) : RD K (rEqD K) d1 d2 m Φ := rd_sc (fun _ => .bl _) (fun x y H I s hx hy Q k => ⟨p1, p2, Dt.dpM s h1 hx, Dt.dpM s h2 hy, s1, s2, k⟩) k
theorem rd_neM {p1 p2 : PyData} (h1 : pyM m d1 = some p1) (h2 : pyM m d2 = some p2) (s1 : SeqAt.shaped p1 = true) (s2 : SeqAt.shaped p2 = true) (k : Φ (.bl (!PyData.eqv p1 p2)) m) : RD K (rNeD K) d1 d2 m Φ := rd_sc (fun _ => .bl _) (fun x y H I s hx hy Q k => ⟨p1, p2, Dt.dpM s h1 hx, Dt.dpM s h2 hy, s1, s2, k⟩) k
/-- equality of data, reckoned by the library -/
def deqK (m : Sto) (d1 d2 : Da) (k : Bool → Prop) : Prop := ∃ p1 p2, pyM m d1 = some p1 ∧ pyM m d2 = some p2 ∧ SeqAt.shaped p1 = true ∧ SeqAt.shaped p2 = true ∧ k (PyData.eqv p1 p2)
def eqKA (m : Sto) (k : Bool → Prop) : List ((Da) × (Da)) → Prop
  | [] => False
  | (.int i, .int j) :: _ => k (decide (i = j))
  | (.str x, .str y) :: _ => k (eqS x y)
  | (.bl a, .bl b) :: _ => k (a == b)
  | (d1, d2) :: r0 => (fun _ : Prop => deqK m d1 d2 k) (eqKA m k r0)
abbrev eqK (m : Sto) (d1 d2 : Da) (k : Bool → Prop) : Prop := eqKA m k [(d1, d2)]
theorem eqK_eq (m : Sto) (d1 d2 : Da) (k : Bool → Prop) : eqK m d1 d2 k = (match d1, d2 with
  | .int i, .int j => k (decide (i = j))
  | .str x, .str y => k (eqS x y)
  | .bl a, .bl b => k (a == b)
  | d1, d2 => deqK m d1 d2 k) := by cases d1 <;> cases d2 <;> rfl
theorem deqK_mono {k k' : Bool → Prop} (f : ∀ b, k b → k' b) (h : deqK m d1 d2 k) : deqK m d1 d2 k' := by
  obtain ⟨p1, p2, a, b, c, d, e⟩ := h
  exact ⟨p1, p2, a, b, c, d, f _ e⟩
theorem eqK_mono {k k' : Bool → Prop} (f : ∀ b, k b → k' b) (h : eqK m d1 d2 k) : eqK m d1 d2 k' := by
  rw [eqK_eq] at h ⊢
  split at h <;> first | exact f _ h | exact deqK_mono f h
abbrev rEqU (K : PySem.W.Frag) : R2 := fun x y H Q => rEq x y H Q ∨ rEqD K x y H Q
abbrev rNeU (K : PySem.W.Frag) : R2 := fun x y H Q => rNe x y H Q ∨ rNeD K x y H Q
theorem op_eqU {X : Cx} (hu : X.A.units + 64 < cLine) : OpR X (compareOp .Eq) (rEqU X.K) := op_eq.or (op_eqD hu)
theorem op_neU {X : Cx} (hu : X.A.units + 64 < cLine) : OpR X (compareOp .NotEq) (rNeU X.K) := op_ne.or (op_neD hu)
theorem decide_bl (a b : Bool) : decide (V.bl a = V.bl b) = (a == b) := by cases a <;> cases b <;> rfl
def oEq : O2 K where
  r := rEqU K
  w := fun d1 d2 m Φ => eqK m d1 d2 fun b => Φ (.bl b) m
  ok := fun {d1 d2 m Φ} h => by
    rw [eqK_eq] at h
    split at h
    · exact rd_orL (rd_eqI h)
    · exact rd_orL (rd_eqS (by rw [← eqS_def]; exact h))
    · rename_i a b; exact rd_orL (rd_eqV (x := .bl a) (y := .bl b) rfl rfl rfl (by rw [decide_bl]; exact h))
    · obtain ⟨p1, p2, a, b, c, d, e⟩ := h
      exact rd_orR (rd_eqM a b c d e)
  mono := fun f h => eqK_mono (fun b => f _ _) h
def oNe : O2 K where
  r := rNeU K
  w := fun d1 d2 m Φ => eqK m d1 d2 fun b => Φ (.bl (!b)) m
  ok := fun {d1 d2 m Φ} h => by
    rw [eqK_eq] at h
    split at h
    · exact rd_orL (rd_neI h)
    · exact rd_orL (rd_neS (by rw [← eqS_def]; exact h))
    · rename_i a b; exact rd_orL (rd_neV (x := .bl a) (y := .bl b) rfl rfl rfl (by rw [decide_bl]; exact h))
    · obtain ⟨p1, p2, a, b, c, d, e⟩ := h
      exact rd_orR (rd_neM a b c d e)
  mono := fun f h => eqK_mono (fun b => f _ _) h
def oIsN : O2 K where
  r := fun x y H Q => y = .non ∧ Q (.bl (decide (x = .non))) H
  w := fun d1 d2 m Φ => match d2 with
    | .non => Φ (.bl (isN d1)) m
    | _ => False
  ok := fun {d1 d2 m Φ} h => by
    cases d2 <;> first | exact rd_isN h | exact h.elim
  mono := fun {d1 d2 m Φ Φ'} f h => by cases d2 <;> first | exact f _ _ h | exact h
def oNotN : O2 K where
  r := fun x y H Q => y = .non ∧ Q (.bl (!decide (x = .non))) H
  w := fun d1 d2 m Φ => match d2 with
    | .non => Φ (.bl (!isN d1)) m
    | _ => False
  ok := fun {d1 d2 m Φ} h => by
    cases d2 <;> first | exact rd_notN h | exact h.elim
  mono := fun {d1 d2 m Φ Φ'} f h => by cases d2 <;> first | exact f _ _ h | exact h
/-! in -/
def scas : List Da → Option (List V)
  | [] => some []
  | d :: ds => match sca d, scas ds with
    | some v, some vs => some (v :: vs)
    | _, _ => none
theorem scas_flat : ∀ {ds : List Da} {vs : List V}, scas ds = some vs → vs.all flatV = true
  | [], vs, h => by cases h; rfl
  | d :: ds, vs, h => by
    unfold scas at h
    split at h
    · rename_i v vs' e1 e2
      cases h
      rw [List.all_cons, sca_flat e1, scas_flat e2]
      rfl
    · cases h
theorem dt_scasL {H : Hp} : ∀ {ds : List Da} {vs xs : List V}, scas ds = some vs → DtAll K H xs ds → xs = vs
  | [], vs, xs, h, r => by cases h; cases r; rfl
  | d :: ds, vs, xs, h, r => by
    unfold scas at h
    split at h
    · rename_i v vs' e1 e2
      cases h
      cases r with
      | cons p r => rw [p.sca e1, dt_scasL e2 r]
    · cases h
theorem scas_map {α : Type} {enc : α → Da} {g : α → V} (h : ∀ a, sca (enc a) = some (g a)) : ∀ l : List α, scas (l.map enc) = some (l.map g)
  | [] => rfl
  | a :: l => by rw [List.map_cons]; unfold scas; rw [h a, scas_map h l]; rfl
theorem rd_inQ {neg : Bool} {vx : V} {vs : List V} (hx : sca d1 = some vx) (hd : seqD m d2 = some ds) (hn : isStrD d2 = false) (hv : scas ds = some vs) (k : Φ (.bl (if neg = true then !inV vx vs else inV vx vs)) m) : RD K (rIn K neg) d1 d2 m Φ := rd_sc (fun _ => .bl _) (fun x y H I s px py Q kq => by
  have e := px.sca hx
  subst e
  obtain ⟨a, xs, rfl, rs, hs⟩ := seq_at s py hd hn
  rw [dt_scasL hv rs] at hs
  exact ⟨a, vs, rfl, hs, sca_flat hx, scas_flat hv, kq⟩) k
def inKA (m : Sto) (k : Bool → Prop) : List ((Da) × (Da)) → Prop
  | [] => False
  | (.str x, .str z) :: _ => k (inS x z)
  | (d1, d2) :: r0 => (fun _ : Prop => optK (sca d1) fun v => seqK m d2 fun ds => optK (scas ds) fun vs => k (inV v vs)) (inKA m k r0)
abbrev inK (m : Sto) (d1 d2 : Da) (k : Bool → Prop) : Prop := inKA m k [(d1, d2)]
theorem inK_eq (m : Sto) (d1 d2 : Da) (k : Bool → Prop) : inK m d1 d2 k = (match d1, d2 with
  | .str x, .str z => k (inS x z)
  | d1, d2 => optK (sca d1) fun v => seqK m d2 fun ds => optK (scas ds) fun vs => k (inV v vs)) := by cases d1 <;> cases d2 <;> rfl
theorem inK_mono {k k' : Bool → Prop} (f : ∀ b, k b → k' b) (h : inK m d1 d2 k) : inK m d1 d2 k' := by
  rw [inK_eq] at h ⊢
  split at h
  · exact f _ h
  · exact optK_mono (fun v h => seqK_mono (fun ds h => optK_mono (fun vs => f _) h) h) h
abbrev rInU (K : PySem.W.Frag) : R2 := fun x y H Q => (fun x y H Q => ∃ i j, x = V.str i ∧ y = V.str j ∧ Q (.bl (!(Builtin.Str.occurrences j i 0 j.length 1).isEmpty)) H) x y H Q ∨ rIn K false x y H Q
abbrev rNotInU (K : PySem.W.Frag) : R2 := fun x y H Q => (fun x y H Q => ∃ i j, x = V.str i ∧ y = V.str j ∧ Q (.bl (!(!(Builtin.Str.occurrences j i 0 j.length 1).isEmpty))) H) x y H Q ∨ rIn K true x y H Q
theorem op_inU {X : Cx} : OpR X (compareOp .In) (rInU X.K) := op_in_str.or op_in_seq
theorem op_notInU {X : Cx} : OpR X (compareOp .NotIn) (rNotInU X.K) := op_notin_str.or op_notIn_seq
def oIn : O2 K where
  r := rInU K
  w := fun d1 d2 m Φ => inK m d1 d2 fun b => Φ (.bl b) m
  ok := fun {d1 d2 m Φ} h => by
    rw [inK_eq] at h
    split at h
    · rename_i x z
      exact rd_orL (rd_sc (fun _ => .bl _) (fun u v H I s hx hy Q k => by
        cases hx; cases hy
        exact ⟨x, z, rfl, rfl, k⟩) (by rw [inS_def] at h; exact h))
    · obtain ⟨v, e1, h⟩ := optK_ok h
      obtain ⟨ds, e2, e3, h⟩ := seqK_ok h
      obtain ⟨vs, e4, h⟩ := optK_ok h
      exact rd_orR (rd_inQ (neg := false) e1 e2 e3 e4 h)
  mono := fun f h => inK_mono (fun b => f _ _) h
def oNotIn : O2 K where
  r := rNotInU K
  w := fun d1 d2 m Φ => inK m d1 d2 fun b => Φ (.bl (!b)) m
  ok := fun {d1 d2 m Φ} h => by
    rw [inK_eq] at h
    split at h
    · rename_i x z
      exact rd_orL (rd_sc (fun _ => .bl _) (fun u v H I s hx hy Q k => by
        cases hx; cases hy
        exact ⟨x, z, rfl, rfl, k⟩) (by rw [inS_def] at h; exact h))
    · obtain ⟨v, e1, h⟩ := optK_ok h
      obtain ⟨ds, e2, e3, h⟩ := seqK_ok h
      obtain ⟨vs, e4, h⟩ := optK_ok h
      exact rd_orR (rd_inQ (neg := true) e1 e2 e3 e4 h)
  mono := fun f h => inK_mono (fun b => f _ _) h
/-- a written table -/
def oInT (a : Addr) (kvs : List (Str × V)) : O2 K where
  r := rInK a kvs
  w := fun d1 d2 m Φ => match d1 with
    | .str z => d2 = .adr a ∧ Φ (.bl (kvs.lookup z).isSome) m
    | _ => False
  ok := fun {d1 d2 m Φ} h => by cases d1 <;> first | (obtain ⟨rfl, h⟩ := h; exact rd_inK h) | exact h.elim
  mono := fun {d1 d2 m Φ Φ'} f h => by cases d1 <;> first | exact ⟨h.1, f _ _ h.2⟩ | exact h
def oNotInT (a : Addr) (kvs : List (Str × V)) : O2 K where
  r := rNotInK a kvs
  w := fun d1 d2 m Φ => match d1 with
    | .str z => d2 = .adr a ∧ Φ (.bl (!(kvs.lookup z).isSome)) m
    | _ => False
  ok := fun {d1 d2 m Φ} h => by cases d1 <;> first | (obtain ⟨rfl, h⟩ := h; exact rd_notinK h) | exact h.elim
  mono := fun {d1 d2 m Φ Φ'} f h => by cases d1 <;> first | exact ⟨h.1, f _ _ h.2⟩ | exact h
def oIxT (a : Addr) (kvs : List (Str × V)) : O2 K where
  r := rIxK a kvs
  w := fun d1 d2 m Φ => match d2 with
    | .str z => d1 = .adr a ∧ ∃ v d, kvs.lookup z = some v ∧ sca d = some v ∧ Φ d m
    | _ => False
  ok := fun {d1 d2 m Φ} h => by cases d2 <;> first | (obtain ⟨rfl, h⟩ := h; exact rd_ixK h) | exact h.elim
  mono := fun {d1 d2 m Φ Φ'} f h => by
    cases d2 with
    | str z => obtain ⟨a, v, d, b, c, e⟩ := h; exact ⟨a, v, d, b, c, f _ _ e⟩
    | _ => exact h
/-! items -/
/-- the item at a place, from the end if it is below 0 -/
def atKA {α : Type} (ds : List α) (k : α → Prop) : List ((Int)) → Prop
  | [] => False
  | .ofNat n :: _ => optK ds[n]? k
  | .negSucc n :: r0 => (fun _ : Prop => optK (ds.reverse[n]?) k) (atKA ds k r0)
abbrev atK {α : Type} (ds : List α) (i : Int) (k : α → Prop) : Prop := atKA ds k [(i)]
theorem atK_eq {α : Type} (ds : List α) (i : Int) (k : α → Prop) : atK ds i k = (match i with
  | .ofNat n => optK ds[n]? k
  | .negSucc n => optK (ds.reverse[n]?) k) := by cases i <;> rfl
theorem atK_nat {α : Type} {ds : List α} {j : Nat} {d : α} {k : α → Prop} (e : ds[j]? = some d) (h : k d) : atK ds (j : Int) k := optK_of e h
theorem atK_ok {α : Type} {ds : List α} {i : Int} {k : α → Prop} (h : atK ds i k) : ∃ d, atD ds i = some d ∧ k d := by
  cases i with
  | ofNat n =>
    obtain ⟨d, e, h⟩ := optK_ok h
    exact ⟨d, atD_nat e, h⟩
  | negSucc n =>
    obtain ⟨d, e, h⟩ := optK_ok h
    refine ⟨d, ?_, h⟩
    obtain ⟨h1, h2⟩ := List.getElem?_eq_some_iff.mp e
    rw [List.length_reverse] at h1
    rw [List.getElem_reverse] at h2
    unfold atD ixN
    rw [if_neg (by omega), if_pos (by omega)]
    have e2 : (Int.negSucc n + (ds.length : Int)).toNat = ds.length - 1 - n := by omega
    rw [e2, Option.bind_some, List.getElem?_eq_getElem (by omega), h2]
theorem atK_mono {α : Type} {ds : List α} {i : Int} {k k' : α → Prop} (f : ∀ d, k d → k' d) (h : atK ds i k) : atK ds i k' := by
  cases i with
  | ofNat n => exact optK_mono f h
  | negSucc n => exact optK_mono f h
def ixWA (m : Sto) (Φ : Rk) : List ((Da) × (Da)) → Prop
  | [] => False
  | (.tup ds, .int i) :: _ => atK ds i fun d => Φ d m
  | (.lst ds, .int i) :: _ => atK ds i fun d => Φ d m
  | (.scr ds, .int i) :: _ => atK ds i fun d => Φ d m
  | (.str z, .int i) :: _ => z.length ≤ sizeLine ∧ atK z.cps.toList i fun c => Φ (.str (sign c)) m
  | (.adr a, .int i) :: _ => lstK m (.adr a) fun ds => atK ds i fun d => Φ d m
  | (_, _) :: r0 => ixWA m Φ r0
abbrev ixW (d1 d2 : Da) (m : Sto) (Φ : Rk) : Prop := ixWA m Φ [(d1, d2)]
theorem ixW_eq (d1 d2 : Da) (m : Sto) (Φ : Rk) : ixW d1 d2 m Φ = (match d1, d2 with
  | .tup ds, .int i => atK ds i fun d => Φ d m
  | .lst ds, .int i => atK ds i fun d => Φ d m
  | .scr ds, .int i => atK ds i fun d => Φ d m
  | .str z, .int i => z.length ≤ sizeLine ∧ atK z.cps.toList i fun c => Φ (.str (sign c)) m
  | .adr a, .int i => lstK m (.adr a) fun ds => atK ds i fun d => Φ d m
  | _, _ => False) := by cases d1 <;> cases d2 <;> rfl
theorem atI_atD2 {l : List Nat} {i : Int} {c : Nat} (h : atD l i = some c) : atI l i = some c := h
def oIx : O2 K where
  r := rIx K
  w := ixW
  ok := fun {d1 d2 m Φ} h => by
    rw [ixW_eq] at h
    split at h
    · exact rd_orR (rd_orL (rd_ixT (atK_ok h)))
    · exact rd_orL (rd_ixL (atK_ok h))
    · exact rd_orL (rd_ixR (atK_ok h))
    · obtain ⟨hz, h⟩ := h
      obtain ⟨c, e, h⟩ := atK_ok h
      exact rd_orR (rd_orR (rd_ixS ⟨hz, c, e, h⟩))
    · rename_i a i
      obtain ⟨c, e, h⟩ := optK_ok (show optK (m a) (fun c => match c with
        | .lst ds => atK ds i fun d => Φ d m
        | _ => False) from h)
      cases c with
      | lst ds => exact rd_orL (rd_ixM e (atK_ok h))
      | _ => exact h.elim
    · exact h.elim
  mono := fun {d1 d2 m Φ Φ'} f h => by
    rw [ixW_eq] at h ⊢
    split at h
    · exact atK_mono (fun d => f _ _) h
    · exact atK_mono (fun d => f _ _) h
    · exact atK_mono (fun d => f _ _) h
    · exact ⟨h.1, atK_mono (fun d => f _ _) h.2⟩
    · exact lstK_mono (fun ds h => atK_mono (fun d => f _ _) h) h
    · exact h
end
end G

set_option maxHeartbeats 4000000
/-! W: built-ins, methods, slices, walks, comprehensions, statements, defs. -/
namespace G
open PySem PySem.Spec PyProof.Rows L2
section
variable {K : PySem.W.Frag} {m : Sto} {Φ Φ' : Rk} {d d1 d2 : Da} {ds es : List Da}
/-! ### built-ins -/
def noX : Xk := fun _ _ => False
def lenWA (m : Sto) (Φ : Rk) : List ((List Da)) → Prop
  | [] => False
  | [.str z] :: _ => z.length ≤ sizeLine ∧ Φ (.int z.length) m
  | [.scr es] :: _ => Φ (.int es.length) m
  | [d] :: _ => seqK m d fun es => Φ (.int es.length) m
  | _ :: r0 => lenWA m Φ r0
abbrev lenW (ds : List Da) (m : Sto) (Φ : Rk) : Prop := lenWA m Φ [(ds)]
theorem lenW_eq (ds : List Da) (m : Sto) (Φ : Rk) : lenW ds m Φ = (match ds with
  | [.str z] => z.length ≤ sizeLine ∧ Φ (.int z.length) m
  | [.scr es] => Φ (.int es.length) m
  | [d] => seqK m d fun es => Φ (.int es.length) m
  | _ => False) := by
  match ds with
  | [] => rfl
  | [d] => cases d <;> rfl
  | d :: _ :: _ => cases d <;> rfl
abbrev rLenSeq (K : PySem.W.Frag) : List V → Hp → VK → Prop := fun xs H Q => ∃ p ys, xs = [.ref p] ∧ (SqL K H p ys ∨ SqT K H p ys) ∧ Q (.int ys.length) H
abbrev rLenStr : List V → Hp → VK → Prop := fun xs H Q => ∃ z, xs = [.str z] ∧ z.length ≤ sizeLine ∧ Q (.int z.length) H
theorem rcd_lenK (h : seqK m d fun es => Φ (.int es.length) m) : RCD K (rLenSeq K) [d] m Φ := by
  obtain ⟨es, e, n, h⟩ := seqK_ok h
  refine rcd_len ⟨es.length, ?_, h⟩
  cases d with
  | lst ds => cases e; rfl
  | tup ds => cases e; rfl
  | str z => cases n
  | adr a =>
    simp only [seqD] at e
    simp only [lenD]
    split at e
    · rename_i hm; cases e; simp only [hm]
    · cases e
  | _ => cases e
def cLen : C1 K where
  r := fun xs H Q => rLenSeq K xs H Q ∨ rLenStr xs H Q
  w := lenW
  ok := fun {ds m Φ} h => by
    rw [lenW_eq] at h
    split at h
    · exact rcd_orR (rcd_lenS h)
    · exact rcd_orL (rcd_lenR h)
    · exact rcd_orL (rcd_lenK h)
    · exact h.elim
  mono := fun {ds m Φ Φ'} f h => by
    rw [lenW_eq] at h ⊢
    split at h
    · exact ⟨h.1, f _ _ h.2⟩
    · exact f _ _ h
    · exact seqK_mono (fun es => f _ _) h
    · exact h
def cMax : C1 K where
  r := fun xs H Q => ∃ i j, xs = [.int i, .int j] ∧ Q (.int (if j > i then j else i)) H
  w := fun ds m Φ => match ds with
    | [d1, d2] => int2 d1 d2 fun i j => Φ (.int (max i j)) m
    | _ => False
  ok := fun {ds m Φ} h => by
    match ds, h with
    | [d1, d2], h => obtain ⟨i, j, rfl, rfl, h⟩ := int2_ok h; exact rcd_max h
    | [], h => exact h.elim
    | [_], h => exact h.elim
    | _ :: _ :: _ :: _, h => exact h.elim
  mono := fun {ds m Φ Φ'} f h => by
    match ds, h with
    | [d1, d2], h => exact int2_mono (fun i j => f _ _) h
    | [], h => exact h
    | [_], h => exact h
    | _ :: _ :: _ :: _, h => exact h
def cMin : C1 K where
  r := fun xs H Q => ∃ i j, xs = [.int i, .int j] ∧ Q (.int (if j < i then j else i)) H
  w := fun ds m Φ => match ds with
    | [d1, d2] => int2 d1 d2 fun i j => Φ (.int (min i j)) m
    | _ => False
  ok := fun {ds m Φ} h => by
    match ds, h with
    | [d1, d2], h => obtain ⟨i, j, rfl, rfl, h⟩ := int2_ok h; exact rcd_min h
    | [], h => exact h.elim
    | [_], h => exact h.elim
    | _ :: _ :: _ :: _, h => exact h.elim
  mono := fun {ds m Φ Φ'} f h => by
    match ds, h with
    | [d1, d2], h => exact int2_mono (fun i j => f _ _) h
    | [], h => exact h
    | [_], h => exact h
    | _ :: _ :: _ :: _, h => exact h
/-- of one value -/
def c1WA (f : Da → Sto → Rk → Prop) (m : Sto) (Φ : Rk) : List ((List Da)) → Prop
  | [] => False
  | [d] :: _ => f d m Φ
  | _ :: r0 => c1WA f m Φ r0
abbrev c1W (f : Da → Sto → Rk → Prop) (ds : List Da) (m : Sto) (Φ : Rk) : Prop := c1WA f m Φ [(ds)]
theorem c1W_eq (f : Da → Sto → Rk → Prop) (ds : List Da) (m : Sto) (Φ : Rk) : c1W f ds m Φ = (match ds with
  | [d] => f d m Φ
  | _ => False) := by
  match ds with
  | [] => rfl
  | [d] => rfl
  | _ :: _ :: _ => rfl
def cOne (r : List V → Hp → VK → Prop) (f : Da → Sto → Rk → Prop) (ok : ∀ {d m Φ}, f d m Φ → RCD K r [d] m Φ) (mono : ∀ {d m Φ Φ'}, (∀ d m', Φ d m' → Φ' d m') → f d m Φ → f d m Φ') : C1 K where
  r := r
  w := c1W f
  ok := fun {ds m Φ} h => by
    match ds, h with
    | [d], h => exact ok h
    | [], h => exact h.elim
    | _ :: _ :: _, h => exact h.elim
  mono := fun {ds m Φ Φ'} g h => by
    match ds, h with
    | [d], h => exact mono g h
    | [], h => exact h
    | _ :: _ :: _, h => exact h
def absWA (m : Sto) (Φ : Rk) : List ((Da)) → Prop
  | [] => False
  | .int i :: _ => Φ (.int (if i < 0 then -i else i)) m
  | _ :: r0 => absWA m Φ r0
abbrev absW (d : Da) (m : Sto) (Φ : Rk) : Prop := absWA m Φ [(d)]
theorem absW_eq (d : Da) (m : Sto) (Φ : Rk) : absW d m Φ = (match d with
  | .int i => Φ (.int (if i < 0 then -i else i)) m
  | _ => False) := by cases d <;> rfl
def cAbs : C1 K := cOne (fun xs H Q => ∃ i, xs = [.int i] ∧ Q (.int (if i < 0 then -i else i)) H) absW (fun {d m Φ} h => by cases d <;> first | exact rcd_abs h | exact h.elim) (fun {d m Φ Φ'} g h => by cases d <;> first | exact g _ _ h | exact h)
def int1WA (m : Sto) (Φ : Rk) : List ((Da)) → Prop
  | [] => False
  | .int i :: _ => Φ (.int i) m
  | .bl b :: _ => Φ (.int (if b = true then 1 else 0)) m
  | _ :: r0 => int1WA m Φ r0
abbrev int1W (d : Da) (m : Sto) (Φ : Rk) : Prop := int1WA m Φ [(d)]
theorem int1W_eq (d : Da) (m : Sto) (Φ : Rk) : int1W d m Φ = (match d with
  | .int i => Φ (.int i) m
  | .bl b => Φ (.int (if b = true then 1 else 0)) m
  | _ => False) := by cases d <;> rfl
def cInt : C1 K := cOne (fun xs H Q => (∃ i, xs = [.int i] ∧ Q (.int i) H) ∨ ∃ k, xs = [.bl k] ∧ Q (.int (if k = true then 1 else 0)) H) int1W (fun {d m Φ} h => by cases d <;> first | exact rcd_int1 h | exact rcd_int1B h | exact h.elim) (fun {d m Φ Φ'} g h => by cases d <;> first | exact g _ _ h | exact h)
def intSWA (m : Sto) (Φ : Rk) : List ((Da)) → Prop
  | [] => False
  | .str z :: _ => ∃ n, intText? z = some n ∧ z.length ≤ 640 ∧ Φ (.int n) m
  | _ :: r0 => intSWA m Φ r0
abbrev intSW (d : Da) (m : Sto) (Φ : Rk) : Prop := intSWA m Φ [(d)]
theorem intSW_eq (d : Da) (m : Sto) (Φ : Rk) : intSW d m Φ = (match d with
  | .str z => ∃ n, intText? z = some n ∧ z.length ≤ 640 ∧ Φ (.int n) m
  | _ => False) := by cases d <;> rfl
def cIntS : C1 K := cOne (fun xs H Q => ∃ a n, xs = [.str a] ∧ intText? a = some n ∧ a.length ≤ 640 ∧ Q (.int n) H) intSW (fun {d m Φ} h => by cases d <;> first | exact rcd_intS h | exact h.elim) (fun {d m Φ Φ'} g h => by
  cases d with
  | str z => obtain ⟨n, a, b, c⟩ := h; exact ⟨n, a, b, g _ _ c⟩
  | _ => exact h)
/-- a number's text -/
def num (i : Int) : Str := Str.ofString (toString i)
def strWA (m : Sto) (Φ : Rk) : List ((Da)) → Prop
  | [] => False
  | .int i :: _ => i.natAbs.log2 < 1920 ∧ Φ (.str (num i)) m
  | .str z :: _ => Φ (.str z) m
  | _ :: r0 => strWA m Φ r0
abbrev strW (d : Da) (m : Sto) (Φ : Rk) : Prop := strWA m Φ [(d)]
theorem strW_eq (d : Da) (m : Sto) (Φ : Rk) : strW d m Φ = (match d with
  | .int i => i.natAbs.log2 < 1920 ∧ Φ (.str (num i)) m
  | .str z => Φ (.str z) m
  | _ => False) := by cases d <;> rfl
def cStr : C1 K := cOne (fun xs H Q => (fun xs H Q => ∃ i, xs = [V.int i] ∧ i.natAbs.log2 < 1920 ∧ Q (.str (Str.ofString (toString i))) H) xs H Q ∨ (fun xs H Q => ∃ a, xs = [V.str a] ∧ Q (.str a) H) xs H Q) strW (fun {d m Φ} h => by cases d <;> first | exact rcd_orL (rcd_strI h) | exact rcd_orR (rcd_strS h) | exact h.elim) (fun {d m Φ Φ'} g h => by cases d <;> first | exact ⟨h.1, g _ _ h.2⟩ | exact g _ _ h | exact h)
/-- bools of a list -/
def blsO : List Da → Option (List Bool)
  | [] => some []
  | .bl b :: ds => (blsO ds).map (b :: ·)
  | _ => none
theorem blsO_some : ∀ {ds : List Da} {bs : List Bool}, blsO ds = some bs → ds = bs.map .bl
  | [], bs, h => by cases h; rfl
  | d :: ds, bs, h => by
    cases d with
    | bl b =>
      simp only [blsO, Option.map_eq_some_iff] at h
      obtain ⟨bs', e, rfl⟩ := h
      rw [blsO_some e]; rfl
    | _ => cases h
theorem blsO_map {α : Type} (f : α → Bool) : ∀ l : List α, blsO (l.map fun a => .bl (f a)) = some (l.map f)
  | [] => rfl
  | a :: l => by rw [List.map_cons, blsO, blsO_map f l]; rfl
def intsO : List Da → Option (List Int)
  | [] => some []
  | .int b :: ds => (intsO ds).map (b :: ·)
  | _ => none
theorem intsO_some : ∀ {ds : List Da} {bs : List Int}, intsO ds = some bs → ds = bs.map .int
  | [], bs, h => by cases h; rfl
  | d :: ds, bs, h => by
    cases d with
    | int b =>
      simp only [intsO, Option.map_eq_some_iff] at h
      obtain ⟨bs', e, rfl⟩ := h
      rw [intsO_some e]; rfl
    | _ => cases h
theorem intsO_map {α : Type} (f : α → Int) : ∀ l : List α, intsO (l.map fun a => .int (f a)) = some (l.map f)
  | [] => rfl
  | a :: l => by rw [List.map_cons, intsO, intsO_map f l]; rfl
def strsO : List Da → Option (List Str)
  | [] => some []
  | .str b :: ds => (strsO ds).map (b :: ·)
  | _ => none
theorem strsO_some : ∀ {ds : List Da} {bs : List Str}, strsO ds = some bs → ds = bs.map .str
  | [], bs, h => by cases h; rfl
  | d :: ds, bs, h => by
    cases d with
    | str b =>
      simp only [strsO, Option.map_eq_some_iff] at h
      obtain ⟨bs', e, rfl⟩ := h
      rw [strsO_some e]; rfl
    | _ => cases h
theorem strsO_map {α : Type} (f : α → Str) : ∀ l : List α, strsO (l.map fun a => .str (f a)) = some (l.map f)
  | [] => rfl
  | a :: l => by rw [List.map_cons, strsO, strsO_map f l]; rfl
def allWA (m : Sto) (Φ : Rk) : List ((Da)) → Prop
  | [] => False
  | .lst ds :: _ => optK (blsO ds) fun bs => Φ (.bl (bs.all id)) m
  | _ :: r0 => allWA m Φ r0
abbrev allW (d : Da) (m : Sto) (Φ : Rk) : Prop := allWA m Φ [(d)]
theorem allW_eq (d : Da) (m : Sto) (Φ : Rk) : allW d m Φ = (match d with
  | .lst ds => optK (blsO ds) fun bs => Φ (.bl (bs.all id)) m
  | _ => False) := by cases d <;> rfl
def cAll : C1 K := cOne (rAll K) allW (fun {d m Φ} h => by
  cases d with
  | lst ds => obtain ⟨bs, e, h⟩ := optK_ok h; exact rcd_all ⟨bs, by rw [blsO_some e], h⟩
  | _ => exact h.elim) (fun {d m Φ Φ'} g h => by cases d <;> first | exact optK_mono (fun bs => g _ _) h | exact h)
def sumWA (m : Sto) (Φ : Rk) : List ((Da)) → Prop
  | [] => False
  | .lst ds :: _ => optK (intsO ds) fun bs => Φ (.int bs.sum) m
  | _ :: r0 => sumWA m Φ r0
abbrev sumW (d : Da) (m : Sto) (Φ : Rk) : Prop := sumWA m Φ [(d)]
theorem sumW_eq (d : Da) (m : Sto) (Φ : Rk) : sumW d m Φ = (match d with
  | .lst ds => optK (intsO ds) fun bs => Φ (.int bs.sum) m
  | _ => False) := by cases d <;> rfl
def cSum : C1 K := cOne (rSum K) sumW (fun {d m Φ} h => by
  cases d with
  | lst ds => obtain ⟨bs, e, h⟩ := optK_ok h; exact rcd_sum ⟨bs, by rw [intsO_some e], h⟩
  | _ => exact h.elim) (fun {d m Φ Φ'} g h => by cases d <;> first | exact optK_mono (fun bs => g _ _) h | exact h)
theorem rcd_sortedM {a : Addr} (hm : m a = some (.lst ds)) (so : SortOk ds) (k : Φ (.lst (srt ds)) m) : RCD K (rSortedD K) [.adr a] m Φ := fun vs H I s p Q kq => by
  obtain ⟨v, rfl, q⟩ := one_arg p
  cases q
  obtain ⟨xs, h1, r⟩ := s.lst hm
  refine ⟨I, ds, a, xs, rfl, s.ex, h1, r, so, fun q ys hq hy => ?_⟩
  have gn := Go.new (o := .lst ys) s hq
  exact kq _ _ _ _ m gn (.lst upd_same (hy.ex gn.ei)) k
def sortW (d : Da) (m : Sto) (Φ : Rk) : Prop := lstK m d fun ds => SortOk ds ∧ Φ (.lst (srt ds)) m
def cSorted : C1 K := cOne (rSortedD K) sortW (fun {d m Φ} h => by
  unfold sortW at h
  rw [lstK_eq] at h
  split at h
  · exact rcd_sorted ⟨_, rfl, rfl, rfl, rfl, h.1, h.2⟩
  · obtain ⟨c, e, h⟩ := optK_ok h
    cases c with
    | lst ds => exact rcd_sortedM e h.1 h.2
    | _ => exact h.elim
  · exact h.elim) (fun {d m Φ Φ'} g h => lstK_mono (fun ds h => ⟨h.1, g _ _ h.2⟩) h)
def listW (d : Da) (m : Sto) (Φ : Rk) : Prop := seqK m d fun ds => Φ (.lst ds) m
abbrev rListOf (K : PySem.W.Frag) : List V → Hp → VK → Prop := fun xs H Q => ∃ p ys, xs = [.ref p] ∧ (SqL K H p ys ∨ SqT K H p ys) ∧ ∀ l, H l = none → Q (.ref l) (upd H l (.lst ys))
def cList : C1 K := cOne (rListOf K) listW (fun {d m Φ} h => by obtain ⟨ds, a, b, h⟩ := seqK_ok h; exact rcd_list ⟨ds, a, b, h⟩) (fun g h => seqK_mono (fun ds => g _ _) h)
def listMW (d : Da) (m : Sto) (Φ : Rk) : Prop := seqK m d fun ds => ∀ a, m a = none → Φ (.adr a) (m.put a (.lst ds))
def cListM : C1 K := cOne (rListOf K) listMW (fun {d m Φ} h => by obtain ⟨ds, a, b, h⟩ := seqK_ok h; exact rcd_listM ⟨ds, a, b, h⟩) (fun g h => seqK_mono (fun ds h a ha => g _ _ (h a ha)) h)
def tupleW (d : Da) (m : Sto) (Φ : Rk) : Prop := lstK m d fun ds => Φ (.tup ds) m
def cTuple : C1 K := cOne (fun xs H Q => ∃ p ys, xs = [.ref p] ∧ ((SqL K H p ys ∧ ∀ l, H l = none → Q (.ref l) (upd H l (.tup ys))) ∨ (SqT K H p ys ∧ Q (.ref p) H))) tupleW (fun {d m Φ} h => by obtain ⟨ds, a, b, c, h⟩ := lstK_ok h; exact rcd_tuple ⟨ds, a, b, c, h⟩) (fun g h => lstK_mono (fun ds => g _ _) h)
/-- the built-in types that are asked for -/
inductive Ty5 where
  | int
  | bool
  | str
  | list
  | tuple
def Ty5.nm : Ty5 → String
  | .int => "int"
  | .bool => "bool"
  | .str => "str"
  | .list => "list"
  | .tuple => "tuple"
def isTy5 (m : Sto) (n : Ty5) : Da → Bool
  | .non => false
  | .bl _ => match n with
    | .bool => true
    | .int => true
    | _ => false
  | .int _ => match n with
    | .int => true
    | _ => false
  | .str _ => match n with
    | .str => true
    | _ => false
  | .lst _ => match n with
    | .list => true
    | _ => false
  | .tup _ => match n with
    | .tuple => true
    | _ => false
  | .obj _ _ => false
  | .scr _ => false
  | .exc _ _ => false
  | .exl _ _ _ _ => false
  | .adr a => match m a with
    | some (.lst _) => match n with
      | .list => true
      | _ => false
    | _ => false
theorem isTy5_eq (m : Sto) (n : Ty5) (d : Da) : isTy m n.nm d = isTy5 m n d := by
  cases d with
  | adr a =>
    simp only [isTy, isTy5]
    cases m a with
    | none => rfl
    | some c => cases c with
      | lst ds => cases n <;> (show _ = _; first | rfl | (show (_ == _) = _; decide))
      | _ => rfl
  | _ => cases n <;> first | rfl | decide
/-- is it of a type; the data must be known -/
@[irreducible] def isiW (n : Ty5) (d : Da) (m : Sto) (k : Bool → Prop) : Prop := match d with
  | .adr a => optK (m a) fun c => match c with
    | .lst _ => k (isTy5 (fun _ => none) n (.lst []))
    | .dcl _ => False
    | .tbl _ => False
    | _ => k false
  | .scr _ => False
  | .exc _ _ => False
  | .exl _ _ _ _ => False
  | d => k (isTy5 (fun _ => none) n d)
theorem isiW_ok {n : Ty5} {k : Bool → Prop} (h : isiW n d m k) : okTy m d ∧ k (isTy m n.nm d) := by
  unfold isiW at h
  cases d with
  | adr a =>
    obtain ⟨c, e, h⟩ := optK_ok h
    rw [isTy5_eq]
    simp only [isTy5, e]
    cases c with
    | lst ds => exact ⟨⟨_, e, rfl⟩, h⟩
    | dcl kvs => exact h.elim
    | tbl q => exact h.elim
    | ins C fs => exact ⟨⟨_, e, rfl⟩, h⟩
    | dct kvs => exact ⟨⟨_, e, rfl⟩, h⟩
  | scr ds => exact h.elim
  | exc a D => exact h.elim
  | exl a D dx ld => exact h.elim
  | _ => exact ⟨trivial, by rw [isTy5_eq]; exact h⟩
theorem isi_of {n : Ty5} {k : Bool → Prop} (o : okTy m d) (h : k (isTy5 m n d)) : isiW n d m k := by
  unfold isiW
  cases d with
  | adr a =>
    obtain ⟨c, e, nd⟩ := o
    simp only [isTy5, e] at h
    refine optK_of e ?_
    cases c with
    | lst ds => exact h
    | dcl kvs => cases nd
    | tbl q => cases nd
    | ins C fs => exact h
    | dct kvs => exact h
  | scr ds => exact o.elim
  | exc a D => exact o.elim
  | exl a D dx ld => exact o.elim
  | _ => exact h
theorem isiW_mono {n : Ty5} {k k' : Bool → Prop} (f : ∀ b, k b → k' b) (h : isiW n d m k) : isiW n d m k' := by
  unfold isiW at h ⊢
  cases d with
  | adr a =>
    refine optK_mono (fun c h => ?_) h
    cases c with
    | lst ds => exact f _ h
    | dcl kvs => exact h
    | tbl q => exact h
    | ins C fs => exact f _ h
    | dct kvs => exact f _ h
  | scr ds => exact h
  | exc a D => exact h
  | exl a D dx ld => exact h
  | _ => exact f _ h
def sIsi (n : Ty5) (a : SE K) : SE K where
  t := fun E => tCB (rIsi K) (tCons (a.t E) (tCons (tC (.ty n.nm)) tNil))
  w := fun δ m Φ Ψ => a.w δ m (fun d m1 => isiW n d m1 fun b => Φ (.bl b) m1) Ψ
  ok := fun h => de_isi (by cases n <;> decide) (a.ok (a.mono (fun d m1 h => isiW_ok h) (fun _ _ h => h) h))
  mono := fun f g h => a.mono (fun d _ h => isiW_mono (fun b => f _ _) h) g h
/-! ### methods -/
structure M1r (K : PySem.W.Frag) where
  r : V → List V → Hp → VK → Prop
  w : Str → Da → Sto → Rk → Prop
  ok : ∀ {z : Str} {d : Da} {m : Sto} {Φ : Rk}, w z d m Φ → RM K r z d m Φ
  mono : ∀ {z : Str} {d : Da} {m : Sto} {Φ Φ' : Rk}, (∀ d m', Φ d m' → Φ' d m') → w z d m Φ → w z d m Φ'
def strKA (k : Str → Prop) : List ((Da)) → Prop
  | [] => False
  | .str z :: _ => k z
  | _ :: r0 => strKA k r0
abbrev strK (d : Da) (k : Str → Prop) : Prop := strKA k [(d)]
theorem strK_eq (d : Da) (k : Str → Prop) : strK d k = (match d with
  | .str z => k z
  | _ => False) := by cases d <;> rfl
theorem strK_ok {k : Str → Prop} (h : strK d k) : ∃ z, d = .str z ∧ k z := by cases d <;> first | exact ⟨_, rfl, h⟩ | exact h.elim
theorem strK_mono {k k' : Str → Prop} (f : ∀ z, k z → k' z) (h : strK d k) : strK d k' := by cases d <;> first | exact f _ h | exact h
def sM1 (r : M1r K) (a b : SE K) : SE K where
  t := fun E => tM1 r.r (a.t E) (b.t E)
  w := fun δ m Φ Ψ => a.w δ m (fun d m1 => strK d fun z => b.w δ m1 (fun d2 m2 => r.w z d2 m2 Φ) Ψ) Ψ
  ok := fun h => de_m1 (a.ok (a.mono (fun d m1 h => by
    obtain ⟨z, e, h⟩ := strK_ok h
    exact ⟨z, e, b.ok (b.mono (fun _ _ h => r.ok h) (fun _ _ h => h) h)⟩) (fun _ _ h => h) h))
  mono := fun f g h => a.mono (fun d _ h => strK_mono (fun z h => b.mono (fun _ _ h => r.mono f h) g h) h) g h
def mSplit : M1r K where
  r := fun x xs H Q => ∃ a b, x = .str a ∧ xs = [.str b] ∧ (b.length == 0) = false ∧ a.length + 2 ≤ sizeLine ∧ rNewStrs (Txt.split a b) H Q
  w := fun z d m Φ => strK d fun y => (y.length == 0) = false ∧ z.length + 2 ≤ sizeLine ∧ Φ (.lst ((Txt.split z y).map .str)) m
  ok := fun h => by obtain ⟨y, rfl, h⟩ := strK_ok h; exact rm_split h
  mono := fun f h => strK_mono (fun y h => ⟨h.1, h.2.1, f _ _ h.2.2⟩) h
def joinWA (z : Str) (m : Sto) (Φ : Rk) : List ((Da)) → Prop
  | [] => False
  | .lst ds :: _ => optK (strsO ds) fun ys => (ys.map (fun x => x.length)).sum + ys.length * z.length ≤ 16777216 ∧ Φ (.str (Txt.join z ys)) m
  | _ :: r0 => joinWA z m Φ r0
abbrev joinW (z : Str) (d : Da) (m : Sto) (Φ : Rk) : Prop := joinWA z m Φ [(d)]
theorem joinW_eq (z : Str) (d : Da) (m : Sto) (Φ : Rk) : joinW z d m Φ = (match d with
  | .lst ds => optK (strsO ds) fun ys => (ys.map (fun x => x.length)).sum + ys.length * z.length ≤ 16777216 ∧ Φ (.str (Txt.join z ys)) m
  | _ => False) := by cases d <;> rfl
def mJoin : M1r K where
  r := fun x xs H Q => ∃ a p ys, x = .str a ∧ xs = [.ref p] ∧ (SqL K H p (ys.map V.str) ∨ SqT K H p (ys.map V.str)) ∧ (ys.map (fun x => x.length)).sum + ys.length * a.length ≤ 16777216 ∧ Q (.str (Txt.join a ys)) H
  w := joinW
  ok := fun {z d m Φ} h => by
    cases d with
    | lst ds => obtain ⟨ys, e, h⟩ := optK_ok h; exact rm_join ⟨ys, by rw [strsO_some e], h⟩
    | _ => exact h.elim
  mono := fun {z d m Φ Φ'} f h => by cases d <;> first | exact optK_mono (fun ys h => ⟨h.1, f _ _ h.2⟩) h | exact h
def mStarts : M1r K where
  r := fun x xs H Q => ∃ a b, x = .str a ∧ xs = [.str b] ∧ Q (.bl (Txt.startswith a b)) H
  w := fun z d m Φ => strK d fun y => Φ (.bl (Txt.startswith z y)) m
  ok := fun h => by obtain ⟨y, rfl, h⟩ := strK_ok h; exact rm_starts h
  mono := fun f h => strK_mono (fun y => f _ _) h
/-- the list at a place of the store -/
def lstAt (m : Sto) (p : Addr) (k : List Da → Prop) : Prop := optK (m p) fun c => match c with
  | .lst ds => k ds
  | _ => False
theorem lstAt_ok {p : Addr} {k : List Da → Prop} (h : lstAt m p k) : ∃ ds, m p = some (.lst ds) ∧ k ds := by
  obtain ⟨c, e, h⟩ := optK_ok h
  cases c with
  | lst ds => exact ⟨ds, e, h⟩
  | _ => exact h.elim
theorem lstAt_mono {p : Addr} {k k' : List Da → Prop} (f : ∀ ds, k ds → k' ds) (h : lstAt m p k) : lstAt m p k' := by
  refine optK_mono (fun c h => ?_) h
  cases c with
  | lst ds => exact f _ h
  | _ => exact h
theorem lstAt_of {p : Addr} {k : List Da → Prop} (e : m p = some (.lst ds)) (h : k ds) : lstAt m p k := optK_of e h
def adrKA (k : Addr → Prop) : List ((Da)) → Prop
  | [] => False
  | .adr a :: _ => k a
  | _ :: r0 => adrKA k r0
abbrev adrK (d : Da) (k : Addr → Prop) : Prop := adrKA k [(d)]
theorem adrK_eq (d : Da) (k : Addr → Prop) : adrK d k = (match d with
  | .adr a => k a
  | _ => False) := by cases d <;> rfl
theorem adrK_ok {k : Addr → Prop} (h : adrK d k) : ∃ a, d = .adr a ∧ k a := by cases d <;> first | exact ⟨_, rfl, h⟩ | exact h.elim
theorem adrK_mono {k k' : Addr → Prop} (f : ∀ a, k a → k' a) (h : adrK d k) : adrK d k' := by cases d <;> first | exact f _ h | exact h
def sApp (a b : SE K) : SE K where
  t := fun E => tBM K "list" rAppend (a.t E) (tCons (b.t E) tNil)
  w := fun δ m Φ Ψ => a.w δ m (fun d1 m1 => adrK d1 fun p => lstAt m1 p fun _ => b.w δ m1 (fun d m2 => lstAt m2 p fun ds => ds.length < 100000 ∧ Φ .non (m2.put p (.lst (ds ++ [d])))) Ψ) Ψ
  ok := fun h => de_app (a.ok (a.mono (fun d1 m1 h => by
    obtain ⟨p, e, h⟩ := adrK_ok h
    obtain ⟨ds1, e1, h⟩ := lstAt_ok h
    exact ⟨p, ds1, e, e1, b.ok (b.mono (fun d m2 h => lstAt_ok h) (fun _ _ h => h) h)⟩) (fun _ _ h => h) h))
  mono := fun f g h => a.mono (fun d _ h => adrK_mono (fun p h => lstAt_mono (fun _ h => b.mono (fun d m2 h => lstAt_mono (fun ds h => ⟨h.1, f _ _ h.2⟩) h) g h) h) h) g h
def lst1A (k : List Da → Prop) : List ((Da)) → Prop
  | [] => False
  | .lst ds :: _ => k ds
  | _ :: r0 => lst1A k r0
abbrev lst1 (d : Da) (k : List Da → Prop) : Prop := lst1A k [(d)]
theorem lst1_eq (d : Da) (k : List Da → Prop) : lst1 d k = (match d with
  | .lst ds => k ds
  | _ => False) := by cases d <;> rfl
theorem lst1_ok {k : List Da → Prop} (h : lst1 d k) : ∃ ds, d = .lst ds ∧ k ds := by cases d <;> first | exact ⟨_, rfl, h⟩ | exact h.elim
theorem lst1_mono {k k' : List Da → Prop} (f : ∀ z, k z → k' z) (h : lst1 d k) : lst1 d k' := by cases d <;> first | exact f _ h | exact h
def sExt (a b : SE K) : SE K where
  t := fun E => tBM K "list" rExtend (a.t E) (tCons (b.t E) tNil)
  w := fun δ m Φ Ψ => a.w δ m (fun d1 m1 => adrK d1 fun p => lstAt m1 p fun _ => b.w δ m1 (fun d m2 => lst1 d fun es => lstAt m2 p fun ds => ds.length + es.length ≤ 100000 ∧ Φ .non (m2.put p (.lst (ds ++ es)))) Ψ) Ψ
  ok := fun h => de_ext (a.ok (a.mono (fun d1 m1 h => by
    obtain ⟨p, e, h⟩ := adrK_ok h
    obtain ⟨ds1, e1, h⟩ := lstAt_ok h
    exact ⟨p, ds1, e, e1, b.ok (b.mono (fun d m2 h => by
      obtain ⟨es, e2, h⟩ := lst1_ok h
      obtain ⟨ds, e3, h⟩ := lstAt_ok h
      exact ⟨ds, es, e3, e2, h⟩) (fun _ _ h => h) h)⟩) (fun _ _ h => h) h))
  mono := fun f g h => a.mono (fun d _ h => adrK_mono (fun p h => lstAt_mono (fun _ h => b.mono (fun d m2 h => lst1_mono (fun es h => lstAt_mono (fun ds h => ⟨h.1, f _ _ h.2⟩) h) h) g h) h) h) g h
def intKA (k : Int → Prop) : List ((Da)) → Prop
  | [] => False
  | .int z :: _ => k z
  | _ :: r0 => intKA k r0
abbrev intK (d : Da) (k : Int → Prop) : Prop := intKA k [(d)]
theorem intK_eq (d : Da) (k : Int → Prop) : intK d k = (match d with
  | .int z => k z
  | _ => False) := by cases d <;> rfl
theorem intK_ok {k : Int → Prop} (h : intK d k) : ∃ z, d = .int z ∧ k z := by cases d <;> first | exact ⟨_, rfl, h⟩ | exact h.elim
theorem intK_mono {k k' : Int → Prop} (f : ∀ z, k z → k' z) (h : intK d k) : intK d k' := by cases d <;> first | exact f _ h | exact h
/-- xs.pop(i), 0 ≤ i -/
def sPopAt (a b : SE K) : SE K where
  t := fun E => tBM K "list" rPopAt (a.t E) (tCons (b.t E) tNil)
  w := fun δ m Φ Ψ => a.w δ m (fun d1 m1 => adrK d1 fun p => lstAt m1 p fun _ => b.w δ m1 (fun d m2 => intK d fun i => lstAt m2 p fun ds => 0 ≤ i ∧ i < ds.length ∧ i < 2 ^ 63 ∧ optK ds[i.toNat]? fun e => Φ e (m2.put p (.lst (ds.eraseIdx i.toNat)))) Ψ) Ψ
  ok := fun h => de_popAt (a.ok (a.mono (fun d1 m1 h => by
    obtain ⟨p, e, h⟩ := adrK_ok h
    obtain ⟨ds1, e1, h⟩ := lstAt_ok h
    exact ⟨p, ds1, e, e1, b.ok (b.mono (fun d m2 h => by
      obtain ⟨i, e2, h⟩ := intK_ok h
      obtain ⟨ds, e3, h1, h2, h3, h⟩ := lstAt_ok h
      obtain ⟨x, e4, h⟩ := optK_ok h
      exact ⟨ds, i, i.toNat, x, e3, e2, by omega, h3, (ixN_seq (by unfold ixN; rw [if_pos h1, if_pos h2])).1, e4, h⟩) (fun _ _ h => h) h)⟩) (fun _ _ h => h) h))
  mono := fun f g h => a.mono (fun d _ h => adrK_mono (fun p h => lstAt_mono (fun _ h => b.mono (fun d m2 h => intK_mono (fun i h => lstAt_mono (fun ds h => ⟨h.1, h.2.1, h.2.2.1, optK_mono (fun e => f _ _) h.2.2.2⟩) h) h) g h) h) h) g h
/-! ### slices -/
structure SPo (K : PySem.W.Frag) where
  t : XK → TO
  w : Sd → Sto → (Option Int → Sto → Prop) → Xk → Prop
  ok : ∀ {E : XK} {δ : Sd} {m : Sto} {Φ : Option Int → Sto → Prop} {Ψ : Xk}, w δ m Φ Ψ → DO K E (t E) δ m Φ Ψ
  mono : ∀ {δ : Sd} {m : Sto} {Φ Φ' : Option Int → Sto → Prop} {Ψ Ψ' : Xk}, (∀ d m', Φ d m' → Φ' d m') → (∀ x m', Ψ x m' → Ψ' x m') → w δ m Φ Ψ → w δ m Φ' Ψ'
def poNo : SPo K := ⟨fun _ => tNoPart, fun δ m Φ Ψ => Φ none m, fun h => do_no h, fun f _ h => f _ _ h⟩
def poSo (a : SE K) : SPo K where
  t := fun E => tPart (a.t E)
  w := fun δ m Φ Ψ => a.w δ m (fun d m1 => intK d fun i => Φ (some i) m1) Ψ
  ok := fun h => do_some (a.ok (a.mono (fun d m1 h => intK_ok h) (fun _ _ h => h) h))
  mono := fun f g h => a.mono (fun d _ h => intK_mono (fun i => f _ _) h) g h
def slWA (lo : Option Int) (hi : Option Int) (m : Sto) (Φ : Rk) : List ((Da)) → Prop
  | [] => False
  | .tup ds :: _ => Φ (.tup (cutD ds lo hi)) m
  | .str z :: _ => z.length ≤ sizeLine ∧ Φ (.str (cutS z lo hi)) m
  | .scr ds :: _ => Φ (.lst (cutD ds lo hi)) m
  | d :: r0 => (fun _ : Prop => lstK m d fun ds => Φ (.lst (cutD ds lo hi)) m) (slWA lo hi m Φ r0)
abbrev slW (d : Da) (lo hi : Option Int) (m : Sto) (Φ : Rk) : Prop := slWA lo hi m Φ [(d)]
theorem slW_eq (d : Da) (lo hi : Option Int) (m : Sto) (Φ : Rk) : slW d lo hi m Φ = (match d with
  | .tup ds => Φ (.tup (cutD ds lo hi)) m
  | .str z => z.length ≤ sizeLine ∧ Φ (.str (cutS z lo hi)) m
  | .scr ds => Φ (.lst (cutD ds lo hi)) m
  | d => lstK m d fun ds => Φ (.lst (cutD ds lo hi)) m) := by cases d <;> rfl
abbrev rSlU (K : PySem.W.Frag) : V → Option Int → Option Int → Hp → VK → Prop := fun x lo hi H Q => rSlL K x lo hi H Q ∨ (fun x lo hi H Q => rSlA K x lo hi H Q ∨ rSlS x lo hi H Q) x lo hi H Q
theorem sl_U {X : Cx} : SlR X (rSlU X.K) := sl_list.or (sl_tupA.or sl_str)
theorem rsl_A {lo hi : Option Int} (k : Φ (.tup (cutD ds lo hi)) m) : RSl K (rSlA K) (.tup ds) lo hi m Φ := fun x H I s p Q kq => by
  cases p with
  | @tup a xs _ hs rs =>
    refine ⟨a, xs, rfl, Evl.ex_t s.ex hs, fun z => ?_, fun _ q hq => ?_⟩
    · have e : cutD ds lo hi = ds := by
        rw [rs.len] at z
        unfold cutD
        rw [z.1, z.2, List.drop_zero]
        exact List.take_of_length_le (by simp)
      rw [e] at k
      exact kq _ H I _ m (Go.refl s) (.tup hs rs) k
    · have gn := Go.new (o := .tup (cutV xs lo hi)) s hq
      exact kq _ _ _ _ m gn (.tup (Evl.st_of upd_same) ((dtAll_cut rs lo hi).ex gn.ei)) k
theorem rslU {lo hi : Option Int} (h : slW d lo hi m Φ) : RSl K (rSlU K) d lo hi m Φ := fun x H I s p Q kq => by
  rw [slW_eq] at h
  split at h
  · exact .inr (.inl (rsl_A h x H I s p Q kq))
  · exact .inr (.inr (rsl_S h x H I s p Q kq))
  · exact .inl (rsl_R h x H I s p Q kq)
  · exact .inl (rsl_L (by obtain ⟨ds, a, b, c, h⟩ := lstK_ok h; exact ⟨ds, a, b, c, h⟩) x H I s p Q kq)
theorem slW_mono {lo hi : Option Int} (f : ∀ d m', Φ d m' → Φ' d m') (h : slW d lo hi m Φ) : slW d lo hi m Φ' := by
  rw [slW_eq] at h ⊢
  split at h
  · exact f _ _ h
  · exact ⟨h.1, f _ _ h.2⟩
  · exact f _ _ h
  · exact lstK_mono (fun ds => f _ _) h
def sSl (a : SE K) (lo hi : SPo K) : SE K where
  t := fun E => tSl (rSlU K) (a.t E) (lo.t E) (hi.t E)
  w := fun δ m Φ Ψ => a.w δ m (fun d m1 => lo.w δ m1 (fun l m2 => hi.w δ m2 (fun h m3 => slW d l h m3 Φ) Ψ) Ψ) Ψ
  ok := fun h => de_sl (a.ok (a.mono (fun d m1 h => lo.ok (lo.mono (fun l m2 h => hi.ok (hi.mono (fun _ _ h => rslU h) (fun _ _ h => h) h)) (fun _ _ h => h) h)) (fun _ _ h => h) h))
  mono := fun f g h => a.mono (fun d _ h => lo.mono (fun _ _ h => hi.mono (fun _ _ h => slW_mono f h) g h) g h) g h
end
end G

set_option maxHeartbeats 4000000
/-! W: walks, targets, comprehensions, statements, loops, defs. -/
namespace G
open PySem PySem.Spec PyProof.Rows L2
/-- a walk's condition on the store -/
def oKA (m : Sto) (p : Prop) : List ((Option (Sto → Prop))) → Prop
  | [] => False
  | none :: _ => p
  | some s :: r0 => (fun _ : Prop => s m ∧ p) (oKA m p r0)
abbrev oK (o : Option (Sto → Prop)) (m : Sto) (p : Prop) : Prop := oKA m p [(o)]
theorem oK_eq (o : Option (Sto → Prop)) (m : Sto) (p : Prop) : oK o m p = (match o with
  | none => p
  | some s => s m ∧ p) := by cases o <;> rfl
theorem oK_ok {o : Option (Sto → Prop)} {m : Sto} {p : Prop} (h : oK o m p) : (o.elim True fun s => s m) ∧ p := by
  cases o with
  | none => exact ⟨trivial, h⟩
  | some s => exact h
theorem oK_mono {o : Option (Sto → Prop)} {m : Sto} {p q : Prop} (f : p → q) (h : oK o m p) : oK o m q := by
  cases o with
  | none => exact f h
  | some s => exact ⟨h.1, f h.2⟩
section
variable {K : PySem.W.Frag} {m : Sto} {δ : Sd} {d : Da} {ds : List Da}
/-! ### iterables -/
def itWA (m : Sto) (k : List Da → Option (Sto → Prop) → Prop) : List ((Da)) → Prop
  | [] => False
  | .lst ds :: _ => k ds none
  | .adr a :: _ => lstAt m a fun ds => k ds (some fun m2 => m2 a = some (.lst ds))
  | _ :: r0 => itWA m k r0
abbrev itW (m : Sto) (d : Da) (k : List Da → Option (Sto → Prop) → Prop) : Prop := itWA m k [(d)]
theorem itW_eq (m : Sto) (d : Da) (k : List Da → Option (Sto → Prop) → Prop) : itW m d k = (match d with
  | .lst ds => k ds none
  | .adr a => lstAt m a fun ds => k ds (some fun m2 => m2 a = some (.lst ds))
  | _ => False) := by cases d <;> rfl
/-- a list by its data -/
def listOf (m : Sto) : Da → Option (List Da)
  | .lst ds => some ds
  | .adr a => match m a with
    | some (.lst ds) => some ds
    | _ => none
  | _ => none
theorem listOf_adr {a : Addr} (h : listOf m (.adr a) = some ds) : m a = some (.lst ds) := by
  simp only [listOf] at h
  split at h
  · rename_i e; cases h; exact e
  · cases h
theorem lstK_of {k : List Da → Prop} (e : listOf m d = some ds) (h : k ds) : lstK m d k := by
  cases d with
  | lst ds => cases e; exact h
  | adr a => exact optK_of (listOf_adr e) h
  | _ => cases e
theorem seqK_of {k : List Da → Prop} (e : listOf m d = some ds) (h : k ds) : seqK m d k := by
  cases d with
  | lst ds => cases e; exact h
  | adr a => exact optK_of (listOf_adr e) h
  | _ => cases e
theorem itW_of {k : List Da → Option (Sto → Prop) → Prop} (e : listOf m d = some ds) (h : ∀ o, (∀ p : Prop, p → oK o m p) → k ds o) : itW m d k := by
  cases d with
  | lst ds => cases e; exact h none fun _ h => h
  | adr a =>
    have e := listOf_adr e
    exact lstAt_of e (h _ fun p h => ⟨e, h⟩)
  | _ => cases e
def iList (a : SE K) : SIt K where
  t := fun E => L2.iList K (a.t E)
  w := fun δ m Φ Ψ => a.w δ m (fun d m1 => itW m1 d fun ds o => Φ ds o m1) Ψ
  ok := fun h => dw_list (a.ok (a.mono (fun d m1 h => by
    rw [itW_eq] at h
    split at h
    · exact ⟨_, rfl, rfl, rfl, none, fun _ => ⟨fun _ => trivial, fun _ => rfl⟩, h⟩
    · rename_i a
      obtain ⟨ds, e, h⟩ := lstAt_ok h
      refine ⟨ds, rfl, rfl, seq_adr e, some _, fun m2 => ⟨fun q => ?_, fun q => seq_adr q⟩, h⟩
      simp only [seqD] at q
      split at q
      · rename_i e2; cases q; exact e2
      · cases q
    · exact h.elim) (fun _ _ h => h) h))
  mono := fun f g h => a.mono (fun d m1 h => by
    rw [itW_eq] at h ⊢
    split at h
    · exact f _ _ _ h
    · exact lstAt_mono (fun ds h => f _ _ _ h) h
    · exact h) g h
def tupKA (k : List Da → Prop) : List ((Da)) → Prop
  | [] => False
  | .tup ds :: _ => k ds
  | _ :: r0 => tupKA k r0
abbrev tupK (d : Da) (k : List Da → Prop) : Prop := tupKA k [(d)]
theorem tupK_eq (d : Da) (k : List Da → Prop) : tupK d k = (match d with
  | .tup ds => k ds
  | _ => False) := by cases d <;> rfl
theorem tupK_ok {k : List Da → Prop} (h : tupK d k) : ∃ ds, d = .tup ds ∧ k ds := by cases d <;> first | exact ⟨_, rfl, h⟩ | exact h.elim
theorem tupK_mono {k k' : List Da → Prop} (f : ∀ z, k z → k' z) (h : tupK d k) : tupK d k' := by cases d <;> first | exact f _ h | exact h
def oNone {P : Prop} : (P ↔ (none : Option (Sto → Prop)).elim True fun s => s m) → P := fun h => h.mpr trivial
theorem tru_none (Φ : Prop) (h : Φ) : ∃ o : Option (Sto → Prop), (∀ m2 : Sto, (fun _ : Sto => True) m2 ↔ o.elim True fun s => s m2) ∧ (o = none ∧ Φ) := ⟨none, fun _ => Iff.rfl, rfl, h⟩
def iTup (a : SE K) : SIt K where
  t := fun E => L2.iTup K (a.t E)
  w := fun δ m Φ Ψ => a.w δ m (fun d m1 => tupK d fun ds => Φ ds none m1) Ψ
  ok := fun h => dw_tup (a.ok (a.mono (fun d m1 h => by
    obtain ⟨ds, e, h⟩ := tupK_ok h
    exact ⟨ds, e, none, fun _ => Iff.rfl, h⟩) (fun _ _ h => h) h))
  mono := fun f g h => a.mono (fun d m1 h => tupK_mono (fun ds => f _ _ _) h) g h
def iStr (a : SE K) : SIt K where
  t := fun E => L2.iStr (a.t E)
  w := fun δ m Φ Ψ => a.w δ m (fun d m1 => strK d fun z => Φ (signsD z) none m1) Ψ
  ok := fun h => dw_str (a.ok (a.mono (fun d m1 h => by
    obtain ⟨z, e, h⟩ := strK_ok h
    exact ⟨z, e, none, fun _ => Iff.rfl, h⟩) (fun _ _ h => h) h))
  mono := fun f g h => a.mono (fun d m1 h => strK_mono (fun ds => f _ _ _) h) g h
def rng1WA (k : List Da → Prop) : List ((List Da)) → Prop
  | [] => False
  | [.int n] :: _ => (-(2 ^ 62) ≤ n ∧ n < 2 ^ 62) ∧ k (rngD 0 n.toNat)
  | _ :: r0 => rng1WA k r0
abbrev rng1W (ds : List Da) (k : List Da → Prop) : Prop := rng1WA k [(ds)]
theorem rng1W_eq (ds : List Da) (k : List Da → Prop) : rng1W ds k = (match ds with
  | [.int n] => (-(2 ^ 62) ≤ n ∧ n < 2 ^ 62) ∧ k (rngD 0 n.toNat)
  | _ => False) := by
  match ds with
  | [] => rfl
  | [d] => cases d <;> rfl
  | a :: _ :: _ => cases a <;> rfl
def iRange1 (as : SAr K) : SIt K where
  t := fun E => iRng1 (as.t E)
  w := fun δ m Φ Ψ => as.w δ m (fun ds m1 => rng1W ds fun xs => Φ xs none m1) Ψ
  ok := fun h => dw_range1 (as.ok (as.mono (fun ds m1 h => by
    rw [rng1W_eq] at h
    split at h
    · exact ⟨_, rfl, h.1.1, h.1.2, none, fun _ => Iff.rfl, h.2⟩
    · exact h.elim) (fun _ _ h => h) h))
  mono := fun f g h => as.mono (fun ds m1 h => by
    rw [rng1W_eq] at h ⊢
    split at h
    · exact ⟨h.1, f _ _ _ h.2⟩
    · exact h) g h
def rng2WA (k : List Da → Prop) : List ((List Da)) → Prop
  | [] => False
  | [.int lo, .int n] :: _ => (-(2 ^ 62) ≤ lo ∧ lo < 2 ^ 62 ∧ -(2 ^ 62) ≤ n ∧ n < 2 ^ 62) ∧ k (rngD lo (n - lo).toNat)
  | _ :: r0 => rng2WA k r0
abbrev rng2W (ds : List Da) (k : List Da → Prop) : Prop := rng2WA k [(ds)]
theorem rng2W_eq (ds : List Da) (k : List Da → Prop) : rng2W ds k = (match ds with
  | [.int lo, .int n] => (-(2 ^ 62) ≤ lo ∧ lo < 2 ^ 62 ∧ -(2 ^ 62) ≤ n ∧ n < 2 ^ 62) ∧ k (rngD lo (n - lo).toNat)
  | _ => False) := by
  match ds with
  | [] => rfl
  | [d] => cases d <;> rfl
  | [a, b] => cases a <;> cases b <;> rfl
  | a :: b :: _ :: _ => cases a <;> cases b <;> rfl
def iRange2 (as : SAr K) : SIt K where
  t := fun E => iRng2 (as.t E)
  w := fun δ m Φ Ψ => as.w δ m (fun ds m1 => rng2W ds fun xs => Φ xs none m1) Ψ
  ok := fun h => dw_range2 (as.ok (as.mono (fun ds m1 h => by
    rw [rng2W_eq] at h
    split at h
    · exact ⟨_, _, rfl, h.1.1, h.1.2.1, h.1.2.2.1, h.1.2.2.2, none, fun _ => Iff.rfl, h.2⟩
    · exact h.elim) (fun _ _ h => h) h))
  mono := fun f g h => as.mono (fun ds m1 h => by
    rw [rng2W_eq] at h ⊢
    split at h
    · exact ⟨h.1, f _ _ _ h.2⟩
    · exact h) g h
/-- a sequence that stays -/
def fixKA (k : List Da → Prop) : List ((Da)) → Prop
  | [] => False
  | .lst ds :: _ => k ds
  | .tup ds :: _ => k ds
  | .str z :: _ => k (signsD z)
  | _ :: r0 => fixKA k r0
abbrev fixK (d : Da) (k : List Da → Prop) : Prop := fixKA k [(d)]
theorem fixK_eq (d : Da) (k : List Da → Prop) : fixK d k = (match d with
  | .lst ds => k ds
  | .tup ds => k ds
  | .str z => k (signsD z)
  | _ => False) := by cases d <;> rfl
theorem fixK_ok {k : List Da → Prop} (h : fixK d k) : ∃ ds, isAdrD d = false ∧ seqD m d = some ds ∧ k ds := by
  cases d <;> first | exact ⟨_, rfl, rfl, h⟩ | exact h.elim
theorem fixK_mono {k k' : List Da → Prop} (f : ∀ z, k z → k' z) (h : fixK d k) : fixK d k' := by cases d <;> first | exact f _ h | exact h
def zip2WA (k : List Da → Prop) : List ((List Da)) → Prop
  | [] => False
  | [d1, d2] :: _ => fixK d1 fun xs => fixK d2 fun ys => k (zipD xs ys)
  | _ :: r0 => zip2WA k r0
abbrev zip2W (ds : List Da) (k : List Da → Prop) : Prop := zip2WA k [(ds)]
theorem zip2W_eq (ds : List Da) (k : List Da → Prop) : zip2W ds k = (match ds with
  | [d1, d2] => fixK d1 fun xs => fixK d2 fun ys => k (zipD xs ys)
  | _ => False) := by
  match ds with
  | [] => rfl
  | [d] => rfl
  | [a, b] => rfl
  | a :: b :: _ :: _ => rfl
def iZip (as : SAr K) : SIt K where
  t := fun E => iZip2 K (as.t E)
  w := fun δ m Φ Ψ => as.w δ m (fun ds m1 => zip2W ds fun xs => Φ xs none m1) Ψ
  ok := fun h => dw_zip2 (as.ok (as.mono (fun ds m1 h => by
    rw [zip2W_eq] at h
    split at h
    · obtain ⟨xs, a1, a2, h⟩ := fixK_ok (m := m1) h
      obtain ⟨ys, b1, b2, h⟩ := fixK_ok (m := m1) h
      exact ⟨_, _, xs, ys, rfl, a1, b1, a2, b2, none, fun _ => Iff.rfl, h⟩
    · exact h.elim) (fun _ _ h => h) h))
  mono := fun f g h => as.mono (fun ds m1 h => by
    rw [zip2W_eq] at h ⊢
    split at h
    · exact fixK_mono (fun xs h => fixK_mono (fun ys h => f _ _ _ h) h) h
    · exact h) g h
/-! ### targets -/
def tgName (i : Nat) : STg K where
  t := gName i
  T := [i]
  w := fun δ m d Φ Ψ => setS δ i (some d) fun δ' => Φ δ' m
  ok := fun h => db_name (setS_ok h)
  mono := fun f _ h => setS_mono (fun δ' => f _ _) h
def tgNil : STgs K where
  t := gNil
  T := []
  n := 0
  w := fun δ m ds Φ Ψ => match ds with
    | [] => Φ δ m
    | _ => False
  ok := fun {E δ m ds Φ Ψ} h => by
    cases ds with
    | nil => exact ⟨rfl, db_nil h⟩
    | cons d ds => exact h.elim
  mono := fun {δ m ds Φ Φ' Ψ Ψ'} f _ h => by
    cases ds with
    | nil => exact f _ _ h
    | cons d ds => exact h
def tgCons (g : STg K) (gs : STgs K) : STgs K where
  t := gCons g.t gs.t
  T := g.T ++ gs.T
  n := gs.n + 1
  w := fun δ m ds Φ Ψ => match ds with
    | [] => False
    | d :: ds => g.w δ m d (fun δ1 m1 => gs.w δ1 m1 ds Φ Ψ) Ψ ∧ Nat.beq ds.length gs.n = true
  ok := fun {E δ m ds Φ Ψ} h => by
    cases ds with
    | nil => exact h.elim
    | cons d ds => exact ⟨by rw [List.length_cons, Nat.eq_of_beq_eq_true h.2], db_cons (g.ok (g.mono (fun δ1 m1 h => (gs.ok h).2) (fun _ _ h => h) h.1))⟩
  mono := fun {δ m ds Φ Φ' Ψ Ψ'} f x h => by
    cases ds with
    | nil => exact h
    | cons d ds => exact ⟨g.mono (fun δ1 m1 h => gs.mono f x h) x h.1, h.2⟩
end
/-- slots stored one behind the other -/
def setsS : Sd → List Nat → List Da → (Sd → Prop) → Prop
  | δ, [], [], k => k δ
  | δ, i :: is, d :: ds, k => setS δ i (some d) fun δ' => setsS δ' is ds k
  | _, _, _, _ => False
theorem setsS_mono : ∀ {δ : Sd} {is : List Nat} {ds : List Da} {k k' : Sd → Prop}, (∀ δ', k δ' → k' δ') → setsS δ is ds k → setsS δ is ds k'
  | δ, [], [], k, k', f, h => f _ h
  | δ, i :: is, d :: ds, k, k', f, h => setS_mono (fun δ' h => setsS_mono f h) (show setS δ i (some d) (fun δ' => setsS δ' is ds k) from h)
  | _, [], _ :: _, _, _, _, h => h.elim
  | _, _ :: _, [], _, _, _, h => h.elim
def gNames : List Nat → TGs
  | [] => gNil
  | i :: is => gCons (gName i) (gNames is)
theorem setsS_ok {K : PySem.W.Frag} {E : XK} {m : Sto} {Φ : Nk} {Ψ : Xk} : ∀ {is : List Nat} {δ : Sd} {ds : List Da}, (setsS δ is ds fun δ' => Φ δ' m) → ds.length = is.length ∧ DBs K E (gNames is) is δ m ds Φ Ψ
  | [], δ, [], h => ⟨rfl, db_nil h⟩
  | i :: is, δ, d :: ds, h => by
    obtain ⟨h1, h2⟩ := setS_ok (show setS δ i (some d) (fun δ' => setsS δ' is ds fun δ' => Φ δ' m) from h)
    obtain ⟨h3, h4⟩ := setsS_ok (Ψ := Ψ) (E := E) (K := K) h2
    exact ⟨by simp [h3], db_consN ⟨h1, h4⟩⟩
  | [], _, _ :: _, h => h.elim
  | _ :: _, _, [], h => h.elim
section
variable {K : PySem.W.Frag} {m : Sto} {δ : Sd} {d : Da} {ds : List Da}
/-- a, b, c = (a tuple) -/
def tgTup (is : List Nat) : STg K where
  t := gTup K is.length (gNames is)
  T := is
  w := fun δ m d Φ Ψ => tupK d fun ds => setsS δ is ds fun δ' => Φ δ' m
  ok := fun h => by
    obtain ⟨ds, rfl, h⟩ := tupK_ok h
    exact db_tup (setsS_ok h)
  mono := fun f _ h => tupK_mono (fun ds h => setsS_mono (fun δ' => f _ _) h) h
/-- a, b, c = (a list) -/
def tgLst (is : List Nat) : STg K where
  t := gLst K is.length (gNames is)
  T := is
  w := fun δ m d Φ Ψ => lstK m d fun ds => setsS δ is ds fun δ' => Φ δ' m
  ok := fun {E δ m d Φ Ψ} h => by
    rw [lstK_eq] at h
    split at h
    · exact db_lst (setsS_ok h)
    · obtain ⟨c, e, h⟩ := optK_ok h
      cases c with
      | lst ds => exact db_lstM e (setsS_ok h)
      | _ => exact h.elim
    · exact h.elim
  mono := fun f _ h => lstK_mono (fun ds h => setsS_mono (fun δ' => f _ _) h) h
/-! ### comprehensions -/
/-- f: a turn, what follows where nothing is kept, what follows where d is kept -/
def lcW (f : Da → Sto → (Sto → Prop) → (Da → Sto → Prop) → Prop) (o : Option (Sto → Prop)) : List Da → Sto → (List Da → Sto → Prop) → Prop
  | [], m, k => oK o m (k [] m)
  | d :: ds, m, k => oK o m (f d m (fun m' => lcW f o ds m' k) fun d' m' => lcW f o ds m' fun acc m2 => k (d' :: acc) m2)
theorem lcW_mono {f : Da → Sto → (Sto → Prop) → (Da → Sto → Prop) → Prop} {o : Option (Sto → Prop)} (hf : ∀ d m k0 k0' k1 k1', (∀ m', k0 m' → k0' m') → (∀ d' m', k1 d' m' → k1' d' m') → f d m k0 k1 → f d m k0' k1') :
    ∀ {ds : List Da} {m : Sto} {k k' : List Da → Sto → Prop}, (∀ acc m', k acc m' → k' acc m') → lcW f o ds m k → lcW f o ds m k'
  | [], m, k, k', g, h => oK_mono (g _ _) h
  | d :: ds, m, k, k', g, h => oK_mono (hf _ _ _ _ _ _ (fun m' h => lcW_mono hf g h) (fun d' m' h => lcW_mono hf (fun acc m2 => g _ _) h)) h
/-- a turn of a comprehension -/
def lcT (tg : STg K) (c : STe K) (e : SE K) (δ : Sd) (d : Da) (m : Sto) (k0 : Sto → Prop) (k1 : Da → Sto → Prop) : Prop :=
  tg.w δ m d (fun δ2 m2 => c.w δ2 m2 (fun b m3 => iteB b (e.w δ2 m3 k1 noX) (k0 m3)) noX) noX
theorem lcT_mono {tg : STg K} {c : STe K} {e : SE K} {δ : Sd} : ∀ d m k0 k0' k1 k1', (∀ m', k0 m' → k0' m') → (∀ d' m', k1 d' m' → k1' d' m') → lcT tg c e δ d m k0 k1 → lcT tg c e δ d m k0' k1' := fun d m k0 k0' k1 k1' h0 h1 h =>
  tg.mono (fun δ2 m2 h => c.mono (fun b m3 h => iteB_mono (fun h => e.mono h1 (fun _ _ h => h) h) (h0 _) h) (fun _ _ h => h) h) (fun _ _ h => h) h
theorem lc_core {it : SIt K} {tg : STg K} {c : STe K} {e : SE K} {vs : List Nat} {Φ0 : List Da → Sto → Prop} {E : XK} {Φ : Rk} {Ψ : Xk} (hT : ∀ i ∈ tg.T, i ∈ vs) (fin : ∀ acc m', Φ0 acc m' → Φ (.lst acc) m' ∨ ∀ a, m' a = none → Φ (.adr a) (m'.put a (.lst acc)))
    (h : it.w δ m (fun ds o m1 => ds.length ≤ 100000 ∧ lcW (lcT tg c e (wipeD δ vs)) o ds m1 Φ0) noX) : DE K E (tLc (it.t E0) tg.t (c.t E0) (e.t E0) vs) δ m Φ Ψ := by
  refine lc_both (T := tg.T) hT fun σ H I s l Q kq kx => it.ok h σ H I s l Q (fun J H' I' ds S m' Gd Y g w q => kq J H' I' ds S m' Gd Y g w ?_) kx
  obtain ⟨o, hS, hl, q⟩ := q
  refine ⟨fun i acc m2 => lcW (lcT tg c e (wipeD δ vs)) o (ds.drop i) m2 fun r m3 => Φ0 (acc ++ r) m3, q, fun i acc m2 q => ?_, hl, fun i d acc m2 hd q => ?_, fun acc m2 q => ?_⟩
  · rw [hS]
    have q : lcW (lcT tg c e (wipeD δ vs)) o (ds.drop i) m2 (fun r m3 => Φ0 (acc ++ r) m3) := q
    cases ed : ds.drop i with
    | nil => rw [ed] at q; exact (oK_ok q).1
    | cons d r => rw [ed] at q; exact (oK_ok q).1
  · obtain ⟨hi, ed⟩ := List.getElem?_eq_some_iff.mp hd
    have e1 : ds.drop i = d :: ds.drop (i + 1) := by rw [List.drop_eq_getElem_cons hi, ed]
    have q : lcW (lcT tg c e (wipeD δ vs)) o (ds.drop i) m2 (fun r m3 => Φ0 (acc ++ r) m3) := q
    rw [e1] at q
    have q := (oK_ok q).2
    refine tg.ok (tg.mono (fun δ2 m3 q => c.ok (c.mono (fun b m4 q => iteB_if (iteB_mono (fun q => e.ok (e.mono (fun d' m5 q => ?_) (fun _ _ z => z) q)) (fun q => q) q)) (fun _ _ z => z) q)) (fun _ _ z => z) q)
    show lcW _ _ _ _ _
    simpa only [List.append_assoc, List.singleton_append] using q
  · have q : lcW (lcT tg c e (wipeD δ vs)) o (ds.drop ds.length) m2 (fun r m3 => Φ0 (acc ++ r) m3) := q
    rw [List.drop_length] at q
    have q : Φ0 (acc ++ []) m2 := (oK_ok q).2
    rw [List.append_nil] at q
    exact fin acc m2 q
/-- [e for tg in it if c]: a list that stays -/
def sLc (it : SIt K) (tg : STg K) (c : STe K) (e : SE K) (vs : List Nat) (hT : ∀ i ∈ tg.T, i ∈ vs := by exact fun _ h => h) : SE K where
  t := fun E => tLc (it.t E0) tg.t (c.t E0) (e.t E0) vs
  w := fun δ m Φ Ψ => it.w δ m (fun ds o m1 => ds.length ≤ 100000 ∧ lcW (lcT tg c e (wipeD δ vs)) o ds m1 fun acc m' => Φ (.lst acc) m') noX
  ok := fun h => lc_core hT (fun acc m' q => .inl q) h
  mono := fun f g h => it.mono (fun ds o m1 h => ⟨h.1, lcW_mono lcT_mono (fun acc m' => f _ _) h.2⟩) (fun _ _ h => h) h
def sLcM (it : SIt K) (tg : STg K) (c : STe K) (e : SE K) (vs : List Nat) (hT : ∀ i ∈ tg.T, i ∈ vs := by exact fun _ h => h) : SE K where
  t := fun E => tLc (it.t E0) tg.t (c.t E0) (e.t E0) vs
  w := fun δ m Φ Ψ => it.w δ m (fun ds o m1 => ds.length ≤ 100000 ∧ lcW (lcT tg c e (wipeD δ vs)) o ds m1 fun acc m' => ∀ a, m' a = none → Φ (.adr a) (m'.put a (.lst acc))) noX
  ok := fun h => lc_core (Φ0 := fun acc m' => ∀ a, m' a = none → _) hT (fun acc m' q => .inr q) h
  mono := fun f g h => it.mono (fun ds o m1 h => ⟨h.1, lcW_mono lcT_mono (fun acc m' h a ha => f _ _ (h a ha)) h.2⟩) (fun _ _ h => h) h
/-- a walk's condition holds at a store -/
def oYes (o : Option (Sto → Prop)) (m : Sto) : Prop := ∀ p : Prop, p → oK o m p
theorem oYes_none {m : Sto} : oYes none m := fun _ h => h
/-- turns that change nothing and keep all -/
theorem lc_mapO {f : Da → Sto → (Sto → Prop) → (Da → Sto → Prop) → Prop} {o : Option (Sto → Prop)} {α : Type} {enc mk : α → Da} {k : List Da → Sto → Prop} (ho : oYes o m) : ∀ (l : List α), (∀ a ∈ l, ∀ k0 k1, k1 (mk a) m → f (enc a) m k0 k1) → k (l.map mk) m → lcW f o (l.map enc) m k
  | [], _, h => ho _ h
  | a :: l, hf, h => ho _ (hf a (by simp) _ _ (lc_mapO (k := fun acc m2 => k (mk a :: acc) m2) ho l (fun b hb => hf b (List.mem_cons_of_mem _ hb)) h))
theorem lc_map {f : Da → Sto → (Sto → Prop) → (Da → Sto → Prop) → Prop} {α : Type} {enc mk : α → Da} {k : List Da → Sto → Prop} (l : List α) (hf : ∀ a ∈ l, ∀ k0 k1, k1 (mk a) m → f (enc a) m k0 k1) (h : k (l.map mk) m) : lcW f none (l.map enc) m k := lc_mapO oYes_none l hf h
theorem lc_map0 {f : Da → Sto → (Sto → Prop) → (Da → Sto → Prop) → Prop} {o : Option (Sto → Prop)} {mk : Da → Da} {k : List Da → Sto → Prop} (ho : oYes o m) (l : List Da) (hf : ∀ a ∈ l, ∀ k0 k1, k1 (mk a) m → f a m k0 k1) (h : k (l.map mk) m) : lcW f o l m k := by
  have := lc_mapO (enc := fun d => d) (f := f) ho l hf h
  rwa [List.map_id''] at this
  exact fun _ => rfl
/-- .. and keep some -/
theorem lc_filterO {f : Da → Sto → (Sto → Prop) → (Da → Sto → Prop) → Prop} {o : Option (Sto → Prop)} {α : Type} {enc mk : α → Da} {p : α → Bool} {k : List Da → Sto → Prop} (ho : oYes o m) : ∀ (l : List α), (∀ a ∈ l, ∀ (k0 : Sto → Prop) (k1 : Da → Sto → Prop), (if p a = true then k1 (mk a) m else k0 m) → f (enc a) m k0 k1) → k ((l.filter p).map mk) m → lcW f o (l.map enc) m k
  | [], _, h => ho _ h
  | a :: l, hf, h => by
    refine ho _ (hf a (by simp) _ _ ?_)
    by_cases c : p a = true
    · rw [if_pos c]
      rw [List.filter_cons, if_pos c] at h
      exact lc_filterO (k := fun acc m2 => k (mk a :: acc) m2) ho l (fun b hb => hf b (List.mem_cons_of_mem _ hb)) h
    · rw [if_neg c]
      rw [List.filter_cons, if_neg c] at h
      exact lc_filterO ho l (fun b hb => hf b (List.mem_cons_of_mem _ hb)) h
theorem lc_filter {f : Da → Sto → (Sto → Prop) → (Da → Sto → Prop) → Prop} {α : Type} {enc mk : α → Da} {p : α → Bool} {k : List Da → Sto → Prop} (l : List α) (hf : ∀ a ∈ l, ∀ (k0 : Sto → Prop) (k1 : Da → Sto → Prop), (if p a = true then k1 (mk a) m else k0 m) → f (enc a) m k0 k1) (h : k ((l.filter p).map mk) m) : lcW f none (l.map enc) m k := lc_filterO oYes_none l hf h
/-! ### tests -/
def sTest (a : SE K) : STe K where
  t := fun E => tTest (a.t E)
  w := fun δ m Φ Ψ => a.w δ m (fun d m1 => blK d fun b => Φ b m1) Ψ
  ok := fun h => dt_of (a.ok (a.mono (fun d m1 h => blK_ok h) (fun _ _ h => h) h))
  mono := fun f g h => a.mono (fun d _ h => blK_mono (fun b => f _ _) h) g h
def stNot (a : STe K) : STe K where
  t := fun E => tNot (a.t E)
  w := fun δ m Φ Ψ => a.w δ m (fun b m1 => Φ (!b) m1) Ψ
  ok := fun h => dt_not (a.ok h)
  mono := fun f g h => a.mono (fun b _ => f _ _) g h
def stAnd (a b : STe K) : STe K where
  t := fun E => tAnd (a.t E) (b.t E)
  w := fun δ m Φ Ψ => a.w δ m (fun c m1 => iteB c (b.w δ m1 Φ Ψ) (Φ false m1)) Ψ
  ok := fun h => dt_and (a.ok (a.mono (fun c m1 h => iteB_if (iteB_mono (fun h => b.ok h) (fun h => h) h)) (fun _ _ h => h) h))
  mono := fun f g h => a.mono (fun c _ h => iteB_mono (fun h => b.mono f g h) (f _ _) h) g h
def stOr (a b : STe K) : STe K where
  t := fun E => tOr (a.t E) (b.t E)
  w := fun δ m Φ Ψ => a.w δ m (fun c m1 => iteB c (Φ true m1) (b.w δ m1 Φ Ψ)) Ψ
  ok := fun h => dt_or (a.ok (a.mono (fun c m1 h => iteB_if (iteB_mono (fun h => h) (fun h => b.ok h) h)) (fun _ _ h => h) h))
  mono := fun f g h => a.mono (fun c _ h => iteB_mono (f _ _) (fun h => b.mono f g h) h) g h
/-! ### statements -/
def sSeq (a b : SSt K) : SSt K where
  t := fun E => tSeq (a.t E) (b.t E)
  w := fun δ m N R X B C => a.w δ m (fun δ' m' => b.w δ' m' N R X B C) R X B C
  ok := fun h => ds_seq (a.ok (a.mono (fun _ _ h => b.ok h) (fun _ _ h => h) (fun _ _ h => h) (fun _ _ h => h) (fun _ _ h => h) h))
  mono := fun n r x b' c h => a.mono (fun _ _ h => b.mono n r x b' c h) r x b' c h
/-- a cut between two statements -/
theorem seq_cut {a b : SSt K} {N B C : Nk} {R : Rk} {X : Xk} (P : Nk) (h : a.w δ m P R X B C) (k : ∀ δ' m', P δ' m' → b.w δ' m' N R X B C) : (sSeq a b).w δ m N R X B C := a.mono k (fun _ _ z => z) (fun _ _ z => z) (fun _ _ z => z) (fun _ _ z => z) h
def sRet (a : SE K) : SSt K where
  t := fun E => tRet (a.t E)
  w := fun δ m N R X B C => a.w δ m R X
  ok := fun h => ds_ret (a.ok h)
  mono := fun n r x b c h => a.mono r x h
def sRetN : SSt K := ⟨fun _ => tRetN, fun δ m N R X B C => R .non m, fun h => ds_retN h, fun n r x b c h => r _ _ h⟩
def sPass : SSt K := ⟨fun _ => tNext, fun δ m N R X B C => N δ m, fun h => ds_next h, fun n r x b c h => n _ _ h⟩
def sBrk : SSt K := ⟨fun _ => tBreak, fun δ m N R X B C => B δ m, fun h => ds_break h, fun n r x b c h => b _ _ h⟩
def sCont : SSt K := ⟨fun _ => tCont, fun δ m N R X B C => C δ m, fun h => ds_cont h, fun n r x b c h => c _ _ h⟩
def sIf (c : STe K) (a b : SSt K) : SSt K where
  t := fun E => tIfS (c.t E) (a.t E) (b.t E)
  w := fun δ m N R X B C => c.w δ m (fun k m1 => iteB k (a.w δ m1 N R X B C) (b.w δ m1 N R X B C)) X
  ok := fun h => ds_if (c.ok (c.mono (fun k m1 h => iteB_if (iteB_mono (fun h => a.ok h) (fun h => b.ok h) h)) (fun _ _ h => h) h))
  mono := fun n r x b' c' h => c.mono (fun k m1 h => iteB_mono (fun h => a.mono n r x b' c' h) (fun h => b.mono n r x b' c' h) h) x h
def sSet (i : Nat) (a : SE K) : SSt K where
  t := fun E => tAsg (a.t E) (gName i)
  w := fun δ m N R X B C => a.w δ m (fun d m1 => setS δ i (some d) fun δ' => N δ' m1) X
  ok := fun h => ds_set (a.ok (a.mono (fun d m1 h => setS_ok h) (fun _ _ h => h) h))
  mono := fun n r x b c h => a.mono (fun d m1 h => setS_mono (fun δ' => n _ _) h) x h
def sAsg (g : STg K) (a : SE K) : SSt K where
  t := fun E => tAsg (a.t E) g.t
  w := fun δ m N R X B C => a.w δ m (fun d m1 => g.w δ m1 d N X) X
  ok := fun h => ds_asg (a.ok (a.mono (fun d m1 h => g.ok h) (fun _ _ h => h) h))
  mono := fun n r x b c h => a.mono (fun d m1 h => g.mono n x h) x h
def sPar (i j : Nat) (as : SAr K) : SSt K where
  t := fun E => tPar i j (as.t E)
  w := fun δ m N R X B C => as.w δ m (fun ds m1 => match ds with
    | [d1, d2] => setS δ i (some d1) fun δ1 => setS δ1 j (some d2) fun δ2 => N δ2 m1
    | _ => False) X
  ok := fun h => ds_par (as.ok (as.mono (fun ds m1 h => by
    match ds, h with
    | [d1, d2], h =>
      obtain ⟨h1, h⟩ := setS_ok h
      obtain ⟨h2, h⟩ := setS_ok h
      exact ⟨d1, d2, rfl, h1, by simpa using h2, h⟩
    | [], h => exact h.elim
    | [_], h => exact h.elim
    | _ :: _ :: _ :: _, h => exact h.elim) (fun _ _ h => h) h))
  mono := fun n r x b c h => as.mono (fun ds m1 h => by
    match ds, h with
    | [d1, d2], h => exact setS_mono (fun δ1 h => setS_mono (fun δ2 => n _ _) h) h
    | [], h => exact h
    | [_], h => exact h
    | _ :: _ :: _ :: _, h => exact h) x h
def sDrop (a : SE K) : SSt K where
  t := fun E => tDrop (a.t E)
  w := fun δ m N R X B C => a.w δ m (fun _ m1 => N δ m1) X
  ok := fun h => ds_drop (a.ok h)
  mono := fun n r x b c h => a.mono (fun d m1 => n _ _) x h
def sRaise (c : Str) : SSt K := ⟨fun E => fun _ σ H => E (.ref (He.ga K c)) none H, fun δ m N R X B C => X (c, none) m, fun h => ds_raise h, fun n r x b c h => x _ _ h⟩
/-- what is never reached -/
def sDead : SSt K := ⟨fun E => fun _ _ _ => False, fun δ m N R X B C => False, fun h => h.elim, fun n r x b c h => h⟩
/-- the object at a place of the store -/
def insAt (m : Sto) (p : Addr) (k : Addr → List (Nat × Da) → Prop) : Prop := optK (m p) fun c => match c with
  | .ins C gs => k C gs
  | _ => False
theorem insAt_ok {p : Addr} {k : Addr → List (Nat × Da) → Prop} (h : insAt m p k) : ∃ C gs, m p = some (.ins C gs) ∧ k C gs := by
  obtain ⟨c, e, h⟩ := optK_ok h
  cases c with
  | ins C gs => exact ⟨C, gs, e, h⟩
  | _ => exact h.elim
theorem insAt_mono {p : Addr} {k k' : Addr → List (Nat × Da) → Prop} (f : ∀ C gs, k C gs → k' C gs) (h : insAt m p k) : insAt m p k' := by
  refine optK_mono (fun c h => ?_) h
  cases c with
  | ins C gs => exact f _ _ h
  | _ => exact h
theorem insAt_of {p C : Addr} {gs : List (Nat × Da)} {k : Addr → List (Nat × Da) → Prop} (e : m p = some (.ins C gs)) (h : k C gs) : insAt m p k := optK_of e h
/-- o.f = e -/
def sFldS (o : SE K) (f : Nat) (e : SE K) (hf : f < fnames.length := by decide) : SSt K where
  t := fun E => L2.sFld K (o.t E) (e.t E) (fnm f)
  w := fun δ m N R X B C => e.w δ m (fun d m1 => o.w δ m1 (fun d2 m2 => adrK d2 fun a => insAt m2 a fun C gs => Nat.ble (gs.length + 1) 1000 = true ∧ N δ (m2.put a (.ins C (putD f d gs)))) X) X
  ok := fun h => ds_fld hf (e.ok (e.mono (fun d m1 h => o.ok (o.mono (fun d2 m2 h => by
    obtain ⟨a, e1, h⟩ := adrK_ok h
    obtain ⟨C, gs, e2, h1, h⟩ := insAt_ok h
    exact ⟨a, C, gs, e1, e2, Nat.le_of_ble_eq_true h1, h⟩) (fun _ _ h => h) h)) (fun _ _ h => h) h))
  mono := fun n r x b c h => e.mono (fun d m1 h => o.mono (fun d2 m2 h => adrK_mono (fun a h => insAt_mono (fun C gs h => ⟨h.1, n _ _ h.2⟩) h) h) x h) x h
/-- o.f += e -/
def sFldAug (o : SE K) (f : Nat) (op : O2 K) (e : SE K) (hf : f < fnames.length := by decide) : SSt K where
  t := fun E => L2.sFldAug K (o.t E) (e.t E) op.r (fnm f)
  w := fun δ m N R X B C => o.w δ m (fun d1 m1 => adrK d1 fun a => insAt m1 a fun C0 gs0 => lookK gs0 f fun d0 => e.w δ m1 (fun d m2 => op.w d0 d m2 fun d' m3 => insAt m3 a fun C gs => C = C0 ∧ Nat.ble (gs.length + 1) 1000 = true ∧ N δ (m3.put a (.ins C (putD f d' gs)))) X) X
  ok := fun h => ds_fldA hf (o.ok (o.mono (fun d1 m1 h => by
    obtain ⟨a, e1, h⟩ := adrK_ok h
    obtain ⟨C0, gs0, e2, h⟩ := insAt_ok h
    obtain ⟨d0, e3, h⟩ := lookK_ok h
    exact ⟨a, C0, gs0, d0, e1, e2, e3, e.ok (e.mono (fun d m2 h => op.ok (op.mono (fun d' m3 h => by
      obtain ⟨C, gs, e4, h1, h2, h3⟩ := insAt_ok h
      subst h1
      exact ⟨gs, e4, Nat.le_of_ble_eq_true h2, h3⟩) h)) (fun _ _ h => h) h)⟩) (fun _ _ h => h) h))
  mono := fun n r x b c h => o.mono (fun d1 m1 h => adrK_mono (fun a h => insAt_mono (fun _ gs0 h => lookK_mono (fun d0 h => e.mono (fun d m2 h => op.mono (fun d' m3 h => insAt_mono (fun C gs h => ⟨h.1, h.2.1, n _ _ h.2.2⟩) h) h) x h) h) h) h) x h
/-- x op= e -/
def sAug (i : Nat) (op : O2 K) (e : SE K) : SSt K where
  t := fun E => tAug i (e.t E) op.r
  w := fun δ m N R X B C => getS δ i fun d0 => e.w δ m (fun d m1 => op.w d0 d m1 fun d' m2 => setS δ i (some d') fun δ' => N δ' m2) X
  ok := fun h => by
    obtain ⟨d0, e1, h⟩ := getS_ok h
    exact ds_aug e1 (e.ok (e.mono (fun d m1 h => op.ok (op.mono (fun d' m2 h => setS_ok h) h)) (fun _ _ h => h) h))
  mono := fun n r x b c h => getS_mono (fun d0 h => e.mono (fun d m1 h => op.mono (fun d' m2 h => setS_mono (fun δ' => n _ _) h) h) x h) h
def oIp (f : Int → Int → Int) : O2 K where
  r := ipI f
  w := fun d1 d2 m Φ => int2 d1 d2 fun i j => Φ (.int (f i j)) m
  ok := fun h => by obtain ⟨i, j, rfl, rfl, h⟩ := int2_ok h; exact rd_ipI h
  mono := fun f h => int2_mono (fun i j => f _ _) h
/-- xs[i] = e, by place or from the end -/
def setAtA (ds : List Da) (d : Da) (k : List Da → Prop) : List ((Int)) → Prop
  | [] => False
  | .ofNat n :: _ => iteB (Nat.ble (n + 1) ds.length) (k (ds.set n d)) False
  | .negSucc n :: r0 => (fun _ : Prop => iteB (Nat.ble (n + 1) ds.length) (k (ds.set (ds.length - 1 - n) d)) False) (setAtA ds d k r0)
abbrev setAt (ds : List Da) (i : Int) (d : Da) (k : List Da → Prop) : Prop := setAtA ds d k [(i)]
theorem setAt_eq (ds : List Da) (i : Int) (d : Da) (k : List Da → Prop) : setAt ds i d k = (match i with
  | .ofNat n => iteB (Nat.ble (n + 1) ds.length) (k (ds.set n d)) False
  | .negSucc n => iteB (Nat.ble (n + 1) ds.length) (k (ds.set (ds.length - 1 - n) d)) False) := by cases i <;> rfl
theorem setAt_ok {i : Int} {k : List Da → Prop} (h : setAt ds i d k) : ∃ j, ixN ds.length i = some j ∧ k (ds.set j d) := by
  cases i with
  | ofNat n =>
    have h : iteB (Nat.ble (n + 1) ds.length) (k (ds.set n d)) False := h
    cases e : Nat.ble (n + 1) ds.length with
    | false => rw [e] at h; exact h.elim
    | true =>
      rw [e] at h
      have := Nat.le_of_ble_eq_true e
      refine ⟨n, ?_, h⟩
      show ixN ds.length (n : Int) = some n
      unfold ixN
      rw [if_pos (by omega), if_pos (by omega)]
      rfl
  | negSucc n =>
    have h : iteB (Nat.ble (n + 1) ds.length) (k (ds.set (ds.length - 1 - n) d)) False := h
    cases e : Nat.ble (n + 1) ds.length with
    | false => rw [e] at h; exact h.elim
    | true =>
      rw [e] at h
      have := Nat.le_of_ble_eq_true e
      refine ⟨ds.length - 1 - n, ?_, h⟩
      unfold ixN
      rw [if_neg (by omega), if_pos (by omega)]
      congr 1
      omega
theorem setAt_mono {i : Int} {k k' : List Da → Prop} (f : ∀ z, k z → k' z) (h : setAt ds i d k) : setAt ds i d k' := by
  cases i with
  | ofNat n => exact iteB_mono (f _) id h
  | negSucc n => exact iteB_mono (f _) id h
def sSetI (a b e : SE K) : SSt K where
  t := fun E => tAsg (e.t E) (gSub (a.t E) (b.t E) rSetL)
  w := fun δ m N R X B C => e.w δ m (fun d m1 => a.w δ m1 (fun d1 m2 => b.w δ m2 (fun d2 m3 => adrK d1 fun p => intK d2 fun i => lstAt m3 p fun ds => setAt ds i d fun ds' => N δ (m3.put p (.lst ds'))) X) X) X
  ok := fun h => ds_setI (e.ok (e.mono (fun d m1 h => a.ok (a.mono (fun d1 m2 h => b.ok (b.mono (fun d2 m3 h => by
    obtain ⟨p, e1, h⟩ := adrK_ok h
    obtain ⟨i, e2, h⟩ := intK_ok h
    obtain ⟨ds, e3, h⟩ := lstAt_ok h
    obtain ⟨j, e4, h⟩ := setAt_ok h
    exact ⟨p, ds, i, j, e1, e2, e3, e4, h⟩) (fun _ _ h => h) h)) (fun _ _ h => h) h)) (fun _ _ h => h) h))
  mono := fun n r x b' c h => e.mono (fun d m1 h => a.mono (fun d1 m2 h => b.mono (fun d2 m3 h => adrK_mono (fun p h => intK_mono (fun i h => lstAt_mono (fun ds h => setAt_mono (fun ds' => n _ _) h) h) h) h) x h) x h) x h
/-- slot i is known to stay from now on -/
def sFrzS (i : Nat) (s : SSt K) : SSt K where
  t := s.t
  w := fun δ m N R X B C => getS δ i fun d => frzK d m fun d' m' => setS δ i (some d') fun δ' => s.w δ' m' N R X B C
  ok := fun {E δ m N R X B C} h => by
    obtain ⟨d, e1, h⟩ := getS_ok h
    obtain ⟨d', m', g, h⟩ := frzK_ok h
    obtain ⟨h1, h⟩ := setS_ok h
    exact fun σ H I D s0 l kn kr kb kc kx => by
      obtain ⟨v, hv, pv⟩ := l.da i d e1
      obtain ⟨J, g2, p2⟩ := g H I s0 v pv
      have rt : SL K J σ (δ.set i (some d')) := by
        refine ⟨by rw [List.length_set]; exact l.len, fun j x hx => ?_⟩
        by_cases c : j = i
        · subst c
          rw [List.getElem?_set_self h1] at hx
          cases hx
          exact ⟨v, hv, p2⟩
        · rw [List.getElem?_set_ne (Ne.symm c)] at hx
          obtain ⟨u, u1, u2⟩ := l.da j x hx
          exact ⟨u, u1, u2.ex g2.ei⟩
      exact ds_then g2 (s.ok h) rt kn kr kb kc kx
  mono := fun n r x b c h => getS_mono (fun d h => frzK_mono (fun d' m' h => setS_mono (fun δ' h => s.mono n r x b c h) h) h) h
/-! ### loops -/
def forW (f : Da → Sd → Sto → Nk → Prop) (o : Option (Sto → Prop)) : List Da → Sd → Sto → Nk → Prop
  | [], δ, m, N => oK o m (N δ m)
  | d :: ds, δ, m, N => oK o m (f d δ m fun δ' m' => forW f o ds δ' m' N)
theorem forW_mono {f g : Da → Sd → Sto → Nk → Prop} {o : Option (Sto → Prop)} (hf : ∀ d δ m N N', (∀ δ' m', N δ' m' → N' δ' m') → f d δ m N → g d δ m N') : ∀ {ds : List Da} {δ : Sd} {m : Sto} {N N' : Nk}, (∀ δ' m', N δ' m' → N' δ' m') → forW f o ds δ m N → forW g o ds δ m N'
  | [], δ, m, N, N', h, q => oK_mono (h _ _) q
  | d :: ds, δ, m, N, N', h, q => oK_mono (hf _ _ _ _ _ fun δ' m' q => forW_mono hf h q) q
/-- a turn of a for -/
def forT (tg : STg K) (b : SSt K) (N : Nk) (R : Rk) (X : Xk) (d : Da) (δ : Sd) (m : Sto) (N' : Nk) : Prop := tg.w δ m d (fun δ2 m2 => b.w δ2 m2 N' R X N N') X
def sFor (it : SIt K) (tg : STg K) (b : SSt K) : SSt K where
  t := fun E => tFor (it.t E) tg.t (b.t E)
  w := fun δ m N R X B C => it.w δ m (fun ds o m1 => forW (forT tg b N R X) o ds δ m1 N) X
  ok := fun {E δ m N R X B C} h => ds_for (T := tg.T) fun σ H I s l Q kq kx => it.ok h σ H I s l Q (fun J H' I' ds S m' Gd Y g w q => kq J H' I' ds S m' Gd Y g w (by
    obtain ⟨o, hS, q⟩ := q
    refine ⟨fun i δ' m2 => forW (forT tg b N R X) o (ds.drop i) δ' m2 N, q, fun i δ' m2 q => ?_, fun i d δ' m2 hd q => ?_, fun δ' m2 q => ?_⟩
    · have q : forW (forT tg b N R X) o (ds.drop i) δ' m2 N := q
      rw [hS]
      cases ed : ds.drop i with
      | nil => rw [ed] at q; exact (oK_ok q).1
      | cons d r => rw [ed] at q; exact (oK_ok q).1
    · obtain ⟨hi, ed⟩ := List.getElem?_eq_some_iff.mp hd
      have e1 : ds.drop i = d :: ds.drop (i + 1) := by rw [List.drop_eq_getElem_cons hi, ed]
      have q : forW (forT tg b N R X) o (ds.drop i) δ' m2 N := q
      rw [e1] at q
      have q : forT tg b N R X d δ' m2 (fun δ' m' => forW (forT tg b N R X) o (ds.drop (i + 1)) δ' m' N) := (oK_ok q).2
      exact tg.ok (tg.mono (fun δ2 m3 q => b.ok q) (fun _ _ z => z) q)
    · have q : forW (forT tg b N R X) o (ds.drop ds.length) δ' m2 N := q
      rw [List.drop_length] at q
      exact (oK_ok q).2)) kx
  mono := fun n r x b' c h => it.mono (fun ds o m1 h => forW_mono (fun d δ m N1 N2 hn q => tg.mono (fun δ2 m2 q => b.mono hn r x n hn q) x q) n h) x h
/-- a for by what holds behind the items taken -/
theorem for_invO {f : Da → Sd → Sto → Nk → Prop} {o : Option (Sto → Prop)} {N : Nk} {α : Type} {enc : α → Da} (W : List α → Sd → Sto → Prop) (ho : ∀ p δ m, W p δ m → oYes o m) (hf : ∀ d δ m N N', (∀ δ' m', N δ' m' → N' δ' m') → f d δ m N → f d δ m N') : ∀ (l pre : List α), (∀ p a q δ m, pre ++ l = p ++ a :: q → W p δ m → f (enc a) δ m (W (p ++ [a]))) → (∀ δ m, W (pre ++ l) δ m → N δ m) → ∀ δ m, W pre δ m → forW f o (l.map enc) δ m N
  | [], pre, _, h, δ, m, w => ho _ _ _ w _ (h _ _ (by rw [List.append_nil]; exact w))
  | a :: l, pre, hs, h, δ, m, w => ho _ _ _ w _ (hf _ _ _ _ _ (fun δ' m' w' => for_invO W ho hf l (pre ++ [a]) (fun p b q δ m e => hs p b q δ m (by simpa using e)) (fun δ m w => h δ m (by simpa using w)) δ' m' w') (hs pre a l δ m rfl w))
theorem for_inv {f : Da → Sd → Sto → Nk → Prop} {N : Nk} {α : Type} {enc : α → Da} (W : List α → Sd → Sto → Prop) (hf : ∀ d δ m N N', (∀ δ' m', N δ' m' → N' δ' m') → f d δ m N → f d δ m N') (l pre : List α) (hs : ∀ p a q δ m, pre ++ l = p ++ a :: q → W p δ m → f (enc a) δ m (W (p ++ [a]))) (h : ∀ δ m, W (pre ++ l) δ m → N δ m) (δ : Sd) (m : Sto) (w : W pre δ m) : forW f none (l.map enc) δ m N := for_invO W (fun _ _ _ _ => oYes_none) hf l pre hs h δ m w
theorem forT_mono {tg : STg K} {b : SSt K} {N : Nk} {R : Rk} {X : Xk} : ∀ d δ m N1 N2, (∀ δ' m', N1 δ' m' → N2 δ' m') → forT tg b N R X d δ m N1 → forT tg b N R X d δ m N2 := fun d δ m N1 N2 h q => tg.mono (fun δ2 m2 q => b.mono h (fun _ _ z => z) (fun _ _ z => z) (fun _ _ z => z) h q) (fun _ _ z => z) q
/-- while: W of what falls, the slots and the store -/
def whW (f : Sd → Sto → Nk → Prop) (δ : Sd) (m : Sto) : Prop := ∃ W : Nat → Sd → Sto → Prop, (∃ n, W n δ m) ∧ ∀ n δ' m', W n δ' m' → f δ' m' fun δ3 m3 => ∃ n', n' < n ∧ W n' δ3 m3
def whT (c : STe K) (b : SSt K) (N : Nk) (R : Rk) (X : Xk) (δ : Sd) (m : Sto) (N' : Nk) : Prop := c.w δ m (fun k m2 => iteB k (b.w δ m2 N' R X N N') (N δ m2)) X
def sWhile (c : STe K) (b : SSt K) : SSt K where
  t := fun E => tWhile (c.t E) (b.t E)
  w := fun δ m N R X B C => whW (whT c b N R X) δ m
  ok := fun h => by
    obtain ⟨W, h0, hs⟩ := h
    exact ds_while W h0 fun n δ' m' w => c.ok (c.mono (fun k m2 h => iteB_if (iteB_mono (fun h => b.ok h) (fun h => h) h)) (fun _ _ h => h) (hs n δ' m' w))
  mono := fun n r x b' c' h => by
    obtain ⟨W, h0, hs⟩ := h
    exact ⟨W, h0, fun k δ' m' w => c.mono (fun k m2 h => iteB_mono (fun h => b.mono (fun _ _ z => z) r x n (fun _ _ z => z) h) (n _ _) h) x (hs k δ' m' w)⟩
/-! ### defs -/
def noN : Nk := fun _ _ => False
/-- a def's body keeps its promise -/
theorem spW_go {F : Fs} {N : List Str} {S : SSt K} (hl : ∀ ds m R X, F ds m R X → ds.length ≤ N.length) {vs : List V} {H : Hp} {Q : VK} {E : XK} (h : ∀ ds m R X, F ds m R X → S.w (dn N ds) m (fun _ m' => R .non m') R X noN noN) (q : spW K F vs H Q E) : (S.t E) { nx := fun _ H' => Q .non H', rt := Q } (start N vs) H :=
  spW_run hl (fun ds m R X hf => S.ok (h ds m R X hf)) q
theorem spW_eq {F : Fs} {N : List Str} (S : SSt K) {t : TS} {E : XK} (e : S.t E = t) (hl : ∀ ds m R X, F ds m R X → ds.length ≤ N.length) {vs : List V} {H : Hp} {Q : VK} (h : ∀ ds m R X, F ds m R X → S.w (dn N ds) m (fun _ m' => R .non m') R X noN noN) (q : spW K F vs H Q E) : t { nx := fun _ H' => Q .non H', rt := Q } (start N vs) H := by
  subst e
  exact spW_go hl h q
/-- what is of the store is of another -/
def Sub (m' m : Sto) : Prop := ∀ a c, m' a = some c → m a = some c
theorem Sub.refl (m : Sto) : Sub m m := fun _ _ h => h
/-- .. and forgets what it made besides -/
theorem spW_less {F : Fs} {N : List Str} {S : SSt K} (hl : ∀ ds m R X, F ds m R X → ds.length ≤ N.length) {vs : List V} {H : Hp} {Q : VK} {E : XK} (h : ∀ ds m R X, F ds m R X → S.w (dn N ds) m (fun _ m' => ∃ m2, Sub m2 m' ∧ R .non m2) (fun d m' => ∃ m2, Sub m2 m' ∧ R d m2) (fun x m' => ∃ m2, Sub m2 m' ∧ X x m2) noN noN) (q : spW K F vs H Q E) : (S.t E) { nx := fun _ H' => Q .non H', rt := Q } (start N vs) H := by
  obtain ⟨I, m, ds, sm, rs, f⟩ := q
  refine S.ok (h ds m _ _ f) (start N vs) H I _ sm (start_sl rs (hl _ _ _ _ f)) (fun σ' H' I' δ' m' g l n => ?_) (fun v H' I' d m' g p n => ?_) (fun _ _ _ _ _ _ _ z => z.elim) (fun _ _ _ _ _ _ _ z => z.elim) (fun x H' I' m' g n => ?_)
  · obtain ⟨m2, s2, n⟩ := n
    exact n .non H' I' (g.trans (Go.less g.sm s2)) .non
  · obtain ⟨m2, s2, n⟩ := n
    exact n v H' I' (g.trans (Go.less g.sm s2)) p
  · obtain ⟨m2, s2, n⟩ := n
    exact n H' I' (g.trans (Go.less g.sm s2))
theorem spW_leq {F : Fs} {N : List Str} (S : SSt K) {t : TS} {E : XK} (e : S.t E = t) (hl : ∀ ds m R X, F ds m R X → ds.length ≤ N.length) {vs : List V} {H : Hp} {Q : VK} (h : ∀ ds m R X, F ds m R X → S.w (dn N ds) m (fun _ m' => ∃ m2, Sub m2 m' ∧ R .non m2) (fun d m' => ∃ m2, Sub m2 m' ∧ R d m2) (fun x m' => ∃ m2, Sub m2 m' ∧ X x m2) noN noN) (q : spW K F vs H Q E) : t { nx := fun _ H' => Q .non H', rt := Q } (start N vs) H := by
  subst e
  exact spW_less hl h q
/-! promises of defs, by the number of arguments -/
def g0 (g : Sto → Rk → Xk → Prop) : Fs := fun ds m R X => match ds with
  | [] => g m R X
  | _ => False
def g1 (g : Da → Sto → Rk → Xk → Prop) : Fs := fun ds m R X => match ds with
  | [a] => g a m R X
  | _ => False
def g2 (g : Da → Da → Sto → Rk → Xk → Prop) : Fs := fun ds m R X => match ds with
  | [a, b] => g a b m R X
  | _ => False
def g3 (g : Da → Da → Da → Sto → Rk → Xk → Prop) : Fs := fun ds m R X => match ds with
  | [a, b, c] => g a b c m R X
  | _ => False
def g4 (g : Da → Da → Da → Da → Sto → Rk → Xk → Prop) : Fs := fun ds m R X => match ds with
  | [a, b, c, d] => g a b c d m R X
  | _ => False
theorem g0_of {g : Sto → Rk → Xk → Prop} {ds : List Da} {m : Sto} {R : Rk} {X : Xk} (h : g0 g ds m R X) : ds = [] ∧ g m R X := by
  match ds, h with
  | [], h => exact ⟨rfl, h⟩
  | _ :: _, h => exact h.elim
theorem g1_of {g : Da → Sto → Rk → Xk → Prop} {ds : List Da} {m : Sto} {R : Rk} {X : Xk} (h : g1 g ds m R X) : ∃ a, ds = [a] ∧ g a m R X := by
  match ds, h with
  | [a], h => exact ⟨a, rfl, h⟩
  | [], h => exact h.elim
  | _ :: _ :: _, h => exact h.elim
theorem g2_of {g : Da → Da → Sto → Rk → Xk → Prop} {ds : List Da} {m : Sto} {R : Rk} {X : Xk} (h : g2 g ds m R X) : ∃ a b, ds = [a, b] ∧ g a b m R X := by
  match ds, h with
  | [a, b], h => exact ⟨a, b, rfl, h⟩
  | [], h => exact h.elim
  | [_], h => exact h.elim
  | _ :: _ :: _ :: _, h => exact h.elim
theorem g3_of {g : Da → Da → Da → Sto → Rk → Xk → Prop} {ds : List Da} {m : Sto} {R : Rk} {X : Xk} (h : g3 g ds m R X) : ∃ a b c, ds = [a, b, c] ∧ g a b c m R X := by
  match ds, h with
  | [a, b, c], h => exact ⟨a, b, c, rfl, h⟩
  | [], h => exact h.elim
  | [_], h => exact h.elim
  | [_, _], h => exact h.elim
  | _ :: _ :: _ :: _ :: _, h => exact h.elim
theorem g4_of {g : Da → Da → Da → Da → Sto → Rk → Xk → Prop} {ds : List Da} {m : Sto} {R : Rk} {X : Xk} (h : g4 g ds m R X) : ∃ a b c d, ds = [a, b, c, d] ∧ g a b c d m R X := by
  match ds, h with
  | [a, b, c, d], h => exact ⟨a, b, c, d, rfl, h⟩
  | [], h => exact h.elim
  | [_], h => exact h.elim
  | [_, _], h => exact h.elim
  | [_, _, _], h => exact h.elim
  | _ :: _ :: _ :: _ :: _ :: _, h => exact h.elim
theorem gm0 {g : Sto → Rk → Xk → Prop} (h : M0 g) : FMono (g0 g) := fun ds m R R' X X' hr hx q => by
  obtain ⟨rfl, q⟩ := g0_of q
  exact h m R R' X X' hr hx q
theorem gm1 {g : Da → Sto → Rk → Xk → Prop} (h : ∀ a, M0 (g a)) : FMono (g1 g) := fun ds m R R' X X' hr hx q => by
  obtain ⟨a, rfl, q⟩ := g1_of q
  exact h a m R R' X X' hr hx q
theorem gm2 {g : Da → Da → Sto → Rk → Xk → Prop} (h : ∀ a b, M0 (g a b)) : FMono (g2 g) := fun ds m R R' X X' hr hx q => by
  obtain ⟨a, b, rfl, q⟩ := g2_of q
  exact h a b m R R' X X' hr hx q
theorem gm3 {g : Da → Da → Da → Sto → Rk → Xk → Prop} (h : ∀ a b c, M0 (g a b c)) : FMono (g3 g) := fun ds m R R' X X' hr hx q => by
  obtain ⟨a, b, c, rfl, q⟩ := g3_of q
  exact h a b c m R R' X X' hr hx q
theorem gm4 {g : Da → Da → Da → Da → Sto → Rk → Xk → Prop} (h : ∀ a b c d, M0 (g a b c d)) : FMono (g4 g) := fun ds m R R' X X' hr hx q => by
  obtain ⟨a, b, c, d, rfl, q⟩ := g4_of q
  exact h a b c d m R R' X X' hr hx q
theorem gl0 {g : Sto → Rk → Xk → Prop} : ∀ ds m R X, g0 g ds m R X → ds.length = 0 := fun ds m R X q => by obtain ⟨rfl, _⟩ := g0_of q; rfl
theorem gl1 {g : Da → Sto → Rk → Xk → Prop} : ∀ ds m R X, g1 g ds m R X → ds.length = 1 := fun ds m R X q => by obtain ⟨a, rfl, _⟩ := g1_of q; rfl
theorem gl2 {g : Da → Da → Sto → Rk → Xk → Prop} : ∀ ds m R X, g2 g ds m R X → ds.length = 2 := fun ds m R X q => by obtain ⟨a, b, rfl, _⟩ := g2_of q; rfl
theorem gl3 {g : Da → Da → Da → Sto → Rk → Xk → Prop} : ∀ ds m R X, g3 g ds m R X → ds.length = 3 := fun ds m R X q => by obtain ⟨a, b, c, rfl, _⟩ := g3_of q; rfl
theorem gl4 {g : Da → Da → Da → Da → Sto → Rk → Xk → Prop} : ∀ ds m R X, g4 g ds m R X → ds.length = 4 := fun ds m R X q => by obtain ⟨a, b, c, d, rfl, _⟩ := g4_of q; rfl
/-- answers data where P holds, and changes nothing -/
def ans (P : Prop) (d : Da) : Sto → Rk → Xk → Prop := fun m R X => P ∧ R d m
theorem ans_mono {P : Sto → Prop} {d : Sto → Da} : M0 fun m R X => ans (P m) (d m) m R X := fun m R R' X X' hr hx ⟨p, q⟩ => ⟨p, hr _ _ q⟩
end
end G

set_option maxHeartbeats 4000000
/-! W: the law's own def, which stands under no guard (repr), and its end. -/
namespace G
open PySem PySem.Spec PyProof.Rows L2
/-! ### repr -/
def rReprD (K : PySem.W.Frag) : List V → Hp → VK → Prop := fun vs H Q => ∃ a p, vs = [V.ref a] ∧ L2.Dp K H (.ref a) p ∧ p.showable = true ∧ p.hasDict = false ∧ p.depth ≤ 60 ∧ p.shown.length ≤ sizeLine ∧ Q (.str p.shown) H
theorem cr_reprD {X : Cx} (un : X.A.units + 64 < cLine) (g : X.A.guards = some []) : CallR X (.builtin "repr") (rReprD X.K) := by
  intro pins s σ H vs us Q I r h
  obtain ⟨a, p, rfl, hd, h1, h2, h3, h4, q⟩ := h
  rw [Vals.ref1 r]
  obtain ⟨as, rd⟩ := L2.Dp.reads I p (.ref a) (.ref a) hd rfl
  exact repr_of_reads' rd h1 (PyData.noDict_hsm h2) g (by omega) (fun _ _ e => e) (fun h' u tk hk => ⟨.str p.shown, H, I.kept hk, ⟨u, rfl⟩, q⟩) h4
/-- the text of data -/
def isRefD : Da → Bool
  | .lst _ => true
  | .tup _ => true
  | .adr _ => true
  | _ => false
def reprW (d : Da) (m : Sto) (Φ : Rk) : Prop := ∃ p, isRefD d = true ∧ pyM m d = some p ∧ p.showable = true ∧ p.hasDict = false ∧ p.depth ≤ 60 ∧ p.shown.length ≤ sizeLine ∧ Φ (.str p.shown) m
section
variable {K : PySem.W.Frag} {m : Sto} {Φ Φ' : Rk} {d : Da}
theorem rcd_repr (h : reprW d m Φ) : RCD K (rReprD K) [d] m Φ := by
  obtain ⟨p, c, e, h1, h2, h3, h4, k⟩ := h
  refine rcd_sc (fun _ => .str _) (fun vs H I s pv Q k => ?_) k
  obtain ⟨v, rfl, q⟩ := one_arg pv
  have hd := Dt.dpM s e q
  cases q with
  | lst _ _ => exact ⟨_, p, rfl, hd, h1, h2, h3, h4, k⟩
  | tup _ _ => exact ⟨_, p, rfl, hd, h1, h2, h3, h4, k⟩
  | adr a => exact ⟨_, p, rfl, hd, h1, h2, h3, h4, k⟩
  | _ => cases c
def cRepr : C1 K := cOne (rReprD K) reprW (fun h => rcd_repr h) (fun g h => by
  obtain ⟨p, c, e, h1, h2, h3, h4, k⟩ := h
  exact ⟨p, c, e, h1, h2, h3, h4, g _ _ k⟩)
end
/-! ### the law's def, called by the law's caller -/
/-- a def called from outside -/
def TopOk (P : Program) (w : World) (K : PySem.W.Frag) (mg : Str → Option Value) (base : Heap) (CX : CXT) (f : Addr) (fd : FuncData) (ps : List Str) (sp : Sp) : Prop :=
  ∀ (s : Shared) (H : Hp) (args : Args) (us : List Value) (vs : List V) (Q : VK) (E : XK), Env0 P w K mg base callerA [] s H → BindsTo s fd args (ps.zip us) → Vals vs us → sp vs H Q E → codeAny (model P w) callerA (.call (.ref f) args) (CR CX [] P w H s Q E) s
theorem top_of {CX : CXT} {P : Program} {w : World} {K : PySem.W.Frag} {mg : Str → Option Value} {base : Heap} {k : Nat} {f : Addr} {fd : FuncData} {x qual : Str} {params : Arguments} {body : List Stmt} {scope : Scope} {N ps : List Str} {sp : Sp}
    (F : FunD K x qual params body scope [] [] f fd) (S : FnScope N ps scope) (room : Room (k + 1) callerA) (len : ∀ vs H Q E, sp vs H Q E → vs.length = ps.length)
    (hb : ∀ (cdv : Value) (s : Shared) (H : Hp) (vs : List V) (Q : VK) (E : XK), Room k (callerA.deeper (envOfC qual scope s.heap.objs.size f cdv)) → sp vs H Q E →
      ∃ t, PSs (cxOf CX P w K mg base N qual scope f cdv callerA [] s H E) body t ∧ t { nx := fun _ H' => Q .non H', rt := Q } (start N vs) H) : TopOk P w K mg base CX f fd ps sp := by
  intro s H args us vs Q E e0 bi rv hq
  obtain ⟨oc, od, dV, kV, doc, pm, an, cdv, ct, osl, rfl, lk, hcd, _, _⟩ := F.ex
  have hn := len _ _ _ _ hq
  have ki : K.In s.heap := e0.mod.kin.keeps fun b o e => (e0.bs b o e).1
  have nl : s.heap.NoLimit := e0.mod.nolimit.keeps fun b o e => (e0.bs b o e).1
  refine codeAny_call_function room.depth (ki _ _ lk) rfl S.co S.gen rfl (PySem.W.codeRec_of ki hcd) (bi _ _ _ _ ?_)
  refine wpAny_newFunctionEnv_cells S.kind (fun q hq' => ?_) fun env he s1 e1 => ?_
  · obtain ⟨n, v⟩ := q
    rcases S.par n (List.of_mem_zip hq').1 with c | c
    · exact .inl c
    · exact .inr ⟨c, PySem.W.cellsFrom_some _ _ _ (.inl c)⟩
  subst he
  refine ⟨nl.keeps e1.toInCall.keep, codeAny_func ?_⟩
  obtain ⟨t, pt, pq⟩ := hb cdv s H vs Q E (room.deeper _) hq
  have J := inv_start (CX := CX) (E := E) S room.hd e0 hn rv e1
  refine wpAny_mono (pt.run [] s1 (start N vs) H _ J pq) (fun fl s2 z => ?_) fun _ _ z => z
  cases fl with
  | ret u => obtain ⟨v, σ2, H2, J2, r2, q2⟩ := z; exact ⟨v, H2, J2.os, J2.bare, J2.base, J2.hok, r2, q2⟩
  | next => obtain ⟨σ2, H2, J2, q2⟩ := z; exact ⟨V.non, H2, J2.os, J2.bare, J2.base, J2.hok, rfl, q2⟩
  | brk => obtain ⟨_, _, _, q2⟩ := z; exact q2.elim
  | cont => obtain ⟨_, _, _, q2⟩ := z; exact q2.elim
/-- the script's data alone may be known -/
theorem top_call {P : Program} {w : World} {K : PySem.W.Frag} {mg mb : Str → Option Value} {CX : CXT} {fa a : Addr} {fd : FuncData} {x : Str} {sp : Sp} {s1 : Shared} {vs : List Value} {ns : List Int}
    (ki : K.In s1.heap) (gl : s1.heap.Ns mainGlobals mg) (bl : s1.heap.Ns builtinsNs mb) (bb : ∀ z : Str, z ≠ "__name__" → mb z = bootBuiltins z) (nl : s1.heap.NoLimit) (ng : s1.gens = #[])
    (at_ : s1.heap.get? a = some { cls := .type "list", data := .seq vs.toArray }) (iv : IntsAre vs ns) (le : ns.length ≤ sizeLine)
    (F : ∀ base : Heap, K.In base → base.Ns mainGlobals mg → TopOk P w K mg base CX fa fd [x] sp) (bind : ∀ (s : Shared) (u : Value), BindsTo s fd ⟨[u], []⟩ [(x, u)])
    (pr : ∀ H : Hp, Only H → SqL K H a (ns.map V.int) → sp [.ref a] H (fun v _ => v = .bl true) fun _ _ _ => False) (noCX : ∀ H e s', CX [] H s1 (fun _ _ _ => False) e s' → False) :
    codeAny (model P w) callerA (.call (.ref fa) ⟨[.ref a], []⟩) (fun r s' => r = .ok (.ret (.bool true)) ∧ OldK s1.heap s'.heap ∧ s'.os = s1.os ∧ AllBare s'.gens) s1 := by
  have rvs := vals_ints iv
  have nvs := iv.length
  have go : ∀ H : Hp, Only H → SqL K H a (ns.map V.int) → HOk P w H s1.heap → (∀ b, H b ≠ none → b = a ∧ K.lookup a = none) →
      codeAny (model P w) callerA (.call (.ref fa) ⟨[.ref a], []⟩) (fun r s' => r = .ok (.ret (.bool true)) ∧ OldK s1.heap s'.heap ∧ s'.os = s1.os ∧ AllBare s'.gens) s1 := by
    intro H on sq hok own
    have base_of : ∀ {b : Addr} {o : Obj}, s1.heap.get? b = some o → (∀ q, H b = some q → False) → (hidT s1.heap H).get? b = some o := fun e n => hidT_get e (by
      cases q : H _ with
      | none => rfl
      | some u => exact (n u q).elim)
    have dict0 : ∀ {b : Addr} {o : Obj} {es : Array DictEntry} {ep : Nat}, s1.heap.get? b = some o → o.data = .dict es ep → ∀ q, H b = some q → False := fun {b o es ep} e dd q hq => by
      obtain ⟨rfl, _⟩ := own b (by rw [hq]; nofun)
      rw [at_] at e; cases e
      have dd : Data.seq vs.toArray _ = Data.dict es ep := dd
      cases dd
    have ns0 : ∀ {b : Addr} {g : Str → Option Value}, s1.heap.Ns b g → (hidT s1.heap H).Ns b g := fun {b g} ⟨o, es, ep, e, dd, r⟩ => ⟨o, es, ep, base_of e (dict0 e dd), dd, r⟩
    have ki0 : K.In (hidT s1.heap H) := fun b o e => base_of (ki b o e) fun q hq => by
      obtain ⟨rfl, n⟩ := own b (by rw [hq]; nofun)
      rw [n] at e; cases e
    obtain ⟨mc, l1, l2⟩ := nl
    have e0 : Env0 P w K mg (hidT s1.heap H) callerA [] s1 H := ⟨rfl, ⟨ki0, ns0 gl, ⟨mb, ns0 bl, bb⟩, ⟨mc, ns0 l1, l2⟩⟩, fun b o e => of_hidT e, Nat.le_of_eq (hidT_size _ _), trivial, (fun b z => (nomatch z)), hok, .of_eq ng⟩
    refine codeAny_mono (F _ ki0 (ns0 gl) s1 H ⟨[.ref a], []⟩ [.ref a] [.ref a] _ _ e0 (bind s1 (.ref a)) (.cons rfl .nil) (pr H on sq)) fun r s' z => ?_
    match r, z with
    | .error e, z => exact (noCX H e s' z).elim
    | .ok .next, z => exact False.elim z
    | .ok .brk, z => exact False.elim z
    | .ok .cont, z => exact False.elim z
    | .ok (.ret u), z =>
      obtain ⟨v, H', os, bare, un, hok', r', q⟩ := z
      have q : v = .bl true := q
      subst q
      have r' : u = Value.bool true := r'
      subst r'
      refine ⟨rfl, OldK.of_keep fun b o e => ?_, os, bare⟩
      cases q : H b with
      | none => exact un.keep b o e q (fun z => nomatch z) (fun z => nomatch z)
      | some u =>
        rcases on b with z | ⟨ob, xs, z⟩
        · rw [q] at z; cases z
        · have e1 := (hok b _ z).1
          rw [e] at e1; cases e1
          exact (hok' b _ (un.frzs b _ _ z)).1
  cases hk : K.lookup a with
  | some o =>
    have e := ki a o hk
    rw [at_] at e
    cases e
    exact go (fun _ => none) (fun _ => .inl rfl) (.inr ⟨_, vs.toArray, _, hk, rfl, rfl, rfl, by rw [List.size_toArray, nvs]; exact le, by simpa using rvs⟩) (fun b u z => nomatch (show (none : Option HO) = some u from z)) (fun b z => absurd rfl z)
  | none =>
    have at1 : (fun b => if b = a then some (HO.frz { cls := .type "list", data := .seq vs.toArray } (.lst (ns.map V.int))) else none : Hp) a = some (.frz { cls := .type "list", data := .seq vs.toArray } (.lst (ns.map V.int))) := if_pos rfl
    refine go (fun b => if b = a then some (.frz { cls := .type "list", data := .seq vs.toArray } (.lst (ns.map V.int))) else none) (fun b => ?_) (.inl (.inr ⟨_, at1⟩)) (fun b u z => ?_) (fun b z => ?_)
    · by_cases c : b = a
      · exact .inr ⟨_, _, if_pos c⟩
      · exact .inl (if_neg c)
    · by_cases c : b = a
      · subst c
        have z := at1.symm.trans z
        cases z
        exact ⟨at_, by rw [List.length_map]; exact le, vs, _, rvs, at_⟩
      · cases (if_neg c).symm.trans z
    · by_cases c : b = a
      · exact ⟨c, hk⟩
      · exact absurd (if_neg c) z
theorem top_walk {l : PySem.W.OpenLaw} {n : Nat} {q : Program} {loose : List Str} {XP : (Str → Option Value) → Heap → Prop} {YP : World → Heap → Prop} {d : DefRec} {CX : World → CXT} {x : Str}
    (hn : l.most = some n) (hn2 : n ≤ sizeLine) (hdf : d.params.defaults = [])
    (F : ∀ (w : World) (mg : Str → Option Value) (fa : Addr) (h : Heap), YP w h → h.Ns mainGlobals mg → mg d.name = some (.ref fa) →
      ∃ (K : PySem.W.Frag) (fd : FuncData) (sp : Sp), K.In h ∧ (∀ (s : Shared) (u : Value), BindsTo s fd ⟨[u], []⟩ [(x, u)]) ∧
        (∀ (H : Hp) (a : Addr) (ns : List Int), ns.length ≤ n → Only H → SqL K H a (ns.map V.int) → sp [.ref a] H (fun v _ => v = .bl true) fun _ _ _ => False) ∧ ∀ base : Heap, K.In base → base.Ns mainGlobals mg → TopOk l.prog w K mg base (CX w) fa fd [x] sp)
    (noCX : ∀ (w : World) (H : Hp) (s : Shared) (e : Value) (s' : Shared), CX w [] H s (fun _ _ _ => False) e s' → False) :
    PySem.W.WalkO q loose XP YP l.row.toRowW d [] (fun f vs => PySem.call f vs) := by
  refine Att.attach_call hn hdf fun w s0 s1 mg mb fa o pm cd doc a vs ns G Y ho hd hcd hmg ob is le ng => ?_
  obtain ⟨K, fd, sp, ki, bi, hs, hF⟩ := F w mg fa _ Y G.T.g hmg
  exact top_call ki G.T.g G.T.b G.T.builtins G.T.nolimit ng ob is (Nat.le_trans le hn2) hF bi (fun H on sq => hs H a ns le on sq) fun H e s' z => noCX w H s1 e s' z
end G

set_option maxHeartbeats 4000000
/-! W: an exception caught, told what it is. -/
namespace G
open PySem PySem.Spec PySem.Calls PyProof.Rows L2
/-! ### isinstance of a pinned exception, with a dict or without -/
section
variable {prog : Program} {w : World} {A : Around} {E : Value → Shared → Prop} {s : Shared} {K : PySem.W.Frag} {x D : Addr} {ox : Obj}
theorem findD {C : Addr} {od : Option Obj} {nm : Str} {a g : Value} (hc : (PySem.W.clsIn K C).isSome = true) (ha : PySem.W.findIn K (.ref C) nm = some (some a)) (hg : PySem.W.specialIn K a "__get__" = some (some g)) (ht : PySem.W.takesIn K a = some true) : PySem.W.findObj K C od nm = some (.bind g a) := by
  obtain ⟨cd, e⟩ := Option.isSome_iff_exists.mp hc
  unfold PySem.W.findObj
  rw [e, Option.bind_some, ha, Option.bind_some]
  simp [hg, ht]
theorem kin_any {Q : Option Value → Shared → Prop} {od : Option Obj} (C : ExcC K D) (X : K.In s.heap) (I : PySem.W.InstAt s.heap x ox D od) (h : Q (some (.ref D)) { s with toks := s.toks + 1 }) : wpAny (model prog w) A (getAttr? (.ref x) "__class__") Q E s := by
  have hf : PySem.W.findObj K D od "__class__" = some (.bind (.builtin "getset_descriptor.__get__") (.builtin "object.__class__")) := findD (by obtain ⟨cd, e, _⟩ := PySem.W.any_some C.hd; rw [e]; rfl) C.ha C.hn C.ht
  obtain ⟨hp, g, d, t, os⟩ := s
  have k0 := I.type (M := model prog w)
  have k1 := PySem.W.looks_findIn (M := model prog w) X C.hg
  have k2 := PySem.W.looks_findIn (M := model prog w) X C.hk
  have k3 := PySem.W.looks_find (M := model prog w) X I hf
  have sb : PySem.W.Looks (model prog w) hp (isInstance (.ref x) (.type "BaseException")) true := k0.andThen (PySem.W.looks_subIn X C.hs)
  have z0 : (false && onTheHeap (Value.builtin "BaseException.__getattribute__")) = false := rfl
  have z2 : (Value.builtin "BaseException.__getattribute__" == Value.builtin "object.__getattribute__") = false := by decide +kernel
  have z1 : (onTheHeap (Value.ref D) && Value.builtin "BaseException.__getattribute__" == Value.builtin "object.__getattribute__") = false := by rw [z2]; rfl
  unfold getAttr? getAttrBy? getAttrBy
  refine wpAny_bind (wpAny_mkText (wpAny_bind (wpAny_attempt (wpAny_holding (wpAny_bind (k0.at (wpAny_bind (k1.at ?_))))))))
  show wpAny _ _ (if (onTheHeap (Value.ref D) && Value.builtin "BaseException.__getattribute__" == Value.builtin "object.__getattribute__") = true then _ else _) _ _ _
  rw [z1, if_neg Bool.false_ne_true]
  unfold getAttrByItsOwn hookBefore
  refine wpAny_bind ?_
  rw [if_pos (show onTheHeap (Value.ref D) = true from rfl)]
  refine k2.at (wpAny_bind (wpAny_attempt (wpAny_holding ?_)))
  unfold callGetattribute
  rw [z0, if_neg Bool.false_ne_true]
  unfold boundAndCalled
  rw [PySem.F.excAttr_ValueError.ga.bind (.ref x)]
  refine wpAny_bind (wpAny_pure ?_)
  show wpAny _ _ (call (.builtin "BaseException.__getattribute__") [.ref x, .str "__class__" t]) _ _ _
  refine wpAny_call (codeAny_call_builtin PySem.F.excAttr_ValueError.ga.plain PySem.F.entry_bexc_ga ?_)
  refine @PySem.W.check_slot (model prog w) _ _ ⟨hp, g, d, t + 1, os⟩ "BaseException.__getattribute__" "BaseException" "__getattribute__" (.ref x) [.str "__class__" t] [] _ (by decide +kernel) (by decide +kernel) sb (PySem.F.args_bexc_ga (.ref x) (.str "__class__" t)) ?_
  unfold Builtin.«object.__getattribute__»
  refine wpAny_bind (wpAny_of_eq (a := ((Value.ref x : Value), [Value.str "__class__" t])) (by first | rfl | (simp only [slotArgs]; rfl)) ?_)
  refine wpAny_bind (wpAny_pure (wpAny_bind (k0.at (wpAny_bind (k3.at ?_)))))
  show wpAny _ _ (holding [Value.builtin "object.__class__"] (call (.builtin "getset_descriptor.__get__") [.builtin "object.__class__", .ref x, .ref D]) >>= ret) _ _ _
  refine wpAny_bind (wpAny_holding (wpAny_call (PySem.W.class_get (s := ⟨hp, g, d, t + 1, os⟩) (ox := ox) (od := od) X I C.hm (wpAny_pure ?_))))
  show wpAny _ _ (handedOut (.ref D)) _ _ _
  rw [PySem.W.handedOut_of (v := .ref D) rfl]
  first
    | exact wpAny_pure (wpAny_pure h)
    | exact wpAny_pure h
    | exact wpAny_pure (wpAny_bind (wpAny_pure (wpAny_pure h)))
theorem kitX_any {od : Option Obj} (C : ExcC K D) : PySem.W.KitX K (.ref x) (.ref D) (fun h => PySem.W.InstAt h x ox D od) where
  ty := fun _ _ _ I => I.type
  it := fun _ _ X _ => by
    obtain ⟨cd, hc, _⟩ := PySem.W.any_some C.hd
    unfold PySem.W.clsIn at hc
    split at hc
    · rename_i ho
      intro A' Q' E' s' k q
      unfold isType loadHead
      exact wpAny_bind (wpAny_loadPart (k _ _ (X _ _ ho)) (wpAny_pure q))
    · cases hc
  ne := fun h tp dd its n sl X htp => by
    obtain ⟨cd, hc, _⟩ := PySem.W.any_some C.hd
    cases q : ((Value.ref D : Value) == .ref tp) with
    | false => rfl
    | true =>
      have e : D = tp := Value.ref.inj (beq_iff_eq.mp q)
      subst e
      unfold PySem.W.clsIn at hc
      split at hc
      · rename_i ho
        cases (X _ _ ho).symm.trans htp
      · cases hc
  ca := fun X I k => kin_any C X I k
end
/-- the exception at a, of the class D, is pinned -/
def PinX (X : Cx) (a D : Addr) (d : Option Addr) : Prop := ∃ oe : Obj, (a, oe) ∈ X.pn ∧ oe.cls = .ref D ∧ oe.dict = d ∧ ∃ vs, oe.data = .fields vs
/-- its dict is known -/
def DicX (H : Hp) : Option Addr → Prop
  | none => True
  | some dx => ∃ fs, H dx = some (.xd fs)
def rIsP (K : PySem.W.Frag) (D a : Addr) (d : Option Addr) : List V → Hp → VK → Prop := fun xs H Q => DicX H d ∧ ∃ (c : V) (cv : Value) (b : Bool), xs = [.ref a, c] ∧ (∀ u, RelV c u → u = cv) ∧ PySem.W.kitOne K (.ref D) cv = some b ∧ Q (.bl b) H
theorem call_isP {X : Cx} {a D : Addr} {d : Option Addr} (C : ExcC X.K D) (P : PinX X a D d) : CallR X (.builtin "isinstance") (rIsP X.K D a d) := by
  intro pins s σ H xs us Q I r h
  obtain ⟨hd, c, cv, b, rfl, hcv, e, q⟩ := h
  obtain ⟨oe, hm, h1, h2, vs, hv⟩ := P
  cases r with
  | cons rx rr =>
    cases rr with
    | cons rt rr =>
      cases rr
      cases rx
      cases hcv _ rt
      have hget := (I.pin (a, oe) (List.mem_append.mpr (.inl hm))).1
      have go : ∀ od : Option Obj, PySem.W.InstAt s.heap a oe D od → wpAny (model X.prog X.w) X.A (call (.builtin "isinstance") [.ref a, cv]) (EP X pins σ Q) X.xe s := fun od J =>
        PySem.W.kia_one (kitX_any (od := od) C) I.kIn J e (fun z => nomatch z) fun tk => ⟨.bl b, H, I.kept (t' := tk) fun _ _ z => z, rfl, q⟩
      have hno : PySem.W.notCls oe = true := by unfold PySem.W.notCls; rw [hv]
      cases d with
      | none => exact go none ⟨hget, h1, hno, by rw [h2]; trivial⟩
      | some dx =>
        obtain ⟨fs, hf⟩ := hd
        obtain ⟨mA, hns, _⟩ := I.hok dx _ hf
        obtain ⟨o, es, ep, ho, _⟩ := hns
        exact go (some o) ⟨hget, h1, hno, by rw [h2]; exact ho⟩
/-! ### a def of one caught exception, called while it is handled -/
def FnP (P : Program) (w : World) (K : PySem.W.Frag) (mg : Str → Option Value) (base : Heap) (k : Nat) (f : Addr) (fd : FuncData) (y : Str) (sp : Addr → Addr → Option Addr → Hp → VK → Prop) : Prop :=
  ∀ (A : Around) (outer : List Env) (s : Shared) (H : Hp) (args : Args) (a D : Addr) (d : Option Addr) (oe : Obj) (Q : VK), L2H.RoomH k A → L2H.PinOk outer H s (a, oe) → oe.cls = .ref D → oe.dict = d → (∃ vs, oe.data = .fields vs) → Env0 P w K mg base A outer s H → BindsTo s fd args [(y, .ref a)] → sp a D d H Q →
    codeAny (model P w) A (.call (.ref f) args) (CR (L2.CX P w) outer P w H s Q (fun _ _ _ => False)) s
theorem fnP_of {P : Program} {w : World} {K : PySem.W.Frag} {mg : Str → Option Value} {base : Heap} {k : Nat} {f : Addr} {fd : FuncData} {x qual y : Str} {params : Arguments} {body : List Stmt} {scope : Scope} {N : List Str} {sp : Addr → Addr → Option Addr → Hp → VK → Prop}
    (F : FunD K x qual params body scope [] [] f fd) (S : FnScope N [y] scope)
    (hb : ∀ (cdv : Value) (A : Around) (outer : List Env) (s : Shared) (H : Hp) (a D : Addr) (d : Option Addr) (oe : Obj) (Q : VK), L2H.RoomH k (A.deeper (envOfC qual scope s.heap.objs.size f cdv)) → PinX (L2H.cxH (L2.CX P w) P w K mg base N qual scope f cdv A outer s H (fun _ _ _ => False) (a, oe)) a D d → sp a D d H Q →
      ∃ t, PSs (L2H.cxH (L2.CX P w) P w K mg base N qual scope f cdv A outer s H (fun _ _ _ => False) (a, oe)) body t ∧ t { nx := fun _ H' => Q .non H', rt := Q } (start N [.ref a]) H) : FnP P w K mg base (k + 1) f fd y sp := by
  intro A outer s H args a D d oe Q room pin h1 h2 h3 e0 bi hq
  obtain ⟨oc, od, dV, kV, doc, pm, an, cdv, ct, osl, rfl, lk, hcd, _, _⟩ := F.ex
  have ki : K.In s.heap := e0.mod.kin.keeps fun b o e => (e0.bs b o e).1
  have nl : s.heap.NoLimit := e0.mod.nolimit.keeps fun b o e => (e0.bs b o e).1
  refine codeAny_call_function room.depth (ki _ _ lk) rfl S.co S.gen rfl (PySem.W.codeRec_of ki hcd) (bi _ _ _ _ ?_)
  refine wpAny_newFunctionEnv_cells S.kind (fun q hq' => ?_) fun env he s1 e1 => ?_
  · obtain ⟨n, v⟩ := q
    rcases S.par n (by simp only [List.mem_singleton, Prod.mk.injEq] at hq'; rw [hq'.1]; simp) with c | c
    · exact .inl c
    · exact .inr ⟨c, PySem.W.cellsFrom_some _ _ _ (.inl c)⟩
  subst he
  refine ⟨nl.keeps e1.toInCall.keep, codeAny_func ?_⟩
  obtain ⟨t, pt, pq⟩ := hb cdv A outer s H a D d oe Q (room.deeper _) ⟨oe, List.mem_singleton.mpr rfl, h1, h2, h3⟩ hq
  have J := L2H.inv_startH (CX := L2.CX P w) (E := fun _ _ _ => False) (ps := [y]) (us := [.ref a]) (vs := [.ref a]) S pin e0 rfl (.cons rfl .nil) e1
  refine wpAny_mono (pt.run [] s1 (start N [.ref a]) H _ J pq) (fun fl s2 z => ?_) fun _ _ z => z
  cases fl with
  | ret u => obtain ⟨v, σ2, H2, J2, r2, q2⟩ := z; exact ⟨v, H2, J2.os, J2.bare, J2.base, J2.hok, r2, q2⟩
  | next => obtain ⟨σ2, H2, J2, q2⟩ := z; exact ⟨V.non, H2, J2.os, J2.bare, J2.base, J2.hok, rfl, q2⟩
  | brk => obtain ⟨_, _, _, q2⟩ := z; exact q2.elim
  | cont => obtain ⟨_, _, _, q2⟩ := z; exact q2.elim
/-- word(e), e the caught exception of the class cls -/
def tWord (a : Addr) (cls : Value) (d : Option Addr) (sp : Addr → Addr → Option Addr → Hp → VK → Prop) (te : TE) : TE := fun σ H Q => te σ H fun v H1 => v = .ref a ∧ ∃ D, cls = .ref D ∧ sp a D d H1 Q
theorem pe_callP {X : Cx} {k : Nat} {f : Addr} {fd : FuncData} {x y : Str} {q pos : Pos} {e : Expr} {te : TE} {a : Addr} {oe : Obj} {cls : Value} {d : Option Addr} {sp : Addr → Addr → Option Addr → Hp → VK → Prop} (F : FnP X.prog X.w X.K X.mg X.base k f fd y sp) (hr : L2H.RoomH k X.A)
    (hp : (a, oe) ∈ X.pn) (hz : Zc cls d oe) (hf : ∃ vs, oe.data = .fields vs) (hg : Gl X x) (hm : X.mg x = some (.ref f)) (hk : PySem.W.keepIn X.K (.ref f) = true) (hb : Binds X.K fd [y] [])
    (ha : PE X e te) (hdb : (x == ("__debug__" : Str)) = false := by decide) (he : starEach [e] X.env = (false, eval e X.env) :: starEach [] X.env := by rfl) (hpl : (backTo pos (starEach [] X.env)).any (·.1) = false := by rfl) :
    PE X (.Call (.Name x q) [e] [] pos) (tWord a cls d sp te) := by
  refine ⟨fun pins s σ H Q I h => ?_⟩
  refine wpAny_Call_Name_kw (ld_glob I hg hm ?_ hdb)
  refine PySem.W.callWith_K (h₀ := X.base) I.ok.mod.kin hk (thn ((pa_cons ha pa_nil (hs := he)).run pos pins s σ H (fun vs H1 => match vs with
    | [v] => v = .ref a ∧ ∃ D, cls = .ref D ∧ sp a D d H1 Q
    | _ => False) I h) fun us s1 ⟨vs, H1, I1, r, q⟩ => ⟨I1.kIn, ?_⟩) he hpl
  match vs, r, q with
  | [v], r, q0 =>
    have q0 : v = .ref a ∧ ∃ D, cls = .ref D ∧ sp a D d H1 Q := q0
    obtain ⟨rfl, D, rfl, q9⟩ := q0
    have eu := Vals.ref1 r
    subst eu
    have b := hb s1 [.ref a] I1.kIn rfl
    have P1 := I1.pin (a, oe) (List.mem_append_left _ hp)
    have pin : L2H.PinOk X.stack H1 s1 (a, oe) := ⟨P1.1, P1.2.1, fun z => (List.mem_cons.mp (I1.stkSub a z)).elim P1.2.2.1 P1.2.2.2.1, P1.2.2.2.2⟩
    refine wpAny_call (codeAny_mono (F X.A X.stack s1 H1 ⟨[.ref a], []⟩ a D d oe Q hr pin hz.1 hz.2 hf I1.env0 b q9) fun r s2 z => ?_)
    match r, z with
    | .error e, z =>
      obtain ⟨_, _, _, _, _, _, _, _, _, _, _, _, z⟩ := z
      exact z.elim
    | .ok (.ret u), z => exact I1.after z
    | .ok .next, z => exact False.elim z
    | .ok .brk, z => exact False.elim z
    | .ok .cont, z => exact False.elim z
/-! ### try .. except C as e -/
/-- the dict of a caught exception stays from now on -/
theorem Go.xd {K : PySem.W.Frag} {H I H' I' : Hp} {m m' : Sto} {dx : Addr} {v : V} (g : Go K H I m H' I' m') (h : H' dx = some (.xd [("line", v)])) : ∃ J, Go K H I m H' J m' ∧ J dx = some (.xd [("line", v)]) ∧ Ex I' J := by
  cases e : I' dx with
  | some u =>
    have := g.sm.ex dx u e
    rw [h] at this
    cases this
    exact ⟨I', g, e, Evl.Ex.refl _⟩
  | none =>
    have eJ : Ex I' (upd I' dx (.xd [("line", v)])) := Evl.Ex.new e
    have hm : m' dx = none := by
      cases q : m' dx with
      | none => rfl
      | some c =>
        obtain ⟨_, o, ho, hc⟩ := g.sm.st dx c q
        rw [h] at ho
        cases ho
        cases c with
        | lst ds => obtain ⟨_, z, _⟩ := hc; cases z
        | ins C fs => obtain ⟨_, _, z, _⟩ := hc; cases z
        | dct kvs => obtain ⟨_, z, _⟩ := hc; cases z
        | dcl kvs => obtain ⟨_, _, z, _⟩ := hc; cases z
        | tbl q => obtain ⟨_, z, _⟩ := hc; cases z
    refine ⟨_, ⟨g.ei.trans eJ, g.fr, g.dom, fun p o q => ?_, g.mn, fun p o q => ?_, fun a c q => ?_, fun p ps q => ?_⟩, upd_same, eJ⟩
    · by_cases z : p = dx
      · subst z
        rw [upd_same] at q
        cases q
        exact .inr (.inr (.inr (.inl ⟨_, rfl⟩)))
      · rw [upd_ne z] at q
        exact g.gn p o q
    · by_cases z : p = dx
      · subst z; rw [upd_same] at q; rw [← q]; exact h
      · rw [upd_ne z] at q; exact g.sm.ex p o q
    · obtain ⟨a1, u, a2, a3⟩ := g.sm.st a c q
      have ne : a ≠ dx := fun z => by rw [z, hm] at q; cases q
      exact ⟨by rw [upd_ne ne]; exact a1, u, a2, a3.ex eJ⟩
    · by_cases z : p = dx
      · subst z; rw [upd_same] at q; cases q
      · rw [upd_ne z] at q; exact g.sm.nt p ps q
def tsG (n : Nat) (ts : Addr → Value → Option Addr → TS) : Addr → Value → Option Addr → TS := fun a cls d D σ H => σ.length = n → ts a cls d D σ H
theorem PSs.guard {X : Cx} {b : List Stmt} {t : TS} {n : Nat} (h : PSs X b t) (hn : X.N.length = n) : PSs X b (fun D σ H => σ.length = n → t D σ H) := ⟨fun pins s σ H D I z => h.run pins s σ H D I (z (by rw [I.len]; exact hn))⟩
def blankN (n : Nat) : Sd := List.replicate n none
theorem blank_sl {K : PySem.W.Frag} {I : Hp} {σ : L2.St} {n j : Nat} {a : Addr} {d : Da} (hn : (σ.set j (some (.ref a))).length = n) (p : Dt K I (.ref a) d) : SL K I (σ.set j (some (.ref a))) ((blankN n).set j (some d)) := by
  refine ⟨by rw [List.length_set, hn]; unfold blankN; rw [List.length_replicate], fun i d' e => ?_⟩
  by_cases z : i = j
  · subst z
    have hi := (List.getElem?_eq_some_iff.mp e).1
    rw [List.length_set] at hi
    rw [List.getElem?_set_self hi] at e
    cases e
    have hi2 : i < σ.length := by
      unfold blankN at hi
      rw [List.length_replicate] at hi
      rw [List.length_set] at hn
      omega
    exact ⟨.ref a, List.getElem?_set_self hi2, p⟩
  · rw [List.getElem?_set_ne (Ne.symm z)] at e
    unfold blankN at e
    rw [List.getElem?_replicate] at e
    split at e <;> cases e
section
variable {K : PySem.W.Frag}
/-- the suite, behind an exception x that is caught -/
def sufW (j n : Nat) (suite : Addr → Value → Option Addr → SSt K) (x : Xn) (a : Addr) (m : Sto) (N : Nk) (R : Rk) (B C : Nk) : Prop := match x with
  | (c, none) => (suite a (.ref (He.ga K c)) none).w ((blankN n).set j (some (.exc a (He.ga K c)))) m (fun δ' m2 => N (δ'.set j none) m2) R noX (fun δ' m2 => B (δ'.set j none) m2) (fun δ' m2 => C (δ'.set j none) m2)
  | (c, some ld) => ∀ dx, (suite a (.ref (He.ga K c)) (some dx)).w ((blankN n).set j (some (.exl a (He.ga K c) dx ld))) m (fun δ' m2 => N (δ'.set j none) m2) R noX (fun δ' m2 => B (δ'.set j none) m2) (fun δ' m2 => C (δ'.set j none) m2)
theorem sufW_mono {j n : Nat} {suite : Addr → Value → Option Addr → SSt K} {x : Xn} {a : Addr} {m : Sto} {N N' : Nk} {R R' : Rk} {B B' C C' : Nk} (hn : ∀ d m', N d m' → N' d m') (hr : ∀ d m', R d m' → R' d m') (hb : ∀ d m', B d m' → B' d m') (hc : ∀ d m', C d m' → C' d m') (h : sufW j n suite x a m N R B C) : sufW j n suite x a m N' R' B' C' := by
  obtain ⟨c, o⟩ := x
  cases o with
  | none => exact (suite a _ none).mono (fun _ _ => hn _ _) hr (fun _ _ z => z) (fun _ _ => hb _ _) (fun _ _ => hc _ _) h
  | some ld => exact fun dx => (suite a _ (some dx)).mono (fun _ _ => hn _ _) hr (fun _ _ z => z) (fun _ _ => hb _ _) (fun _ _ => hc _ _) (h dx)
theorem SL.unset {I : Hp} {σ : L2.St} {δ : Sd} (l : SL K I σ δ) (j : Nat) : SL K I (σ.set j none) (δ.set j none) := by
  refine ⟨by rw [List.length_set, List.length_set]; exact l.len, fun i d e => ?_⟩
  by_cases z : i = j
  · subst z
    have hi := (List.getElem?_eq_some_iff.mp e).1
    rw [List.length_set] at hi
    rw [List.getElem?_set_self hi] at e
    cases e
  · rw [List.getElem?_set_ne (Ne.symm z)] at e
    obtain ⟨v, h1, h2⟩ := l.da i d e
    exact ⟨v, by rw [List.getElem?_set_ne (Ne.symm z)]; exact h1, h2⟩
def sTryAs (j n : Nat) (cE : Addr) (cat : Str → Option Bool) (hcat : ∀ c b, cat c = some b → PySem.W.exmOne K (.ref (He.ga K c)) (.ref cE) = some b) (body : SSt K) (suite : Addr → Value → Option Addr → SSt K) : SSt K where
  t := fun E D σ H => body.t (fun cls d H' => ∀ σ', wAs K (.ref cE) j (tsG n fun a cls d => (suite a cls d).t E0) (fun cls d _ H => E cls d H) D cls d σ' H') D σ H
  w := fun δ m N R X B C => body.w δ m N R (fun x m' => optK (cat x.1) fun b => iteB b (∀ a, sufW j n suite x a m' N R B C) (X x m')) B C
  ok := fun {E δ m N R X B C} h σ H I D s l kn kr kb kc kx => by
    refine body.ok h σ H I D s l kn kr kb kc fun x H' I' m' g f => ?_
    obtain ⟨b, eb, f⟩ := optK_ok f
    have f := iteB_if f
    have hc := hcat _ _ eb
    have run : ∀ (d : Option Addr) (da : Addr → Da) (J : Hp), Go K H I m H' J m' → (∀ a, Dt K J (.ref a) (da a)) → (b = true → ∀ a, (suite a (.ref (He.ga K x.1)) d).w ((blankN n).set j (some (da a))) m' (fun δ' m2 => N (δ'.set j none) m2) R noX (fun δ' m2 => B (δ'.set j none) m2) (fun δ' m2 => C (δ'.set j none) m2)) →
        (b = false → E (.ref (He.ga K x.1)) d H') → ∀ σ', wAs K (.ref cE) j (tsG n fun a cls d => (suite a cls d).t E0) (fun cls d _ H => E cls d H) D (.ref (He.ga K x.1)) d σ' H' := fun d da J gJ pd hy hno σ' => by
      refine ⟨b, hc, fun hb a ha hlen => ?_, hno⟩
      refine (suite a (.ref (He.ga K x.1)) d).ok (E := E0) (hy hb a) (σ'.set j (some (.ref a))) H' J _ gJ.sm (blank_sl hlen (pd a)) (fun σ2 H2 I2 δ2 m2 g2 l2 n2 => ?_) (fun v H2 I2 d2 m2 g2 p2 r2 => ?_) (fun σ2 H2 I2 δ2 m2 g2 l2 n2 => ?_) (fun σ2 H2 I2 δ2 m2 g2 l2 n2 => ?_) (fun _ _ _ _ _ z => z.elim)
      · exact kn _ H2 I2 _ m2 (gJ.trans g2) (SL.unset l2 j) n2
      · exact kr v H2 I2 d2 m2 (gJ.trans g2) p2 r2
      · exact kb _ H2 I2 _ m2 (gJ.trans g2) (SL.unset l2 j) n2
      · exact kc _ H2 I2 _ m2 (gJ.trans g2) (SL.unset l2 j) n2
    obtain ⟨c, o⟩ := x
    cases o with
    | none =>
      refine run none (fun a => .exc a (He.ga K c)) I' g (fun a => .exc a _) (fun hb a => ?_) (fun hb => ?_)
      · rw [if_pos hb] at f; exact f a
      · rw [if_neg (by rw [hb]; nofun)] at f; exact kx (c, none) H' I' m' g f
    | some ld =>
      intro dx v hd pv
      obtain ⟨J, gJ, hJ, eJ⟩ := Go.xd g hd
      refine run (some dx) (fun a => .exl a (He.ga K c) dx ld) J gJ (fun a => .exl hJ (pv.ex eJ)) (fun hb a => ?_) (fun hb => ?_)
      · rw [if_pos hb] at f; exact f a dx
      · rw [if_neg (by rw [hb]; nofun)] at f; exact kx (c, some ld) H' I' m' g f dx v hd pv
  mono := fun n r x b c h => body.mono n r (fun y m' h => optK_mono (fun b' h => iteB_mono (fun h a => sufW_mono n r b c (h a)) (x _ _) h) h) b c h
/-! ### the classes of exceptions, by facts of the top -/
def excCB (K : PySem.W.Frag) (D : Addr) : Bool := He.eqO (PySem.W.findIn K (.ref D) "__getattribute__") (some (some (.builtin "BaseException.__getattribute__"))) && (He.eqO (PySem.W.findIn K (.ref D) "__getattr__") (some none) &&
  (decide (PySem.W.subIn K (.ref D) (.type "BaseException") = some true) && (decide (PySem.W.hasDictIn K D = true) && (He.eqO (PySem.W.findIn K (.ref D) "__class__") (some (some (.builtin "object.__class__"))) &&
  (He.eqO (PySem.W.specialIn K (.builtin "object.__class__") "__get__") (some (some (.builtin "getset_descriptor.__get__"))) && (decide (PySem.W.takesIn K (.builtin "object.__class__") = some true) && decide (PySem.W.mroIn K D (.type "object") = some true)))))))
theorem excCB_ok {D : Addr} (h : excCB K D = true) : ExcC K D := by
  obtain ⟨h1, h⟩ := He.ba h
  obtain ⟨h2, h⟩ := He.ba h
  obtain ⟨h3, h⟩ := He.ba h
  obtain ⟨h4, h⟩ := He.ba h
  obtain ⟨h5, h⟩ := He.ba h
  obtain ⟨h6, h⟩ := He.ba h
  obtain ⟨h7, h8⟩ := He.ba h
  exact ⟨He.eqO_ok h1, He.eqO_ok h2, of_decide_eq_true h3, of_decide_eq_true h4, He.eqO_ok h5, He.eqO_ok h6, of_decide_eq_true h7, of_decide_eq_true h8⟩
/-- each of cs is an exception that is caught by SelfError and told by the names of ws -/
def excsB (K : PySem.W.Frag) (cs ws : List Str) : Bool := cs.all fun c => excCB K (He.ga K c) && (decide (PySem.W.exmOne K (.ref (He.ga K c)) (.ref (He.ga K "SelfError")) = some true) && ws.all fun g => decide (PySem.W.kitOne K (.ref (He.ga K c)) (.ref (He.ga K g)) = some (c == g)))
theorem excsB_ok {cs ws : List Str} (h : excsB K cs ws = true) {c : Str} (hc : c ∈ cs) : ExcC K (He.ga K c) ∧ PySem.W.exmOne K (.ref (He.ga K c)) (.ref (He.ga K "SelfError")) = some true ∧ ∀ g ∈ ws, PySem.W.kitOne K (.ref (He.ga K c)) (.ref (He.ga K g)) = some (c == g) := by
  have h := List.all_eq_true.mp h c hc
  obtain ⟨h1, h⟩ := He.ba h
  obtain ⟨h2, h3⟩ := He.ba h
  exact ⟨excCB_ok h1, of_decide_eq_true h2, fun g hg => of_decide_eq_true (List.all_eq_true.mp h3 g hg)⟩
/-- isinstance(e, C), e the caught exception at a0 -/
def cIsP (a0 D0 : Addr) (d0 : Option Addr) : C1 K where
  r := rIsP K D0 a0 d0
  w := fun ds m Φ => match ds with
    | [d, .adr c] => (match d with
      | .exc a D => a = a0 ∧ D = D0 ∧ d0 = none
      | .exl a D dx _ => a = a0 ∧ D = D0 ∧ d0 = some dx
      | _ => False) ∧ ∃ b, PySem.W.kitOne K (.ref D0) (.ref c) = some b ∧ Φ (.bl b) m
    | _ => False
  ok := fun {ds m Φ} h vs H I s p Q kq => by
    match ds, h, p with
    | [d, .adr c], h, .cons pe (.cons pc .nil) =>
      obtain ⟨hd, b, e, k⟩ := h
      cases pc
      have fin : ∀ {d1 : Option Addr}, DicX H d1 → ∃ (c1 : V) (cv : Value) (b : Bool), [V.ref a0, V.ref c] = [V.ref a0, c1] ∧ (∀ u, RelV c1 u → u = cv) ∧ PySem.W.kitOne K (.ref D0) cv = some b ∧ Q (.bl b) H := fun _ => ⟨.ref c, .ref c, b, rfl, fun u hu => hu, e, kq _ H I _ m (Go.refl s) (.bl b) k⟩
      cases pe with
      | exc a D => obtain ⟨rfl, rfl, rfl⟩ := hd; exact ⟨trivial, fin (d1 := none) trivial⟩
      | exl hx r =>
        obtain ⟨rfl, rfl, rfl⟩ := hd
        have : DicX H (some _) := ⟨_, s.ex _ _ hx⟩
        exact ⟨this, fin this⟩
      | _ => exact hd.elim
  mono := fun {ds m Φ Φ'} f h => by
    match ds, h with
    | [d, .adr c], h => exact ⟨h.1, let ⟨b, e, k⟩ := h.2; ⟨b, e, f _ _ k⟩⟩
/-- what a def that tells a caught exception's class promises -/
def spWd (K : PySem.W.Frag) (wd : Str → Str) (ok : Str → Bool) (a D : Addr) (d : Option Addr) (H : Hp) (Q : VK) : Prop := ∃ c, D = He.ga K c ∧ ok c = true ∧ ∃ I m, SM K I m H ∧ (match d with
    | none => True
    | some dx => ∃ v ld, I dx = some (.xd [("line", v)]) ∧ Dt K I v ld) ∧ ∀ H' I', Go K H I m H' I' m → Q (.str (wd c)) H'
/-- word(e), e the caught exception -/
def sWord (wd : Str → Str) (ok : Str → Bool) (a0 : Addr) (cls : Value) (d0 : Option Addr) (e : SE K) : SE K where
  t := fun E => tWord a0 cls d0 (spWd K wd ok) (e.t E)
  w := fun δ m Φ Ψ => e.w δ m (fun d m1 => ∃ c, cls = .ref (He.ga K c) ∧ ok c = true ∧ (match d with
    | .exc a D => a = a0 ∧ D = He.ga K c ∧ d0 = none
    | .exl a D dx _ => a = a0 ∧ D = He.ga K c ∧ d0 = some dx
    | _ => False) ∧ Φ (.str (wd c)) m1) Ψ
  ok := fun {E δ m Φ Ψ} h σ H I s l Q kq kx => e.ok h σ H I s l _ (fun v H1 I1 d m1 g p f => by
    obtain ⟨c, hcls, hok, hd, f⟩ := f
    cases p with
    | exc a D =>
      obtain ⟨rfl, rfl, rfl⟩ := hd
      exact ⟨rfl, _, hcls, c, rfl, hok, I1, m1, g.sm, trivial, fun H' I' g2 => kq _ H' I' _ m1 (g.trans g2) (.str _) f⟩
    | exl hx r =>
      obtain ⟨rfl, rfl, rfl⟩ := hd
      exact ⟨rfl, _, hcls, c, rfl, hok, I1, m1, g.sm, ⟨_, _, hx, r⟩, fun H' I' g2 => kq _ H' I' _ m1 (g.trans g2) (.str _) f⟩
    | _ => exact hd.elim) kx
  mono := fun {δ m Φ Φ' Ψ Ψ'} f x h => e.mono (fun d m1 ⟨c, h1, h2, h3, h4⟩ => ⟨c, h1, h2, h3, f _ _ h4⟩) x h
structure FnPAt (P : Program) (w : World) (K : PySem.W.Frag) (mg : Str → Option Value) (base : Heap) (k : Nat) (f : Addr) (y : Str) (sp : Addr → Addr → Option Addr → Hp → VK → Prop) : Prop where
  ok : FnP P w K mg base k f (fdK K f) y sp
  bd : Binds K (fdK K f) [y] []
  kp : PySem.W.keepIn K (.ref f) = true
/-- the data of the caught exception -/
def ExD (K : PySem.W.Frag) (I : Hp) (a D : Addr) (d : Option Addr) (da : Da) : Prop := Dt K I (.ref a) da ∧ match da with
  | .exc a' D' => a' = a ∧ D' = D ∧ d = none
  | .exl a' D' dx _ => a' = a ∧ D' = D ∧ d = some dx
  | _ => False
/-- such a def, by its body -/
theorem word_of {P : Program} {w : World} {K : PySem.W.Frag} {mg : Str → Option Value} {base : Heap} {k : Nat} {f : Addr} {x qual y : Str} {params : Arguments} {body : List Stmt} {scope : Scope} {N : List Str} {wd : Str → Str} {okc : Str → Bool}
    (FD : ∃ fd, FunD K x qual params body scope [] [] f fd) (S : FnScope N [y] scope) (hN : N.length = 2)
    (bd : ∀ (kV doc pm : Value) (an : Option Addr) (cdv ct : Value) (us : List Value), us.length = [y].length → bindArgs (PySem.W.fnOf x qual params body scope .none kV doc pm an cdv ct) ⟨us, []⟩ = pure ([y].zip us)) (St : Addr → Addr → Option Addr → SSt K)
    (exc : ∀ c, okc c = true → ExcC K (He.ga K c))
    (hd : ∀ (cdv : Value) (A : Around) (outer : List Env) (s : Shared) (H : Hp) (a c : Addr) (d : Option Addr) (oe : Obj), L2H.RoomH k (A.deeper (envOfC qual scope s.heap.objs.size f cdv)) → PinX (L2H.cxH (L2.CX P w) P w K mg base N qual scope f cdv A outer s H (fun _ _ _ => False) (a, oe)) a c d → ExcC K c →
      PSs (L2H.cxH (L2.CX P w) P w K mg base N qual scope f cdv A outer s H (fun _ _ _ => False) (a, oe)) body ((St a c d).t E0))
    (hw : ∀ (a : Addr) (c : Str) (d : Option Addr) (da : Da) (m : Sto) (R : Rk), okc c = true → (match da with
      | .exc a' D' => a' = a ∧ D' = He.ga K c ∧ d = none
      | .exl a' D' dx _ => a' = a ∧ D' = He.ga K c ∧ d = some dx
      | _ => False) → R (.str (wd c)) m → (St a (He.ga K c) d).w [some da, none] m (fun _ m' => R .non m') R noX noN noN) : FnPAt P w K mg base (k + 1) f y (spWd K wd okc) := by
  obtain ⟨fd, F⟩ := FD
  have e := fdK_of F
  subst e
  refine ⟨fnP_of F S fun cdv A outer s H a D d oe Q room pin hq => ?_, FunD.bindsN F bd, F.kp⟩
  obtain ⟨c, rfl, hc, I, m, sm, hx, hQ⟩ := hq
  refine ⟨_, hd cdv A outer s H a _ d oe room pin (exc c hc), ?_⟩
  have go : ∀ da : Da, Dt K I (.ref a) da → (match da with
      | .exc a' D' => a' = a ∧ D' = He.ga K c ∧ d = none
      | .exl a' D' dx _ => a' = a ∧ D' = He.ga K c ∧ d = some dx
      | _ => False) → (St a (He.ga K c) d).t E0 { nx := fun _ H' => Q .non H', rt := Q } (start N [.ref a]) H := fun da pd hm => by
    refine (St a (He.ga K c) d).ok (hw a c d da m (fun d' m' => d' = .str (wd c) ∧ m' = m) hc hm ⟨rfl, rfl⟩) (start N [.ref a]) H I _ sm ⟨?_, fun i d' e => ?_⟩ (fun σ' H' I' δ' m' g l n => ?_) (fun v H' I' d' m' g p n => ?_) (fun _ _ _ _ _ _ _ z => z.elim) (fun _ _ _ _ _ _ _ z => z.elim) (fun _ _ _ _ _ z => z.elim)
    · unfold L2.start
      rw [List.length_append, List.length_map, List.length_replicate]
      simp [hN]
    · match i, e with
      | 0, e => cases e; exact ⟨.ref a, by unfold L2.start; simp, pd⟩
      | 1, e => cases e
      | i + 2, e => cases e
    · cases n.1
    · obtain ⟨rfl, rfl⟩ := n
      cases p
      exact hQ H' I' g
  cases d with
  | none => exact go (.exc a (He.ga K c)) (.exc a _) ⟨rfl, rfl, rfl⟩
  | some dx =>
    obtain ⟨v, ld, h1, h2⟩ := hx
    exact go (.exl a (He.ga K c) dx ld) (.exl h1 h2) ⟨rfl, rfl, rfl⟩
end
theorem PSs_eq {X : Cx} {b : List Stmt} {t t' : TS} (h : PSs X b t) (e : t = t') : PSs X b t' := e ▸ h
/-- the text of a class among ws -/
def wdOf (ws : List Str) (c : Str) : Str := Txt.join "" (ws.map fun g => if (c == g) = true then [g] else []).flatten
end G

set_option maxHeartbeats 4000000
/-! W: a lambda handed to a def that asks it within try. -/
namespace G
open PySem PySem.Spec PySem.Calls PyProof.Rows L2
section
variable {K : PySem.W.Frag}
theorem cell_noext {I : Hp} {c : Cell} {φ : Heap → Prop} (h : CellIs K I c (.ext φ)) : False := by
  cases c with
  | lst ds => obtain ⟨_, z, _⟩ := h; cases z
  | ins C fs => obtain ⟨_, _, z, _⟩ := h; cases z
  | dct kvs => obtain ⟨_, z, _⟩ := h; cases z
  | dcl kvs => obtain ⟨_, _, z, _⟩ := h; cases z
  | tbl q => obtain ⟨_, z, _⟩ := h; cases z
/-- a lambda was made: tables may have grown, code objects are known -/
theorem go_lam {H I H1 : Hp} {m : Sto} {T : List (Addr × Str)} (s : SM K I m H) (hT : ∀ a q, m a = some (.tbl q) → (a, q) ∈ T) (eN : LamX.ExtN H H1) (t1 : LamX.Tabs T H1) : ∃ I1, Go K H I m H1 I1 m := by
  classical
  let I1 : Hp := fun b => if I b = none ∧ ∃ q, H1 b = some (LamX.CodeO b q) then H1 b else I b
  have i1 : ∀ b, I b = none → ∀ q, H1 b = some (LamX.CodeO b q) → I1 b = some (LamX.CodeO b q) := fun b hb q hq => by
    show (if _ then _ else _) = _
    rw [if_pos ⟨hb, q, hq⟩, hq]
  have i2 : ∀ b, ¬ (I b = none ∧ ∃ q, H1 b = some (LamX.CodeO b q)) → I1 b = I b := fun b h => if_neg h
  have ei : Ex I I1 := fun b o h => by rw [i2 b fun z => by rw [z.1] at h; cases h]; exact h
  have keep : ∀ b o, I b = some o → H1 b = some o := fun b o h => eN b o (s.ex b o h) fun ps z => by subst z; exact s.nt b ps h
  have ex1 : Ex I1 H1 := fun b o h => by
    by_cases c : I b = none ∧ ∃ q, H1 b = some (LamX.CodeO b q)
    · have h : (if _ then H1 b else I b) = some o := h
      rw [if_pos c] at h; exact h
    · rw [i2 b c] at h; exact keep b o h
  have code : ∀ b q, H1 b = some (LamX.CodeO b q) → I1 b = some (LamX.CodeO b q) := fun b q h => by
    cases e : I b with
    | none => exact i1 b e q h
    | some o =>
      have := keep b o e
      rw [h] at this
      cases this
      exact ei b _ e
  refine ⟨I1, ei, fun p o h _ t => eN p o h t, fun p h => ?_, fun p o h => ?_, fun p h => .inl h, ex1, fun a c h => ?_, fun p ps h => ?_⟩
  · cases e : H p with
    | none => exact absurd (.inl e) h
    | some o =>
      have ht : ∀ ps, o ≠ .tbl ps := fun ps z => h (.inr ⟨ps, by rw [e, z]⟩)
      exact fr0_ne (eN p o e ht) ht
  · by_cases c : I p = none ∧ ∃ q, H1 p = some (LamX.CodeO p q)
    · obtain ⟨_, q, hq⟩ := c
      have := ex1 p o h
      rw [hq] at this
      cases this
      exact .inr (.inr (.inr (.inr ⟨_, rfl⟩)))
    · rw [i2 p c] at h; exact .inl h
  · obtain ⟨a1, o, a2, a3⟩ := s.st a c h
    by_cases ct : ∃ q, c = .tbl q
    · obtain ⟨q, rfl⟩ := ct
      obtain ⟨ps, b1, b2, b3⟩ := t1 (a, q) (hT a q h)
      refine ⟨?_, _, b1, ps, rfl, b2, fun pos cv hc => ?_⟩
      · rw [i2 a fun z => by obtain ⟨_, q', hq'⟩ := z; rw [show H1 a = _ from b1] at hq'; cases hq']; exact a1
      · obtain ⟨c1, e1, e2⟩ := b3 pos cv hc
        exact ⟨c1, e1, code c1 q e2⟩
    · have ht : ∀ ps, o ≠ .tbl ps := fun ps z => by
        subst z
        cases c with
        | lst ds => obtain ⟨_, z, _⟩ := a3; cases z
        | ins C fs => obtain ⟨_, _, z, _⟩ := a3; cases z
        | dct kvs => obtain ⟨_, z, _⟩ := a3; cases z
        | dcl kvs => obtain ⟨_, _, z, _⟩ := a3; cases z
        | tbl q => exact ct ⟨q, rfl⟩
      have h1 := eN a o a2 ht
      refine ⟨?_, o, h1, a3.ex ei⟩
      rw [i2 a fun z => by
        obtain ⟨_, q', hq'⟩ := z
        rw [h1] at hq'
        cases hq'
        exact cell_noext a3]
      exact a1
  · by_cases c : I p = none ∧ ∃ q, H1 p = some (LamX.CodeO p q)
    · obtain ⟨_, q, hq⟩ := c
      have := ex1 p _ h
      rw [hq] at this
      cases this
    · rw [i2 p c] at h; exact s.nt p ps h
/-- found = None; try: found = ("told", ask()) except C as e: found = (word(e), None); return found -/
def tTried (K : PySem.W.Frag) (cE : Addr) (wd : Str → Str) (ok : Str → Bool) : (XK → Hp → VK → Prop) → Hp → VK → Prop := fun tl H Q =>
  ∃ Ech : XK, (∀ cls d H', Ech cls d H' → ∃ D, cls = .ref D ∧ PySem.W.exmOne K cls (.ref cE) = some true ∧ ∀ a, spWd K wd ok a D d H' fun v H2 => ∀ p, H2 p = none → Q (.ref p) (upd H2 p (.tup [v, .non]))) ∧
    tl Ech H fun v H' => [V.str "told", v].length ≤ sizeLine ∧ ∀ p, H' p = none → ∃ u, (some (some (V.ref p)) : Option (Option V)) = some (some u) ∧ Q u (upd H' p (.tup [V.str "told", v]))
/-- tried(lambda: body) -/
def sTriedL (T : List (Addr × Str)) (cE : Addr) (wd : Str → Str) (ok : Str → Bool) (hE : ∀ c, ok c = true → PySem.W.exmOne K (.ref (He.ga K c)) (.ref cE) = some true) (body : SE K) : SE K where
  t := fun E => LamX.tLam T (tTried K cE wd ok) body.t
  w := fun δ m Φ Ψ => (∀ a q, m a = some (.tbl q) ↔ (a, q) ∈ T) ∧ body.w δ m (fun d m' => Φ (.tup [.str "told", d]) m') (fun x m' => ok x.1 = true ∧ Φ (.tup [.str (wd x.1), .non]) m')
  ok := fun {E δ m Φ Ψ} h σ H I s l Q kq kx => by
    obtain ⟨hT, h⟩ := h
    refine ⟨fun p hp => ?_, fun H1 eN t1 => ?_⟩
    · obtain ⟨_, o, ho, ps, e, h1, h2⟩ := s.st p.1 _ ((hT p.1 p.2).mpr hp)
      subst e
      exact ⟨ps, ho, h1, fun pos cv hc => by obtain ⟨c, e1, e2⟩ := h2 pos cv hc; exact ⟨c, e1, s.ex _ _ e2⟩⟩
    · obtain ⟨I1, g1⟩ := go_lam s (fun a q z => (hT a q).mp z) eN t1
      have fin : ∀ (x : Str) (v : V) (d : Da) {H2 I2 : Hp} {m2 : Sto} {ds : List Da} {vs : List V}, Go K H I m H2 I2 m2 → DtAll K I2 vs ds → Φ (.tup ds) m2 → ∀ p, H2 p = none → Q (.ref p) (upd H2 p (.tup vs)) := fun x v d {H2 I2 m2 ds vs} g2 pd f p hp => by
        have gn := Go.new (o := .tup vs) g2.sm hp
        exact kq (.ref p) _ _ _ m2 (g2.trans gn) (.tup (Evl.st_of upd_same) (pd.ex gn.ei)) f
      refine ⟨fun cls d H' => ∃ D, cls = .ref D ∧ PySem.W.exmOne K cls (.ref cE) = some true ∧ ∀ a, spWd K wd ok a D d H' fun v H2 => ∀ p, H2 p = none → Q (.ref p) (upd H2 p (.tup [v, .non])), fun _ _ _ z => z, ?_⟩
      refine body.ok h σ H1 I1 g1.sm (l.ex g1.ei) _ (fun v H' I' d m' g p f => ⟨Evl.sz_of (show 2 ≤ 100000 by decide), fun p0 hp => ⟨_, rfl, fin "" v d (g1.trans g) (.cons (.str _) (.cons p .nil)) f p0 hp⟩⟩) fun x H' I' m' g f => ?_
      obtain ⟨hok, f⟩ := f
      obtain ⟨c, o⟩ := x
      cases o with
      | none => exact ⟨_, rfl, hE c hok, fun a => ⟨c, rfl, hok, I', m', g.sm, trivial, fun H2 I2 g2 => fin "" .non .non ((g1.trans g).trans g2) (.cons (.str _) (.cons .non .nil)) f⟩⟩
      | some ld =>
        intro dx v hd pv
        obtain ⟨J, gJ, hJ, eJ⟩ := Go.xd g hd
        exact ⟨_, rfl, hE c hok, fun a => ⟨c, rfl, hok, J, m', gJ.sm, ⟨v, ld, hJ, pv.ex eJ⟩, fun H2 I2 g2 => fin "" .non .non ((g1.trans gJ).trans g2) (.cons (.str _) (.cons .non .nil)) f⟩⟩
  mono := fun f x h => ⟨h.1, body.mono (fun d m' => f _ _) (fun y m' z => ⟨z.1, f _ _ z.2⟩) h.2⟩
end
/-! ### defs that make lambdas: their code object is known -/
section
variable {P : Program} {w : World} {K : PySem.W.Frag} {mg : Str → Option Value} {base : Heap} {k : Nat} {f : Addr} {ps N : List Str} {sp : Sp}
theorem fnAtC_of {x qual : Str} {params : Arguments} {body : List Stmt} {scope : Scope} (pl : Str × Option Str) (hpl : He.fAd K pl = f) (D : ∃ fd, FunD K x qual params body scope [] [] f fd) (S : FnScope N ps scope) (len : ∀ vs H Q E, sp vs H Q E → vs.length = ps.length)
    (bd : ∀ (kV doc pm : Value) (an : Option Addr) (cdv ct : Value) (us : List Value), us.length = ps.length → bindArgs (PySem.W.fnOf x qual params body scope .none kV doc pm an cdv ct) ⟨us, []⟩ = pure (ps.zip us))
    (hb : ∀ (cdv : Value) (A : Around) (outer : List Env) (s : Shared) (H : Hp) (vs : List V) (Q : VK) (E : XK), cdv = .ref (He.codeOf K pl) → Room k (A.deeper (envOfC qual scope s.heap.objs.size f cdv)) → sp vs H Q E →
      ∃ t, PSs (cxOf (L2.CX P w) P w K mg base N qual scope f cdv A outer s H E) body t ∧ t { nx := fun _ H' => Q .non H', rt := Q } (start N vs) H) : FnAt P w K mg base (k + 1) f ps sp := by
  obtain ⟨fd, F⟩ := D
  have e := fdK_of F
  subst e
  refine ⟨?_, FunD.bindsN F bd, F.kp⟩
  obtain ⟨oc, od, dV, kV, doc, pm, an, cdv, ct, osl, e1, lk, hcd, _, _⟩ := F.ex
  have e2 : cdv = .ref (He.codeOf K pl) := by
    obtain ⟨c, rfl⟩ := He.codeIn_ref hcd
    subst hpl
    rw [He.codeOf_eq lk (by rw [e1])]
  rw [e1]
  exact fn_of (by rw [e1] at lk; exact lk) hcd S len fun A outer s H vs Q E hr hq => hb cdv A outer s H vs Q E e2 hr hq
end
/-- the law's script, and the tables of its lambdas -/
theorem sm_tabs {K : PySem.W.Frag} {H : Hp} {a : Addr} {xs : List V} {cs : List (Addr × Str)} (hH : ∀ p ∈ cs, H p.1 = some (.tbl #[])) (hS : SqL K H a xs) : ∃ I m, SM K I m H ∧ SqL K I a xs ∧ ∀ b q, m b = some (.tbl q) ↔ cs.lookup b = some q := by
  let I : Hp := fun b => match H b with
    | some (.tbl _) => none
    | o => o
  have hI : ∀ b o, I b = some o → H b = some o ∧ ∀ ps, o ≠ .tbl ps := fun b o h => by
    have h : (match H b with
      | some (.tbl _) => none
      | o => o) = some o := h
    split at h
    · cases h
    · rename_i hn
      exact ⟨h, fun ps z => hn ps (by rw [h, z])⟩
  have hI2 : ∀ b o, H b = some o → (∀ ps, o ≠ .tbl ps) → I b = some o := fun b o h hn => by
    show (match H b with
      | some (.tbl _) => none
      | o => o) = some o
    rw [h]
    cases o <;> first | rfl | exact absurd rfl (hn _)
  refine ⟨I, fun b => (cs.lookup b).map .tbl, ⟨fun b o h => (hI b o h).1, fun b c h => ?_, fun b ps h => (hI b _ h).2 ps rfl⟩, ?_, fun b q => ?_⟩
  · simp only [Option.map_eq_some_iff] at h
    obtain ⟨q, hq, rfl⟩ := h
    have hm : (b, q) ∈ cs := by
      have key : ∀ l : List (Addr × Str), l.lookup b = some q → (b, q) ∈ l := by
        intro l
        induction l with
        | nil => intro z; cases z
        | cons x l ih =>
          intro z
          simp only [List.lookup] at z
          cases e : b == x.1 with
          | true =>
            rw [e] at z
            cases z
            have : b = x.1 := by simpa using e
            rw [this]
            simp
          | false => rw [e] at z; exact List.mem_cons_of_mem _ (ih z)
      exact key cs hq
    have h1 : H b = some (.tbl #[]) := hH (b, q) hm
    refine ⟨?_, _, h1, #[], rfl, trivial, fun pos cv hc => ?_⟩
    · show (match H b with
        | some (.tbl _) => none
        | o => o) = none
      rw [h1]
    · have z : codeAmong pos [] = some cv := hc
      simp [codeAmong] at z
  · rcases hS with (h | ⟨o, h⟩) | h
    · exact .inl (.inl (hI2 a _ h nofun))
    · exact .inl (.inr ⟨o, hI2 a _ h nofun⟩)
    · exact .inr h
  · simp only [Option.map_eq_some_iff]
    constructor
    · rintro ⟨q', h, e⟩
      cases e
      exact h
    · intro h
      exact ⟨q, h, rfl⟩
end G

set_option maxHeartbeats 4000000
/-! W: an own exception that bears a line. -/
namespace G
open PySem PySem.Spec PySem.Calls PyProof.Rows L2
/-! ### facts of the top -/
def oexB (K : PySem.W.Frag) (C : Addr) : Bool := (match K.lookup C with
  | some ⟨.type "type", _, .cls cd, sl⟩ => (match cd.mro, sl.toList with
    | .ref C' :: bm, [_, _, _, _, some (.builtin n), _] => C' == C && n == "ValueError.__new__" && !cd.hasDel && cd.hasDict && PySem.HandSPX.refsVE bm
    | _, _ => false)
  | _ => false) && (He.eqO (PySem.W.findIn K (.ref C) "__setattr__") (some (some (.builtin "object.__setattr__"))) && (decide (PySem.W.subIn K (.ref C) (.type "BaseException") = some true) && (decide (PySem.W.typeIn K (.ref C) = some (.type "type")) && PySem.W.keepIn K (.ref C))))
theorem oexB_ok {K : PySem.W.Frag} {C : Addr} (h : oexB K C = true) : OexC K C := by
  obtain ⟨h1, h⟩ := He.ba h
  obtain ⟨h2, h⟩ := He.ba h
  obtain ⟨h3, h⟩ := He.ba h
  obtain ⟨h4, h5⟩ := He.ba h
  refine ⟨?_, He.eqO_ok h2, of_decide_eq_true h3, of_decide_eq_true h4, h5⟩
  split at h1
  · rename_i dd cd sl ho
    split at h1
    · rename_i C' bm k0 k1 k2 k3 n k5 hm hs
      simp only [Bool.and_eq_true, beq_iff_eq, Bool.not_eq_true'] at h1
      obtain ⟨⟨⟨⟨rfl, rfl⟩, hdel⟩, hdc⟩, ht⟩ := h1
      obtain ⟨nm, bs, mro, ns, qn, hd, sn, sub, ab, col, del⟩ := cd
      dsimp only at hm hdel hdc
      subst hm hdel hdc
      have hsl : sl = #[k0, k1, k2, k3, some (.builtin "ValueError.__new__"), k5] := by
        obtain ⟨l⟩ := sl
        simp only at hs
        rw [hs]
      subst hsl
      exact ⟨nm, qn, ns, bs, bm, sn, sub, ab, col, dd, k0, k1, k2, k3, k5, ho, ht⟩
    · cases h1
  · cases h1
/-- the class at C0 is read for its __init__, ValueError's own -/
def seB (K : PySem.W.Frag) (C0 : Addr) : Bool := PySem.W.readsIn K C0 (.type "type") && (He.eqO (PySem.W.specialIn K (.ref C0) "__getattribute__") (some (some (.builtin "type.__getattribute__"))) && (match PySem.W.findCls K (.ref C0) (.type "type") "__init__" with
  | some (.val (.builtin n)) => n == "ValueError.__init__"
  | _ => false))
section
variable {X : Cx} {e : Expr} {es : List Expr} {ta : TA} {x : Str} {p p1 p2 pos : Pos} {C0 : Addr}
theorem pe_seinit {pl : Sem Bool} (hs : seB X.K C0 = true) (hg : Gl X x) (hm : X.mg x = some (.ref C0)) (ha : PA X (e :: es) ta) (hdb : (x == ("__debug__" : Str)) = false := by decide)
    (hc : eval (.Call (.Attribute (.Name x p1) "__init__" p2) (e :: es) [] pos) X.env = (do
      let ov ← eval (.Name x p1) X.env
      standAt p2.atName
      let (f, first) ← holding [ov] (getMethod ov "__init__" pl)
      callWith pos f first (backTo pos (starEach (e :: es) X.env)) (backToKw pos (keywordEach [] X.env))) := by rfl)
    (he : starEach (e :: es) X.env = (false, eval e X.env) :: starEach es X.env := by rfl) (hpl : (backTo pos (starEach es X.env)).any (·.1) = false := by rfl) :
    PE X (.Call (.Attribute (.Name x p1) "__init__" p2) (e :: es) [] pos) (tVeI X.K ta) := by
  obtain ⟨h1, h⟩ := He.ba hs
  obtain ⟨h2, h3⟩ := He.ba h
  have h4 : PySem.W.findCls X.K (.ref C0) (.type "type") "__init__" = some (.val (.builtin "ValueError.__init__")) := by
    split at h3
    · rename_i n q
      rw [q, beq_iff_eq.mp h3]
    · cases h3
  refine ⟨fun pins s σ H Q I h => ?_⟩
  refine PySem.W.methodCall_KW (ld_glob I hg hm ?_ hdb) hc
  refine PySem.W.method_cls I.kIn (He.eqO_ok h2) (PySem.W.cls_value I.kIn h1 h4 (by decide +kernel) ?_)
  show wpAny _ _ (callWith pos (Value.builtin "ValueError.__init__") [] (backTo pos (starEach (e :: es) X.env)) []) _ _ _
  refine PyProof.Rows.callWith_method1 (thn (ha.run pos pins _ σ H _ (I.tok _) h) fun us s1 ⟨vs, H1, I1, r1, a, C, ws, ev, hl, T, ea, q⟩ => ?_) he hpl
  subst ev
  cases r1 with
  | @cons _ u0 _ ur ra rw' =>
    have eu : u0 = Value.ref a := ra
    subst eu
    exact oinit_ok T I1 ea (by rw [← Paired.length rw', sizeLine_eq]; omega) fun s' J => ⟨.non, H1, J, rfl, q⟩
/-- C(), C's own __init__ keeping sp -/
theorem pmk_oex0 {CX : CXT} {C fI : Addr} {k : Nat} {fd : FuncData} {ps : List Str} {sp : Sp} {ds : List Value} {dvs : List V} (T : OexC X.K C) (iC : PySem.W.findIn X.K (.ref C) "__init__" = some (some (.ref fI))) (tI : PySem.W.typeIn X.K (.ref fI) = some (.type "function"))
    (F1 : FnOk X.prog X.w X.K X.mg X.base CX k fI fd ps sp) (hr : Room (k + 1) X.A) (hb : Binds X.K fd ps ds) (hd : Vals dvs ds) (hx : Passes CX X (fun _ _ _ => False)) (hg : Gl X x) (hm : X.mg x = some (.ref C)) (hdb : (x == ("__debug__" : Str)) = false := by decide) :
    PMk X (.Call (.Name x p) [] [] pos) (tMkO C sp dvs tNil) := by
  intro pins s σ H Q I h
  obtain ⟨nm, q, N, bs, bm, sn, sub, ab, col, dd, k0, k1, k2, k3, k5, hC, hbm⟩ := T.cls
  refine wpAny_Call_Name_kw (ld_glob I hg hm ?_ hdb)
  obtain ⟨hz, q1⟩ := h
  refine PySem.W.callWith_K0 I.kIn T.kC ?_
  show wpAny _ _ (call (.ref C) []) _ _ _
  obtain ⟨hp, g, dr, tk, os⟩ := s
  have sz1 : hp.objs.size ≤ hp.objs.size + 1 := Nat.le_succ _
  have hq := q1 (hp.objs.size + 1) (I.hok.fresh sz1)
  have kk : ∀ b o, hp.get? b = some o → ((hp.push (PySem.W.kdv_tup [])).push (PySem.HandSPX.excO C hp.objs.size)).get? b = some o := fun b o z => Heap.get?_push_of_some _ (Heap.get?_push_of_some _ z)
  have at1 : ((hp.push (PySem.W.kdv_tup [])).push (PySem.HandSPX.excO C hp.objs.size)).get? (hp.objs.size + 1) = some (PySem.HandSPX.excO C hp.objs.size) := by heap_get
  have J : Inv X pins σ (upd H (hp.objs.size + 1) (exo (hp.objs.size + 1) C none)) ⟨(hp.push (PySem.W.kdv_tup [])).push (PySem.HandSPX.excO C hp.objs.size), g, dr, tk, os⟩ :=
    I.laid (t' := tk) (a := hp.objs.size + 1) (o := exo (hp.objs.size + 1) C none) (h' := (hp.push (PySem.W.kdv_tup [])).push (PySem.HandSPX.excO C hp.objs.size)) kk sz1 (exo_ok at1)
  have rv : Vals (V.ref (hp.objs.size + 1) :: ([] ++ dvs)) ([Value.ref (hp.objs.size + 1)] ++ ds) := .cons rfl hd
  have ln : ([Value.ref (hp.objs.size + 1)] ++ ds).length = ps.length := by
    have z := rv.length
    rw [F1.len _ _ _ _ hq] at z
    exact z.symm
  refine wpAny_call (PySem.HandSPX.call_own F.excBase_ValueError (fun Y => PySem.HandSPX.refsVE_contains Y bm hbm) (I.kIn _ _ hC) (PySem.W.looks_findIn I.kIn iC) (fun self => PySem.W.bind_fn I.kIn self tI) (by decide)
    (codeAny_mono (F1.run _ X.stack _ _ ⟨[Value.ref (hp.objs.size + 1)], []⟩ ([Value.ref (hp.objs.size + 1)] ++ ds) _ _ (fun _ _ _ => False) (hr.make C [] []) (J.env0.make C [] []) (hb _ [Value.ref (hp.objs.size + 1)] J.kIn ln) rv hq) fun r s' z => ?_))
  match r, z with
  | .error er, z => exact hx pins σ _ _ er s' J z
  | .ok (.ret u), z =>
    obtain ⟨v, H2, os2, bare2, un2, hok2, rv2, ev, d, fs, ea, ed, hd1, q2⟩ := z
    subst ev
    obtain ⟨h2, g2, d2, t2, os'⟩ := s'
    exact ⟨rv2, mk_end (raises_own T.exC T.tyC) I sz1 kk un2 hok2 os2 bare2 ea ed hd1 q2⟩
  | .ok .next, z => exact False.elim z
  | .ok .brk, z => exact False.elim z
  | .ok .cont, z => exact False.elim z
end
/-! ### raise, with a line -/
/-- self.line = line, behind the base's __init__ -/
def spLine (K : PySem.W.Frag) : Sp := fun vs H Q _ => ∃ a C y, vs = [.ref a, y] ∧ H a = some (exo a C none) ∧ OexC K C ∧ PySem.W.findIn K (.ref C) "line" = some none ∧ ∀ dx, H dx = none → dx ≠ a → Q .non (upd (upd H dx (exd dx [("line", y)])) a (exo a C (some dx)))
/-- raise C() or raise C(e) -/
theorem line_made {K : PySem.W.Frag} {E : XK} {H I : Hp} {m : Sto} {c : Str} {vs : List V} {y : V} {ld : Da} (sm : SM K I m H) (T : OexC K (He.ga K c)) (hf : PySem.W.findIn K (.ref (He.ga K c)) "line" = some none) (py : Dt K I y ld) (hl : vs.length ≤ 1000) {dvs : List V} (hv : vs ++ dvs = [y]) (kx : ∀ H', Go K H I m H' I m → XE K E (c, some ld) H' I) :
    vs.length ≤ 1000 ∧ ∀ a, H a = none → spLine K (.ref a :: (vs ++ dvs)) (upd H a (exo a (He.ga K c) none)) (fun v H2 => v = .non ∧ ∃ (d : Addr) (fs : List (Str × V)), H2 a = some (exo a (He.ga K c) (some d)) ∧ H2 d = some (exd d fs) ∧ H d = none ∧ E (.ref (He.ga K c)) (some d) (upd (del H2 a) d (.xd fs))) (fun _ _ _ => False) := by
  refine ⟨hl, fun a ha => ⟨a, _, y, by rw [hv], upd_same, T, hf, fun dx hdx ne => ⟨rfl, dx, [("line", y)], upd_same, ?_, ?_, ?_⟩⟩⟩
  · rw [upd_ne ne, upd_same]
  · rw [upd_ne ne] at hdx; exact hdx
  · have hdx : H dx = none := by rw [upd_ne ne] at hdx; exact hdx
    have e : upd (del (upd (upd (upd H a (exo a (He.ga K c) none)) dx (exd dx [("line", y)])) a (exo a (He.ga K c) (some dx))) a) dx (.xd [("line", y)]) = upd H dx (.xd [("line", y)]) := by
      funext b
      by_cases z : b = dx
      · rw [z, upd_same, upd_same]
      · rw [upd_ne z, upd_ne z]
        by_cases z2 : b = a
        · rw [z2, del_same, ha]
        · rw [del_ne z2, upd_ne z2, upd_ne z, upd_ne z2]
    rw [e]
    have g : Go K H I m (upd H dx (.xd [("line", y)])) I m := Go.grow sm (Evl.Ex.new hdx)
    exact kx _ g dx y upd_same py
section
variable {K : PySem.W.Frag}
/-- raise C() -/
def sRaiseL0 (c : Str) (hT : OexC K (He.ga K c)) (hf : PySem.W.findIn K (.ref (He.ga K c)) "line" = some none) : SSt K where
  t := fun E D σ H => tMkO (He.ga K c) (spLine K) [.non] tNil σ H E
  w := fun δ m N R X B C => X (c, some .non) m
  ok := fun {E δ m N R X B C} h σ H I D s l kn kr kb kc kx => line_made s hT hf (y := .non) .non (by decide) rfl fun H' g => kx (c, some .non) H' I m g h
  mono := fun n r x b c h => x _ _ h
/-- raise C(e) -/
def sRaiseL (c : Str) (hT : OexC K (He.ga K c)) (hf : PySem.W.findIn K (.ref (He.ga K c)) "line" = some none) (e : SE K) : SSt K where
  t := fun E D σ H => tMkO (He.ga K c) (spLine K) [] (tCons (e.t E) tNil) σ H E
  w := fun δ m N R X B C => e.w δ m (fun d m' => X (c, some d) m') X
  ok := fun {E δ m N R X B C} h σ H I D s l kn kr kb kc kx => e.ok h σ H I s l _ (fun v H' I' d m' g p f => line_made g.sm hT hf p (by show 1 ≤ 1000; decide) rfl fun H2 g2 => kx (c, some d) H2 I' m' (g.trans g2) f) kx
  mono := fun n r x b c h => e.mono (fun d m' => x _ _) x h
end
/-! ### NoText, by facts of the top -/
def lineB (K : PySem.W.Frag) : Bool := oexB K (He.ga K "NoText") && (seB K (He.ga K "SelfError") && (He.eqO (PySem.W.findIn K (.ref (He.ga K "NoText")) "line") (some none) &&
  (He.eqO (PySem.W.findIn K (.ref (He.ga K "NoText")) "__init__") (some (some (.ref (He.ma K (He.ga K "NoText") "__init__")))) && decide (PySem.W.typeIn K (.ref (He.ma K (He.ga K "NoText") "__init__")) = some (.type "function")))))
theorem lineB_ok {K : PySem.W.Frag} (h : lineB K = true) : OexC K (He.ga K "NoText") ∧ seB K (He.ga K "SelfError") = true ∧ PySem.W.findIn K (.ref (He.ga K "NoText")) "line" = some none ∧
    PySem.W.findIn K (.ref (He.ga K "NoText")) "__init__" = some (some (.ref (He.ma K (He.ga K "NoText") "__init__"))) ∧ PySem.W.typeIn K (.ref (He.ma K (He.ga K "NoText") "__init__")) = some (.type "function") := by
  obtain ⟨h1, h⟩ := He.ba h
  obtain ⟨h2, h⟩ := He.ba h
  obtain ⟨h3, h⟩ := He.ba h
  obtain ⟨h4, h5⟩ := He.ba h
  exact ⟨oexB_ok h1, h2, He.eqO_ok h3, He.eqO_ok h4, of_decide_eq_true h5⟩
end G

set_option maxHeartbeats 4000000
/-! W: dicts of the store. -/
namespace G
open PySem PySem.Spec PySem.Calls PyProof.Rows L2
section
variable {K : PySem.W.Frag}
/-- {} -/
def sDnew : SE K where
  t := fun _ => tDNewK
  w := fun δ m Φ Ψ => ∀ a, m a = none → Φ (.adr a) (m.put a (.dct []))
  ok := fun {E δ m Φ Ψ} h σ H I s l Q kq kx => fun a ha => kq (.ref a) _ I _ _ (Go.put (c := .dct []) s ha ⟨[], rfl, .nil⟩) (.adr a) (h a (s.free ha))
  mono := fun f g h a ha => f _ _ (h a ha)
end
end G

set_option maxHeartbeats 4000000
namespace G
open PySem PySem.Spec PyProof.Rows L2
/-! ### the text by places, by gen.py -/
def top (i : Nat) : Stmt := PySem.Challenge.pw_mappedselves_k86_what_is_no_text_of_a_de.main.body.getD i (.Pass ⟨0, 0, 0, 0⟩)
abbrev s_is_name : Stmt := top 5
abbrev s_is_bits : Stmt := top 6
abbrev s_NoTextD_initD : Stmt := inClass (top 21) 0
abbrev s_is_whole : Stmt := top 25
abbrev s_is_number : Stmt := top 26
abbrev s_is_run : Stmt := top 27
abbrev s_is_part : Stmt := top 28
abbrev s_joined : Stmt := top 29
abbrev s_NumberSetD_initD : Stmt := inClass (top 30) 0
abbrev s_NumberSetD_eqD : Stmt := inClass (top 30) 1
abbrev s_NumberSet_parts : Stmt := inClass (top 30) 2
abbrev s_NumberSet_has : Stmt := inClass (top 30) 3
abbrev s_NumberSet_least : Stmt := inClass (top 30) 5
abbrev s_set_of : Stmt := top 31
abbrev s_is_range : Stmt := top 33
abbrev s_are_apart : Stmt := top 34
abbrev s_is_map : Stmt := top 35
abbrev s_in_order : Stmt := top 36
abbrev s_RangeMapD_initD : Stmt := inClass (top 37) 0
abbrev s_RangeMapD_eqD : Stmt := inClass (top 37) 1
abbrev s_RangeMap_ranges : Stmt := inClass (top 37) 2
abbrev s_RangeMap_value : Stmt := inClass (top 37) 3
abbrev s_RangeMap_insides : Stmt := inClass (top 37) 6
abbrev s_is_entry : Stmt := top 41
abbrev s_is_deed : Stmt := top 42
abbrev s_are_ranges : Stmt := top 43
abbrev s_whole_of : Stmt := top 46
abbrev s_is_short : Stmt := top 47
abbrev s_ranges_text : Stmt := top 48
abbrev s_entry_text : Stmt := top 49
abbrev s_deed_text : Stmt := top 50
abbrev s_ranges_of : Stmt := top 51
abbrev s_entry_of : Stmt := top 52
abbrev s_deed_of : Stmt := top 53
abbrev s_read_deed : Stmt := top 54
abbrev s__law_cell_at : Stmt := top 56
abbrev s__law_digit : Stmt := top 57
abbrev s__law_one : Stmt := top 58
abbrev s__law_word : Stmt := top 59
abbrev s__law_tried : Stmt := top 60
abbrev s__law_bits : Stmt := top 61
abbrev s__law_whole : Stmt := top 62
abbrev s__law_map : Stmt := top 63
abbrev s__law_deed : Stmt := top 64
abbrev s__law_spoilt : Stmt := top 65
abbrev s__law_by_hand : Stmt := top 66
abbrev s_law : Stmt := top 67
def D_is_name : He.DefD := ⟨("is_name", none), "is_name", "is_name", defArgs s_is_name, defBody s_is_name, defScope s_is_name, [], []⟩
def D_is_bits : He.DefD := ⟨("is_bits", none), "is_bits", "is_bits", defArgs s_is_bits, defBody s_is_bits, defScope s_is_bits, [], []⟩
def D_NoTextD_initD : He.DefD := ⟨("NoText", some "__init__"), "__init__", "NoText.__init__", defArgs s_NoTextD_initD, defBody s_NoTextD_initD, defScope s_NoTextD_initD, [.non], []⟩
def D_is_whole : He.DefD := ⟨("is_whole", none), "is_whole", "is_whole", defArgs s_is_whole, defBody s_is_whole, defScope s_is_whole, [], []⟩
def D_is_number : He.DefD := ⟨("is_number", none), "is_number", "is_number", defArgs s_is_number, defBody s_is_number, defScope s_is_number, [], []⟩
def D_is_run : He.DefD := ⟨("is_run", none), "is_run", "is_run", defArgs s_is_run, defBody s_is_run, defScope s_is_run, [], []⟩
def D_is_part : He.DefD := ⟨("is_part", none), "is_part", "is_part", defArgs s_is_part, defBody s_is_part, defScope s_is_part, [], []⟩
def D_joined : He.DefD := ⟨("joined", none), "joined", "joined", defArgs s_joined, defBody s_joined, defScope s_joined, [], []⟩
def D_NumberSetD_initD : He.DefD := ⟨("NumberSet", some "__init__"), "__init__", "NumberSet.__init__", defArgs s_NumberSetD_initD, defBody s_NumberSetD_initD, defScope s_NumberSetD_initD, [], []⟩
def D_NumberSetD_eqD : He.DefD := ⟨("NumberSet", some "__eq__"), "__eq__", "NumberSet.__eq__", defArgs s_NumberSetD_eqD, defBody s_NumberSetD_eqD, defScope s_NumberSetD_eqD, [], []⟩
def D_NumberSet_parts : He.DefD := ⟨("NumberSet", some "parts"), "parts", "NumberSet.parts", defArgs s_NumberSet_parts, defBody s_NumberSet_parts, defScope s_NumberSet_parts, [], []⟩
def D_NumberSet_has : He.DefD := ⟨("NumberSet", some "has"), "has", "NumberSet.has", defArgs s_NumberSet_has, defBody s_NumberSet_has, defScope s_NumberSet_has, [], []⟩
def D_NumberSet_least : He.DefD := ⟨("NumberSet", some "least"), "least", "NumberSet.least", defArgs s_NumberSet_least, defBody s_NumberSet_least, defScope s_NumberSet_least, [], []⟩
def D_set_of : He.DefD := ⟨("set_of", none), "set_of", "set_of", defArgs s_set_of, defBody s_set_of, defScope s_set_of, [], []⟩
def D_is_range : He.DefD := ⟨("is_range", none), "is_range", "is_range", defArgs s_is_range, defBody s_is_range, defScope s_is_range, [], []⟩
def D_are_apart : He.DefD := ⟨("are_apart", none), "are_apart", "are_apart", defArgs s_are_apart, defBody s_are_apart, defScope s_are_apart, [], []⟩
def D_is_map : He.DefD := ⟨("is_map", none), "is_map", "is_map", defArgs s_is_map, defBody s_is_map, defScope s_is_map, [], []⟩
def D_in_order : He.DefD := ⟨("in_order", none), "in_order", "in_order", defArgs s_in_order, defBody s_in_order, defScope s_in_order, [], []⟩
def D_RangeMapD_initD : He.DefD := ⟨("RangeMap", some "__init__"), "__init__", "RangeMap.__init__", defArgs s_RangeMapD_initD, defBody s_RangeMapD_initD, defScope s_RangeMapD_initD, [], []⟩
def D_RangeMapD_eqD : He.DefD := ⟨("RangeMap", some "__eq__"), "__eq__", "RangeMap.__eq__", defArgs s_RangeMapD_eqD, defBody s_RangeMapD_eqD, defScope s_RangeMapD_eqD, [], []⟩
def D_RangeMap_ranges : He.DefD := ⟨("RangeMap", some "ranges"), "ranges", "RangeMap.ranges", defArgs s_RangeMap_ranges, defBody s_RangeMap_ranges, defScope s_RangeMap_ranges, [], []⟩
def D_RangeMap_value : He.DefD := ⟨("RangeMap", some "value"), "value", "RangeMap.value", defArgs s_RangeMap_value, defBody s_RangeMap_value, defScope s_RangeMap_value, [], []⟩
def D_RangeMap_insides : He.DefD := ⟨("RangeMap", some "insides"), "insides", "RangeMap.insides", defArgs s_RangeMap_insides, defBody s_RangeMap_insides, defScope s_RangeMap_insides, [], []⟩
def D_is_entry : He.DefD := ⟨("is_entry", none), "is_entry", "is_entry", defArgs s_is_entry, defBody s_is_entry, defScope s_is_entry, [], []⟩
def D_is_deed : He.DefD := ⟨("is_deed", none), "is_deed", "is_deed", defArgs s_is_deed, defBody s_is_deed, defScope s_is_deed, [], []⟩
def D_are_ranges : He.DefD := ⟨("are_ranges", none), "are_ranges", "are_ranges", defArgs s_are_ranges, defBody s_are_ranges, defScope s_are_ranges, [], []⟩
def D_whole_of : He.DefD := ⟨("whole_of", none), "whole_of", "whole_of", defArgs s_whole_of, defBody s_whole_of, defScope s_whole_of, [], []⟩
def D_is_short : He.DefD := ⟨("is_short", none), "is_short", "is_short", defArgs s_is_short, defBody s_is_short, defScope s_is_short, [], []⟩
def D_ranges_text : He.DefD := ⟨("ranges_text", none), "ranges_text", "ranges_text", defArgs s_ranges_text, defBody s_ranges_text, defScope s_ranges_text, [], []⟩
def D_entry_text : He.DefD := ⟨("entry_text", none), "entry_text", "entry_text", defArgs s_entry_text, defBody s_entry_text, defScope s_entry_text, [], []⟩
def D_deed_text : He.DefD := ⟨("deed_text", none), "deed_text", "deed_text", defArgs s_deed_text, defBody s_deed_text, defScope s_deed_text, [], []⟩
def D_ranges_of : He.DefD := ⟨("ranges_of", none), "ranges_of", "ranges_of", defArgs s_ranges_of, defBody s_ranges_of, defScope s_ranges_of, [], []⟩
def D_entry_of : He.DefD := ⟨("entry_of", none), "entry_of", "entry_of", defArgs s_entry_of, defBody s_entry_of, defScope s_entry_of, [], []⟩
def D_deed_of : He.DefD := ⟨("deed_of", none), "deed_of", "deed_of", defArgs s_deed_of, defBody s_deed_of, defScope s_deed_of, [], []⟩
def D_read_deed : He.DefD := ⟨("read_deed", none), "read_deed", "read_deed", defArgs s_read_deed, defBody s_read_deed, defScope s_read_deed, [], []⟩
def D__law_cell_at : He.DefD := ⟨("_law_cell_at", none), "_law_cell_at", "_law_cell_at", defArgs s__law_cell_at, defBody s__law_cell_at, defScope s__law_cell_at, [], []⟩
def D__law_digit : He.DefD := ⟨("_law_digit", none), "_law_digit", "_law_digit", defArgs s__law_digit, defBody s__law_digit, defScope s__law_digit, [], []⟩
def D__law_one : He.DefD := ⟨("_law_one", none), "_law_one", "_law_one", defArgs s__law_one, defBody s__law_one, defScope s__law_one, [], []⟩
def D__law_word : He.DefD := ⟨("_law_word", none), "_law_word", "_law_word", defArgs s__law_word, defBody s__law_word, defScope s__law_word, [], []⟩
def D__law_tried : He.DefD := ⟨("_law_tried", none), "_law_tried", "_law_tried", defArgs s__law_tried, defBody s__law_tried, defScope s__law_tried, [], []⟩
def D__law_bits : He.DefD := ⟨("_law_bits", none), "_law_bits", "_law_bits", defArgs s__law_bits, defBody s__law_bits, defScope s__law_bits, [], []⟩
def D__law_whole : He.DefD := ⟨("_law_whole", none), "_law_whole", "_law_whole", defArgs s__law_whole, defBody s__law_whole, defScope s__law_whole, [], []⟩
def D__law_map : He.DefD := ⟨("_law_map", none), "_law_map", "_law_map", defArgs s__law_map, defBody s__law_map, defScope s__law_map, [], []⟩
def D__law_deed : He.DefD := ⟨("_law_deed", none), "_law_deed", "_law_deed", defArgs s__law_deed, defBody s__law_deed, defScope s__law_deed, [], []⟩
def D__law_spoilt : He.DefD := ⟨("_law_spoilt", none), "_law_spoilt", "_law_spoilt", defArgs s__law_spoilt, defBody s__law_spoilt, defScope s__law_spoilt, [], []⟩
def D__law_by_hand : He.DefD := ⟨("_law_by_hand", none), "_law_by_hand", "_law_by_hand", defArgs s__law_by_hand, defBody s__law_by_hand, defScope s__law_by_hand, [], []⟩
def D_law : He.DefD := ⟨("law", none), "law", "law", defArgs s_law, defBody s_law, defScope s_law, [], []⟩
def fnL : List He.DefD := [D_is_name, D_is_bits, D_NoTextD_initD, D_is_whole, D_is_number, D_is_run, D_is_part, D_joined, D_NumberSetD_initD, D_NumberSetD_eqD, D_NumberSet_parts, D_NumberSet_has, D_NumberSet_least, D_set_of, D_is_range, D_are_apart, D_is_map, D_in_order, D_RangeMapD_initD, D_RangeMapD_eqD, D_RangeMap_ranges, D_RangeMap_value, D_RangeMap_insides, D_is_entry, D_is_deed, D_are_ranges, D_whole_of, D_is_short, D_ranges_text, D_entry_text, D_deed_text, D_ranges_of, D_entry_of, D_deed_of, D_read_deed, D__law_cell_at, D__law_digit, D__law_one, D__law_word, D__law_tried, D__law_bits, D__law_whole, D__law_map, D__law_deed, D__law_spoilt, D__law_by_hand, D_law]
def faL : List He.Fa := [.glo "is_name", .glo "is_bits", .glo "is_whole", .glo "is_number", .glo "is_run", .glo "is_part", .glo "joined", .glo "set_of", .glo "is_range", .glo "are_apart", .glo "is_map", .glo "in_order", .glo "is_entry", .glo "is_deed", .glo "are_ranges", .glo "whole_of", .glo "is_short", .glo "ranges_text", .glo "entry_text", .glo "deed_text", .glo "ranges_of", .glo "entry_of", .glo "deed_of", .glo "read_deed", .glo "_law_cell_at", .glo "_law_digit", .glo "_law_one", .glo "_law_word", .glo "_law_tried", .glo "_law_bits", .glo "_law_whole", .glo "_law_map", .glo "_law_deed", .glo "_law_spoilt", .glo "_law_by_hand", .glo "law", .glo "NumberSet", .glo "RangeMap", .glo "SelfError", .glo "NoSet", .glo "NoMap", .glo "NoRoom", .glo "NoProcess", .glo "NoFile", .glo "NoDeed", .glo "NoUser", .glo "NoRight", .glo "TooDeep", .glo "Written", .glo "Taken", .glo "NoLine", .glo "NoText", .str "LETTERS" "abcdefghijklmnopqrstuvwxyz", .str "MARKS" "rwxRWXS", .int "MOST_LETTERS" (8), .int "TOP" (4294967295), .int "MOST_ROWS" (2000), .int "MOST_RANGES" (50), .int "MOST_FIGURES" (60), .glo "FORMS", .free "ValueError", .free "all", .free "sorted", .free "range", .free "int", .free "isinstance", .free "str", .free "tuple", .free "list", .free "len", .free "bool", .free "abs", .free "zip", .free "max", .cls "NumberSet", .noat "NumberSet" "rows", .meth "NumberSet" "__init__", .meth "NumberSet" "__eq__", .meth "NumberSet" "parts", .meth "NumberSet" "has", .meth "NumberSet" "least", .mkr "NumberSet", .cls "RangeMap", .noat "RangeMap" "rows", .meth "RangeMap" "__init__", .meth "RangeMap" "__eq__", .meth "RangeMap" "ranges", .meth "RangeMap" "value", .meth "RangeMap" "insides", .mkr "RangeMap", .exc "SelfError", .exc "NoSet", .exm "NoSet" "SelfError" true, .exc "NoMap", .exm "NoMap" "SelfError" true, .exc "NoRoom", .exm "NoRoom" "SelfError" true, .exc "NoProcess", .exm "NoProcess" "SelfError" true, .exc "NoFile", .exm "NoFile" "SelfError" true, .exc "NoDeed", .exm "NoDeed" "SelfError" true, .exc "NoUser", .exm "NoUser" "SelfError" true, .exc "NoRight", .exm "NoRight" "SelfError" true, .exc "TooDeep", .exm "TooDeep" "SelfError" true, .exc "Written", .exm "Written" "SelfError" true, .exc "Taken", .exm "Taken" "SelfError" true, .exc "NoLine", .exm "NoLine" "SelfError" true, .exm "NoText" "SelfError" true]
def tbL : List He.Tab := [(fun K => He.ga K "FORMS", ["fork", "drop", "end", "set", "exec", "unshare", "join", "map", "create", "remove", "bits", "own", "read", "write"])]
abbrev R : PySem.W.OpenRow := PySem.W.OpenLaw.row PySem.Challenge.rw_mappedselves_k86_what_is_no_text_of_a_de
def tab_FORMS : List (Str × He.Dv) := [("fork", .str ""), ("drop", .str ""), ("end", .str "i"), ("set", .str "uuu"), ("exec", .str "n"), ("unshare", .str ""), ("join", .str "i"), ("map", .str "ir"), ("create", .str "nb"), ("remove", .str "n"), ("bits", .str "nb"), ("own", .str "nu"), ("read", .str "n"), ("write", .str "n")]
def excL : List Str := [("NoSet" : Str), ("NoMap" : Str), ("NoRoom" : Str), ("NoProcess" : Str), ("NoFile" : Str), ("NoDeed" : Str), ("NoUser" : Str), ("NoRight" : Str)] ++ [("TooDeep" : Str), ("Written" : Str), ("Taken" : Str), ("NoLine" : Str), ("NoText" : Str)]
def wdL : List Str := [("NoDeed" : Str), ("NoProcess" : Str), ("NoRoom" : Str), ("NoFile" : Str), ("NoUser" : Str), ("NoRight" : Str), ("NoMap" : Str), ("Written" : Str)] ++ [("NoLine" : Str), ("NoText" : Str), ("Taken" : Str), ("TooDeep" : Str)]
def exB (K : PySem.W.Frag) : Bool := (He.valsB K (He.ga K "FORMS") tab_FORMS) && (clsB K (He.ga K "NumberSet")) && (clsB K (He.ga K "RangeMap")) && (lineB K) && (excsB K excL wdL)
theorem exB_tab0 {K : PySem.W.Frag} (h : exB K = true) : He.valsB K (He.ga K "FORMS") tab_FORMS = true := by
  simp only [exB, Bool.and_eq_true] at h
  exact h.1.1.1.1
theorem exB_NumberSet {K : PySem.W.Frag} (h : exB K = true) : clsB K (He.ga K "NumberSet") = true := by
  simp only [exB, Bool.and_eq_true] at h
  exact h.1.1.1.2
theorem exB_RangeMap {K : PySem.W.Frag} (h : exB K = true) : clsB K (He.ga K "RangeMap") = true := by
  simp only [exB, Bool.and_eq_true] at h
  exact h.1.1.2
theorem exB_line {K : PySem.W.Frag} (h : exB K = true) : lineB K = true := by
  simp only [exB, Bool.and_eq_true] at h
  exact h.1.2
theorem exB_exc {K : PySem.W.Frag} (h : exB K = true) : excsB K excL wdL = true := by
  simp only [exB, Bool.and_eq_true] at h
  exact h.2
def tfL : List He.Defn := [("law", none)]
abbrev n_is_name : List Str := ["value", "letter"]
abbrev p_is_name : List Str := ["value"]
theorem sc_is_name : FnScope n_is_name p_is_name (defScope s_is_name) := ⟨rfl, rfl, rfl, by decide +kernel, rfl, by decide +kernel, by decide +kernel⟩
abbrev n_is_bits : List Str := ["value", "letter"]
abbrev p_is_bits : List Str := ["value"]
theorem sc_is_bits : FnScope n_is_bits p_is_bits (defScope s_is_bits) := ⟨rfl, rfl, rfl, by decide +kernel, rfl, by decide +kernel, by decide +kernel⟩
abbrev n_NoTextD_initD : List Str := ["self", "line"]
abbrev p_NoTextD_initD : List Str := ["self", "line"]
theorem sc_NoTextD_initD : FnScope n_NoTextD_initD p_NoTextD_initD (defScope s_NoTextD_initD) := ⟨rfl, rfl, rfl, by decide +kernel, rfl, by decide +kernel, by decide +kernel⟩
abbrev n_is_whole : List Str := ["value"]
abbrev p_is_whole : List Str := ["value"]
theorem sc_is_whole : FnScope n_is_whole p_is_whole (defScope s_is_whole) := ⟨rfl, rfl, rfl, by decide +kernel, rfl, by decide +kernel, by decide +kernel⟩
abbrev n_is_number : List Str := ["value"]
abbrev p_is_number : List Str := ["value"]
theorem sc_is_number : FnScope n_is_number p_is_number (defScope s_is_number) := ⟨rfl, rfl, rfl, by decide +kernel, rfl, by decide +kernel, by decide +kernel⟩
abbrev n_is_run : List Str := ["first", "count"]
abbrev p_is_run : List Str := ["first", "count"]
theorem sc_is_run : FnScope n_is_run p_is_run (defScope s_is_run) := ⟨rfl, rfl, rfl, by decide +kernel, rfl, by decide +kernel, by decide +kernel⟩
abbrev n_is_part : List Str := ["value"]
abbrev p_is_part : List Str := ["value"]
theorem sc_is_part : FnScope n_is_part p_is_part (defScope s_is_part) := ⟨rfl, rfl, rfl, by decide +kernel, rfl, by decide +kernel, by decide +kernel⟩
abbrev n_joined : List Str := ["parts", "found", "first", "count", "last", "many"]
abbrev p_joined : List Str := ["parts"]
theorem sc_joined : FnScope n_joined p_joined (defScope s_joined) := ⟨rfl, rfl, rfl, by decide +kernel, rfl, by decide +kernel, by decide +kernel⟩
abbrev n_NumberSetD_initD : List Str := ["self", "parts", "part"]
abbrev p_NumberSetD_initD : List Str := ["self", "parts"]
theorem sc_NumberSetD_initD : FnScope n_NumberSetD_initD p_NumberSetD_initD (defScope s_NumberSetD_initD) := ⟨rfl, rfl, rfl, by decide +kernel, rfl, by decide +kernel, by decide +kernel⟩
abbrev n_NumberSetD_eqD : List Str := ["self", "other"]
abbrev p_NumberSetD_eqD : List Str := ["self", "other"]
theorem sc_NumberSetD_eqD : FnScope n_NumberSetD_eqD p_NumberSetD_eqD (defScope s_NumberSetD_eqD) := ⟨rfl, rfl, rfl, by decide +kernel, rfl, by decide +kernel, by decide +kernel⟩
abbrev n_NumberSet_parts : List Str := ["self"]
abbrev p_NumberSet_parts : List Str := ["self"]
theorem sc_NumberSet_parts : FnScope n_NumberSet_parts p_NumberSet_parts (defScope s_NumberSet_parts) := ⟨rfl, rfl, rfl, by decide +kernel, rfl, by decide +kernel, by decide +kernel⟩
abbrev n_NumberSet_has : List Str := ["self", "number", "low", "high", "middle", "first", "count"]
abbrev p_NumberSet_has : List Str := ["self", "number"]
theorem sc_NumberSet_has : FnScope n_NumberSet_has p_NumberSet_has (defScope s_NumberSet_has) := ⟨rfl, rfl, rfl, by decide +kernel, rfl, by decide +kernel, by decide +kernel⟩
abbrev n_NumberSet_least : List Str := ["self"]
abbrev p_NumberSet_least : List Str := ["self"]
theorem sc_NumberSet_least : FnScope n_NumberSet_least p_NumberSet_least (defScope s_NumberSet_least) := ⟨rfl, rfl, rfl, by decide +kernel, rfl, by decide +kernel, by decide +kernel⟩
abbrev n_set_of : List Str := ["parts", "found"]
abbrev p_set_of : List Str := ["parts"]
theorem sc_set_of : FnScope n_set_of p_set_of (defScope s_set_of) := ⟨rfl, rfl, rfl, by decide +kernel, rfl, by decide +kernel, by decide +kernel⟩
abbrev n_is_range : List Str := ["value"]
abbrev p_is_range : List Str := ["value"]
theorem sc_is_range : FnScope n_is_range p_is_range (defScope s_is_range) := ⟨rfl, rfl, rfl, by decide +kernel, rfl, by decide +kernel, by decide +kernel⟩
abbrev n_are_apart : List Str := ["rows", "k"]
abbrev p_are_apart : List Str := ["rows"]
theorem sc_are_apart : FnScope n_are_apart p_are_apart (defScope s_are_apart) := ⟨rfl, rfl, rfl, by decide +kernel, rfl, by decide +kernel, by decide +kernel⟩
abbrev n_is_map : List Str := ["value", "one", "insides", "inside", "outside", "count"]
abbrev p_is_map : List Str := ["value"]
theorem sc_is_map : FnScope n_is_map p_is_map (defScope s_is_map) := ⟨rfl, rfl, rfl, by decide +kernel, rfl, by decide +kernel, by decide +kernel⟩
abbrev n_in_order : List Str := ["ranges", "found", "inside", "outside", "count", "first", "goal", "many"]
abbrev p_in_order : List Str := ["ranges"]
theorem sc_in_order : FnScope n_in_order p_in_order (defScope s_in_order) := ⟨rfl, rfl, rfl, by decide +kernel, rfl, by decide +kernel, by decide +kernel⟩
abbrev n_RangeMapD_initD : List Str := ["self", "ranges"]
abbrev p_RangeMapD_initD : List Str := ["self", "ranges"]
theorem sc_RangeMapD_initD : FnScope n_RangeMapD_initD p_RangeMapD_initD (defScope s_RangeMapD_initD) := ⟨rfl, rfl, rfl, by decide +kernel, rfl, by decide +kernel, by decide +kernel⟩
abbrev n_RangeMapD_eqD : List Str := ["self", "other"]
abbrev p_RangeMapD_eqD : List Str := ["self", "other"]
theorem sc_RangeMapD_eqD : FnScope n_RangeMapD_eqD p_RangeMapD_eqD (defScope s_RangeMapD_eqD) := ⟨rfl, rfl, rfl, by decide +kernel, rfl, by decide +kernel, by decide +kernel⟩
abbrev n_RangeMap_ranges : List Str := ["self"]
abbrev p_RangeMap_ranges : List Str := ["self"]
theorem sc_RangeMap_ranges : FnScope n_RangeMap_ranges p_RangeMap_ranges (defScope s_RangeMap_ranges) := ⟨rfl, rfl, rfl, by decide +kernel, rfl, by decide +kernel, by decide +kernel⟩
abbrev n_RangeMap_value : List Str := ["self", "number", "low", "high", "middle", "inside", "outside", "count"]
abbrev p_RangeMap_value : List Str := ["self", "number"]
theorem sc_RangeMap_value : FnScope n_RangeMap_value p_RangeMap_value (defScope s_RangeMap_value) := ⟨rfl, rfl, rfl, by decide +kernel, rfl, by decide +kernel, by decide +kernel⟩
abbrev n_RangeMap_insides : List Str := ["self", "inside", "outside", "count"]
abbrev p_RangeMap_insides : List Str := ["self"]
theorem sc_RangeMap_insides : FnScope n_RangeMap_insides p_RangeMap_insides (defScope s_RangeMap_insides) := ⟨rfl, rfl, rfl, by decide +kernel, rfl, by decide +kernel, by decide +kernel⟩
abbrev n_is_entry : List Str := ["value", "kind"]
abbrev p_is_entry : List Str := ["value", "kind"]
theorem sc_is_entry : FnScope n_is_entry p_is_entry (defScope s_is_entry) := ⟨rfl, rfl, rfl, by decide +kernel, rfl, by decide +kernel, by decide +kernel⟩
abbrev n_is_deed : List Str := ["value", "form", "entry", "kind"]
abbrev p_is_deed : List Str := ["value"]
theorem sc_is_deed : FnScope n_is_deed p_is_deed (defScope s_is_deed) := ⟨rfl, rfl, rfl, by decide +kernel, rfl, by decide +kernel, by decide +kernel⟩
abbrev n_are_ranges : List Str := ["value"]
abbrev p_are_ranges : List Str := ["value"]
theorem sc_are_ranges : FnScope n_are_ranges p_are_ranges (defScope s_are_ranges) := ⟨rfl, rfl, rfl, by decide +kernel, rfl, by decide +kernel, by decide +kernel⟩
abbrev n_whole_of : List Str := ["word", "figures", "figure"]
abbrev p_whole_of : List Str := ["word"]
theorem sc_whole_of : FnScope n_whole_of p_whole_of (defScope s_whole_of) := ⟨rfl, rfl, rfl, by decide +kernel, rfl, by decide +kernel, by decide +kernel⟩
abbrev n_is_short : List Str := ["value"]
abbrev p_is_short : List Str := ["value"]
theorem sc_is_short : FnScope n_is_short p_is_short (defScope s_is_short) := ⟨rfl, rfl, rfl, by decide +kernel, rfl, by decide +kernel, by decide +kernel⟩
abbrev n_ranges_text : List Str := ["ranges", "number", "one"]
abbrev p_ranges_text : List Str := ["ranges"]
theorem sc_ranges_text : FnScope n_ranges_text p_ranges_text (defScope s_ranges_text) := ⟨rfl, rfl, rfl, by decide +kernel, rfl, by decide +kernel, by decide +kernel⟩
abbrev n_entry_text : List Str := ["entry", "kind"]
abbrev p_entry_text : List Str := ["entry", "kind"]
theorem sc_entry_text : FnScope n_entry_text p_entry_text (defScope s_entry_text) := ⟨rfl, rfl, rfl, by decide +kernel, rfl, by decide +kernel, by decide +kernel⟩
abbrev n_deed_text : List Str := ["deed", "form", "entry", "kind"]
abbrev p_deed_text : List Str := ["deed"]
theorem sc_deed_text : FnScope n_deed_text p_deed_text (defScope s_deed_text) := ⟨rfl, rfl, rfl, by decide +kernel, rfl, by decide +kernel, by decide +kernel⟩
abbrev n_ranges_of : List Str := ["word", "found", "part", "numbers", "figures"]
abbrev p_ranges_of : List Str := ["word"]
theorem sc_ranges_of : FnScope n_ranges_of p_ranges_of (defScope s_ranges_of) := ⟨rfl, rfl, rfl, by decide +kernel, rfl, by decide +kernel, by decide +kernel⟩
abbrev n_entry_of : List Str := ["word", "kind", "found"]
abbrev p_entry_of : List Str := ["word", "kind"]
theorem sc_entry_of : FnScope n_entry_of p_entry_of (defScope s_entry_of) := ⟨rfl, rfl, rfl, by decide +kernel, rfl, by decide +kernel, by decide +kernel⟩
abbrev n_deed_of : List Str := ["text", "words", "form", "found", "word", "kind"]
abbrev p_deed_of : List Str := ["text"]
theorem sc_deed_of : FnScope n_deed_of p_deed_of (defScope s_deed_of) := ⟨rfl, rfl, rfl, by decide +kernel, rfl, by decide +kernel, by decide +kernel⟩
abbrev n_read_deed : List Str := ["text", "found"]
abbrev p_read_deed : List Str := ["text"]
theorem sc_read_deed : FnScope n_read_deed p_read_deed (defScope s_read_deed) := ⟨rfl, rfl, rfl, by decide +kernel, rfl, by decide +kernel, by decide +kernel⟩
abbrev n__law_cell_at : List Str := ["_law_script", "_law_k"]
abbrev p__law_cell_at : List Str := ["_law_script", "_law_k"]
theorem sc__law_cell_at : FnScope n__law_cell_at p__law_cell_at (defScope s__law_cell_at) := ⟨rfl, rfl, rfl, by decide +kernel, rfl, by decide +kernel, by decide +kernel⟩
abbrev n__law_digit : List Str := ["_law_state", "_law_base", "_law_found", "_law_number"]
abbrev p__law_digit : List Str := ["_law_state", "_law_base"]
theorem sc__law_digit : FnScope n__law_digit p__law_digit (defScope s__law_digit) := ⟨rfl, rfl, rfl, by decide +kernel, rfl, by decide +kernel, by decide +kernel⟩
abbrev n__law_one : List Str := ["_law_state", "_law_some"]
abbrev p__law_one : List Str := ["_law_state", "_law_some"]
theorem sc__law_one : FnScope n__law_one p__law_one (defScope s__law_one) := ⟨rfl, rfl, rfl, by decide +kernel, rfl, by decide +kernel, by decide +kernel⟩
abbrev n__law_word : List Str := ["_law_e", "_law_found"]
abbrev p__law_word : List Str := ["_law_e"]
theorem sc__law_word : FnScope n__law_word p__law_word (defScope s__law_word) := ⟨rfl, rfl, rfl, by decide +kernel, rfl, by decide +kernel, by decide +kernel⟩
abbrev n__law_tried : List Str := ["_law_ask", "_law_found", "_law_e"]
abbrev p__law_tried : List Str := ["_law_ask"]
theorem sc__law_tried : FnScope n__law_tried p__law_tried (defScope s__law_tried) := ⟨rfl, rfl, rfl, by decide +kernel, rfl, by decide +kernel, by decide +kernel⟩
abbrev n__law_bits : List Str := ["_law_state", "_law_letter"]
abbrev p__law_bits : List Str := ["_law_state"]
theorem sc__law_bits : FnScope n__law_bits p__law_bits (defScope s__law_bits) := ⟨rfl, rfl, rfl, by decide +kernel, rfl, by decide +kernel, by decide +kernel⟩
abbrev n__law_whole : List Str := ["_law_state", "_law_some"]
abbrev p__law_whole : List Str := ["_law_state"]
theorem sc__law_whole : FnScope n__law_whole p__law_whole (defScope s__law_whole) := ⟨rfl, rfl, rfl, by decide +kernel, rfl, by decide +kernel, by decide +kernel⟩
abbrev n__law_map : List Str := ["_law_state", "_law_ranges", "_law_rows", "_law_inside", "_law_outside", "_law_turn", "_law_count", "_law_far", "_law_turned", "_law_number", "_law_row"]
abbrev p__law_map : List Str := ["_law_state"]
theorem sc__law_map : FnScope n__law_map p__law_map (defScope s__law_map) := ⟨rfl, rfl, rfl, by decide +kernel, rfl, by decide +kernel, by decide +kernel⟩
abbrev n__law_deed : List Str := ["_law_state", "_law_some", "_law_word_here", "_law_deed_here", "_law_turned", "_law_rows", "_law_text", "_law_room", "_law_head", "_law_words", "_law_k", "_law_entry"]
abbrev p__law_deed : List Str := ["_law_state"]
theorem sc__law_deed : FnScope n__law_deed p__law_deed (defScope s__law_deed) := ⟨rfl, rfl, rfl, by decide +kernel, rfl, by decide +kernel, by decide +kernel⟩
abbrev n__law_spoilt : List Str := ["_law_state", "_law_text", "_law_at", "_law_sign", "_law_some", "_law_words", "_law_place"]
abbrev p__law_spoilt : List Str := ["_law_state", "_law_text"]
theorem sc__law_spoilt : FnScope n__law_spoilt p__law_spoilt (defScope s__law_spoilt) := ⟨rfl, rfl, rfl, by decide +kernel, rfl, by decide +kernel, by decide +kernel⟩
abbrev n__law_by_hand : List Str := ["_law_found", "_law_more", "_law_k"]
abbrev p__law_by_hand : List Str := []
theorem sc__law_by_hand : FnScope n__law_by_hand p__law_by_hand (defScope s__law_by_hand) := ⟨rfl, rfl, rfl, by decide +kernel, rfl, by decide +kernel, by decide +kernel⟩
abbrev n_law : List Str := ["_law_script", "_law_cell", "_law_state", "_law_turn", "_law_bent", "_law_told", "_law_odd", "_law_most", "_law_k"]
abbrev p_law : List Str := ["_law_script"]
theorem sc_law : FnScope n_law p_law (defScope s_law) := ⟨rfl, rfl, rfl, by decide +kernel, rfl, by decide +kernel, by decide +kernel⟩
/-! ### what the top has written, by gen.py -/
structure Top (w : World) (K : PySem.W.Frag) (mg : Str → Option Value) : Prop where
  says : He.SaysT faL fnL tbL w K
  more : exB K = true
  ex : ∃ h, K.In h ∧ h.Ns mainGlobals mg
section
variable {w : World} {K : PySem.W.Frag} {mg : Str → Option Value}
theorem Top.gl_is_name (T : Top w K mg) : mg "is_name" = some (.ref (He.ga K "is_name")) := by
  obtain ⟨h, a, b⟩ := T.ex
  exact He.glo_ok a b (T.says.d.fact 0 (f := .glo "is_name") rfl)
theorem Top.gl_is_bits (T : Top w K mg) : mg "is_bits" = some (.ref (He.ga K "is_bits")) := by
  obtain ⟨h, a, b⟩ := T.ex
  exact He.glo_ok a b (T.says.d.fact 1 (f := .glo "is_bits") rfl)
theorem Top.gl_is_whole (T : Top w K mg) : mg "is_whole" = some (.ref (He.ga K "is_whole")) := by
  obtain ⟨h, a, b⟩ := T.ex
  exact He.glo_ok a b (T.says.d.fact 2 (f := .glo "is_whole") rfl)
theorem Top.gl_is_number (T : Top w K mg) : mg "is_number" = some (.ref (He.ga K "is_number")) := by
  obtain ⟨h, a, b⟩ := T.ex
  exact He.glo_ok a b (T.says.d.fact 3 (f := .glo "is_number") rfl)
theorem Top.gl_is_run (T : Top w K mg) : mg "is_run" = some (.ref (He.ga K "is_run")) := by
  obtain ⟨h, a, b⟩ := T.ex
  exact He.glo_ok a b (T.says.d.fact 4 (f := .glo "is_run") rfl)
theorem Top.gl_is_part (T : Top w K mg) : mg "is_part" = some (.ref (He.ga K "is_part")) := by
  obtain ⟨h, a, b⟩ := T.ex
  exact He.glo_ok a b (T.says.d.fact 5 (f := .glo "is_part") rfl)
theorem Top.gl_joined (T : Top w K mg) : mg "joined" = some (.ref (He.ga K "joined")) := by
  obtain ⟨h, a, b⟩ := T.ex
  exact He.glo_ok a b (T.says.d.fact 6 (f := .glo "joined") rfl)
theorem Top.gl_set_of (T : Top w K mg) : mg "set_of" = some (.ref (He.ga K "set_of")) := by
  obtain ⟨h, a, b⟩ := T.ex
  exact He.glo_ok a b (T.says.d.fact 7 (f := .glo "set_of") rfl)
theorem Top.gl_is_range (T : Top w K mg) : mg "is_range" = some (.ref (He.ga K "is_range")) := by
  obtain ⟨h, a, b⟩ := T.ex
  exact He.glo_ok a b (T.says.d.fact 8 (f := .glo "is_range") rfl)
theorem Top.gl_are_apart (T : Top w K mg) : mg "are_apart" = some (.ref (He.ga K "are_apart")) := by
  obtain ⟨h, a, b⟩ := T.ex
  exact He.glo_ok a b (T.says.d.fact 9 (f := .glo "are_apart") rfl)
theorem Top.gl_is_map (T : Top w K mg) : mg "is_map" = some (.ref (He.ga K "is_map")) := by
  obtain ⟨h, a, b⟩ := T.ex
  exact He.glo_ok a b (T.says.d.fact 10 (f := .glo "is_map") rfl)
theorem Top.gl_in_order (T : Top w K mg) : mg "in_order" = some (.ref (He.ga K "in_order")) := by
  obtain ⟨h, a, b⟩ := T.ex
  exact He.glo_ok a b (T.says.d.fact 11 (f := .glo "in_order") rfl)
theorem Top.gl_is_entry (T : Top w K mg) : mg "is_entry" = some (.ref (He.ga K "is_entry")) := by
  obtain ⟨h, a, b⟩ := T.ex
  exact He.glo_ok a b (T.says.d.fact 12 (f := .glo "is_entry") rfl)
theorem Top.gl_is_deed (T : Top w K mg) : mg "is_deed" = some (.ref (He.ga K "is_deed")) := by
  obtain ⟨h, a, b⟩ := T.ex
  exact He.glo_ok a b (T.says.d.fact 13 (f := .glo "is_deed") rfl)
theorem Top.gl_are_ranges (T : Top w K mg) : mg "are_ranges" = some (.ref (He.ga K "are_ranges")) := by
  obtain ⟨h, a, b⟩ := T.ex
  exact He.glo_ok a b (T.says.d.fact 14 (f := .glo "are_ranges") rfl)
theorem Top.gl_whole_of (T : Top w K mg) : mg "whole_of" = some (.ref (He.ga K "whole_of")) := by
  obtain ⟨h, a, b⟩ := T.ex
  exact He.glo_ok a b (T.says.d.fact 15 (f := .glo "whole_of") rfl)
theorem Top.gl_is_short (T : Top w K mg) : mg "is_short" = some (.ref (He.ga K "is_short")) := by
  obtain ⟨h, a, b⟩ := T.ex
  exact He.glo_ok a b (T.says.d.fact 16 (f := .glo "is_short") rfl)
theorem Top.gl_ranges_text (T : Top w K mg) : mg "ranges_text" = some (.ref (He.ga K "ranges_text")) := by
  obtain ⟨h, a, b⟩ := T.ex
  exact He.glo_ok a b (T.says.d.fact 17 (f := .glo "ranges_text") rfl)
theorem Top.gl_entry_text (T : Top w K mg) : mg "entry_text" = some (.ref (He.ga K "entry_text")) := by
  obtain ⟨h, a, b⟩ := T.ex
  exact He.glo_ok a b (T.says.d.fact 18 (f := .glo "entry_text") rfl)
theorem Top.gl_deed_text (T : Top w K mg) : mg "deed_text" = some (.ref (He.ga K "deed_text")) := by
  obtain ⟨h, a, b⟩ := T.ex
  exact He.glo_ok a b (T.says.d.fact 19 (f := .glo "deed_text") rfl)
theorem Top.gl_ranges_of (T : Top w K mg) : mg "ranges_of" = some (.ref (He.ga K "ranges_of")) := by
  obtain ⟨h, a, b⟩ := T.ex
  exact He.glo_ok a b (T.says.d.fact 20 (f := .glo "ranges_of") rfl)
theorem Top.gl_entry_of (T : Top w K mg) : mg "entry_of" = some (.ref (He.ga K "entry_of")) := by
  obtain ⟨h, a, b⟩ := T.ex
  exact He.glo_ok a b (T.says.d.fact 21 (f := .glo "entry_of") rfl)
theorem Top.gl_deed_of (T : Top w K mg) : mg "deed_of" = some (.ref (He.ga K "deed_of")) := by
  obtain ⟨h, a, b⟩ := T.ex
  exact He.glo_ok a b (T.says.d.fact 22 (f := .glo "deed_of") rfl)
theorem Top.gl_read_deed (T : Top w K mg) : mg "read_deed" = some (.ref (He.ga K "read_deed")) := by
  obtain ⟨h, a, b⟩ := T.ex
  exact He.glo_ok a b (T.says.d.fact 23 (f := .glo "read_deed") rfl)
theorem Top.gl__law_cell_at (T : Top w K mg) : mg "_law_cell_at" = some (.ref (He.ga K "_law_cell_at")) := by
  obtain ⟨h, a, b⟩ := T.ex
  exact He.glo_ok a b (T.says.d.fact 24 (f := .glo "_law_cell_at") rfl)
theorem Top.gl__law_digit (T : Top w K mg) : mg "_law_digit" = some (.ref (He.ga K "_law_digit")) := by
  obtain ⟨h, a, b⟩ := T.ex
  exact He.glo_ok a b (T.says.d.fact 25 (f := .glo "_law_digit") rfl)
theorem Top.gl__law_one (T : Top w K mg) : mg "_law_one" = some (.ref (He.ga K "_law_one")) := by
  obtain ⟨h, a, b⟩ := T.ex
  exact He.glo_ok a b (T.says.d.fact 26 (f := .glo "_law_one") rfl)
theorem Top.gl__law_word (T : Top w K mg) : mg "_law_word" = some (.ref (He.ga K "_law_word")) := by
  obtain ⟨h, a, b⟩ := T.ex
  exact He.glo_ok a b (T.says.d.fact 27 (f := .glo "_law_word") rfl)
theorem Top.gl__law_tried (T : Top w K mg) : mg "_law_tried" = some (.ref (He.ga K "_law_tried")) := by
  obtain ⟨h, a, b⟩ := T.ex
  exact He.glo_ok a b (T.says.d.fact 28 (f := .glo "_law_tried") rfl)
theorem Top.gl__law_bits (T : Top w K mg) : mg "_law_bits" = some (.ref (He.ga K "_law_bits")) := by
  obtain ⟨h, a, b⟩ := T.ex
  exact He.glo_ok a b (T.says.d.fact 29 (f := .glo "_law_bits") rfl)
theorem Top.gl__law_whole (T : Top w K mg) : mg "_law_whole" = some (.ref (He.ga K "_law_whole")) := by
  obtain ⟨h, a, b⟩ := T.ex
  exact He.glo_ok a b (T.says.d.fact 30 (f := .glo "_law_whole") rfl)
theorem Top.gl__law_map (T : Top w K mg) : mg "_law_map" = some (.ref (He.ga K "_law_map")) := by
  obtain ⟨h, a, b⟩ := T.ex
  exact He.glo_ok a b (T.says.d.fact 31 (f := .glo "_law_map") rfl)
theorem Top.gl__law_deed (T : Top w K mg) : mg "_law_deed" = some (.ref (He.ga K "_law_deed")) := by
  obtain ⟨h, a, b⟩ := T.ex
  exact He.glo_ok a b (T.says.d.fact 32 (f := .glo "_law_deed") rfl)
theorem Top.gl__law_spoilt (T : Top w K mg) : mg "_law_spoilt" = some (.ref (He.ga K "_law_spoilt")) := by
  obtain ⟨h, a, b⟩ := T.ex
  exact He.glo_ok a b (T.says.d.fact 33 (f := .glo "_law_spoilt") rfl)
theorem Top.gl__law_by_hand (T : Top w K mg) : mg "_law_by_hand" = some (.ref (He.ga K "_law_by_hand")) := by
  obtain ⟨h, a, b⟩ := T.ex
  exact He.glo_ok a b (T.says.d.fact 34 (f := .glo "_law_by_hand") rfl)
theorem Top.gl_law (T : Top w K mg) : mg "law" = some (.ref (He.ga K "law")) := by
  obtain ⟨h, a, b⟩ := T.ex
  exact He.glo_ok a b (T.says.d.fact 35 (f := .glo "law") rfl)
theorem Top.gl_NumberSet (T : Top w K mg) : mg "NumberSet" = some (.ref (He.ga K "NumberSet")) := by
  obtain ⟨h, a, b⟩ := T.ex
  exact He.glo_ok a b (T.says.d.fact 36 (f := .glo "NumberSet") rfl)
theorem Top.gl_RangeMap (T : Top w K mg) : mg "RangeMap" = some (.ref (He.ga K "RangeMap")) := by
  obtain ⟨h, a, b⟩ := T.ex
  exact He.glo_ok a b (T.says.d.fact 37 (f := .glo "RangeMap") rfl)
theorem Top.gl_SelfError (T : Top w K mg) : mg "SelfError" = some (.ref (He.ga K "SelfError")) := by
  obtain ⟨h, a, b⟩ := T.ex
  exact He.glo_ok a b (T.says.d.fact 38 (f := .glo "SelfError") rfl)
theorem Top.gl_NoSet (T : Top w K mg) : mg "NoSet" = some (.ref (He.ga K "NoSet")) := by
  obtain ⟨h, a, b⟩ := T.ex
  exact He.glo_ok a b (T.says.d.fact 39 (f := .glo "NoSet") rfl)
theorem Top.gl_NoMap (T : Top w K mg) : mg "NoMap" = some (.ref (He.ga K "NoMap")) := by
  obtain ⟨h, a, b⟩ := T.ex
  exact He.glo_ok a b (T.says.d.fact 40 (f := .glo "NoMap") rfl)
theorem Top.gl_NoRoom (T : Top w K mg) : mg "NoRoom" = some (.ref (He.ga K "NoRoom")) := by
  obtain ⟨h, a, b⟩ := T.ex
  exact He.glo_ok a b (T.says.d.fact 41 (f := .glo "NoRoom") rfl)
theorem Top.gl_NoProcess (T : Top w K mg) : mg "NoProcess" = some (.ref (He.ga K "NoProcess")) := by
  obtain ⟨h, a, b⟩ := T.ex
  exact He.glo_ok a b (T.says.d.fact 42 (f := .glo "NoProcess") rfl)
theorem Top.gl_NoFile (T : Top w K mg) : mg "NoFile" = some (.ref (He.ga K "NoFile")) := by
  obtain ⟨h, a, b⟩ := T.ex
  exact He.glo_ok a b (T.says.d.fact 43 (f := .glo "NoFile") rfl)
theorem Top.gl_NoDeed (T : Top w K mg) : mg "NoDeed" = some (.ref (He.ga K "NoDeed")) := by
  obtain ⟨h, a, b⟩ := T.ex
  exact He.glo_ok a b (T.says.d.fact 44 (f := .glo "NoDeed") rfl)
theorem Top.gl_NoUser (T : Top w K mg) : mg "NoUser" = some (.ref (He.ga K "NoUser")) := by
  obtain ⟨h, a, b⟩ := T.ex
  exact He.glo_ok a b (T.says.d.fact 45 (f := .glo "NoUser") rfl)
theorem Top.gl_NoRight (T : Top w K mg) : mg "NoRight" = some (.ref (He.ga K "NoRight")) := by
  obtain ⟨h, a, b⟩ := T.ex
  exact He.glo_ok a b (T.says.d.fact 46 (f := .glo "NoRight") rfl)
theorem Top.gl_TooDeep (T : Top w K mg) : mg "TooDeep" = some (.ref (He.ga K "TooDeep")) := by
  obtain ⟨h, a, b⟩ := T.ex
  exact He.glo_ok a b (T.says.d.fact 47 (f := .glo "TooDeep") rfl)
theorem Top.gl_Written (T : Top w K mg) : mg "Written" = some (.ref (He.ga K "Written")) := by
  obtain ⟨h, a, b⟩ := T.ex
  exact He.glo_ok a b (T.says.d.fact 48 (f := .glo "Written") rfl)
theorem Top.gl_Taken (T : Top w K mg) : mg "Taken" = some (.ref (He.ga K "Taken")) := by
  obtain ⟨h, a, b⟩ := T.ex
  exact He.glo_ok a b (T.says.d.fact 49 (f := .glo "Taken") rfl)
theorem Top.gl_NoLine (T : Top w K mg) : mg "NoLine" = some (.ref (He.ga K "NoLine")) := by
  obtain ⟨h, a, b⟩ := T.ex
  exact He.glo_ok a b (T.says.d.fact 50 (f := .glo "NoLine") rfl)
theorem Top.gl_NoText (T : Top w K mg) : mg "NoText" = some (.ref (He.ga K "NoText")) := by
  obtain ⟨h, a, b⟩ := T.ex
  exact He.glo_ok a b (T.says.d.fact 51 (f := .glo "NoText") rfl)
theorem Top.c_LETTERS (T : Top w K mg) : ∃ t, mg "LETTERS" = some (.str "abcdefghijklmnopqrstuvwxyz" t) := by
  obtain ⟨h, a, b⟩ := T.ex
  exact He.str_ok a b (T.says.d.fact 52 (f := .str "LETTERS" "abcdefghijklmnopqrstuvwxyz") rfl)
theorem Top.c_MARKS (T : Top w K mg) : ∃ t, mg "MARKS" = some (.str "rwxRWXS" t) := by
  obtain ⟨h, a, b⟩ := T.ex
  exact He.str_ok a b (T.says.d.fact 53 (f := .str "MARKS" "rwxRWXS") rfl)
theorem Top.c_MOST_LETTERS (T : Top w K mg) : ∃ t, mg "MOST_LETTERS" = some (.int (8) t) := by
  obtain ⟨h, a, b⟩ := T.ex
  exact He.int_ok a b (T.says.d.fact 54 (f := .int "MOST_LETTERS" (8)) rfl)
theorem Top.c_TOP (T : Top w K mg) : ∃ t, mg "TOP" = some (.int (4294967295) t) := by
  obtain ⟨h, a, b⟩ := T.ex
  exact He.int_ok a b (T.says.d.fact 55 (f := .int "TOP" (4294967295)) rfl)
theorem Top.c_MOST_ROWS (T : Top w K mg) : ∃ t, mg "MOST_ROWS" = some (.int (2000) t) := by
  obtain ⟨h, a, b⟩ := T.ex
  exact He.int_ok a b (T.says.d.fact 56 (f := .int "MOST_ROWS" (2000)) rfl)
theorem Top.c_MOST_RANGES (T : Top w K mg) : ∃ t, mg "MOST_RANGES" = some (.int (50) t) := by
  obtain ⟨h, a, b⟩ := T.ex
  exact He.int_ok a b (T.says.d.fact 57 (f := .int "MOST_RANGES" (50)) rfl)
theorem Top.c_MOST_FIGURES (T : Top w K mg) : ∃ t, mg "MOST_FIGURES" = some (.int (60) t) := by
  obtain ⟨h, a, b⟩ := T.ex
  exact He.int_ok a b (T.says.d.fact 58 (f := .int "MOST_FIGURES" (60)) rfl)
theorem Top.gl_FORMS (T : Top w K mg) : mg "FORMS" = some (.ref (He.ga K "FORMS")) := by
  obtain ⟨h, a, b⟩ := T.ex
  exact He.glo_ok a b (T.says.d.fact 59 (f := .glo "FORMS") rfl)
theorem Top.fr_ValueError (T : Top w K mg) : mg "ValueError" = none := by
  obtain ⟨h, a, b⟩ := T.ex
  exact He.free_ok a b (T.says.d.fact 60 (f := .free "ValueError") rfl)
theorem Top.fr_all (T : Top w K mg) : mg "all" = none := by
  obtain ⟨h, a, b⟩ := T.ex
  exact He.free_ok a b (T.says.d.fact 61 (f := .free "all") rfl)
theorem Top.fr_sorted (T : Top w K mg) : mg "sorted" = none := by
  obtain ⟨h, a, b⟩ := T.ex
  exact He.free_ok a b (T.says.d.fact 62 (f := .free "sorted") rfl)
theorem Top.fr_range (T : Top w K mg) : mg "range" = none := by
  obtain ⟨h, a, b⟩ := T.ex
  exact He.free_ok a b (T.says.d.fact 63 (f := .free "range") rfl)
theorem Top.fr_int (T : Top w K mg) : mg "int" = none := by
  obtain ⟨h, a, b⟩ := T.ex
  exact He.free_ok a b (T.says.d.fact 64 (f := .free "int") rfl)
theorem Top.fr_isinstance (T : Top w K mg) : mg "isinstance" = none := by
  obtain ⟨h, a, b⟩ := T.ex
  exact He.free_ok a b (T.says.d.fact 65 (f := .free "isinstance") rfl)
theorem Top.fr_str (T : Top w K mg) : mg "str" = none := by
  obtain ⟨h, a, b⟩ := T.ex
  exact He.free_ok a b (T.says.d.fact 66 (f := .free "str") rfl)
theorem Top.fr_tuple (T : Top w K mg) : mg "tuple" = none := by
  obtain ⟨h, a, b⟩ := T.ex
  exact He.free_ok a b (T.says.d.fact 67 (f := .free "tuple") rfl)
theorem Top.fr_list (T : Top w K mg) : mg "list" = none := by
  obtain ⟨h, a, b⟩ := T.ex
  exact He.free_ok a b (T.says.d.fact 68 (f := .free "list") rfl)
theorem Top.fr_len (T : Top w K mg) : mg "len" = none := by
  obtain ⟨h, a, b⟩ := T.ex
  exact He.free_ok a b (T.says.d.fact 69 (f := .free "len") rfl)
theorem Top.fr_bool (T : Top w K mg) : mg "bool" = none := by
  obtain ⟨h, a, b⟩ := T.ex
  exact He.free_ok a b (T.says.d.fact 70 (f := .free "bool") rfl)
theorem Top.fr_abs (T : Top w K mg) : mg "abs" = none := by
  obtain ⟨h, a, b⟩ := T.ex
  exact He.free_ok a b (T.says.d.fact 71 (f := .free "abs") rfl)
theorem Top.fr_zip (T : Top w K mg) : mg "zip" = none := by
  obtain ⟨h, a, b⟩ := T.ex
  exact He.free_ok a b (T.says.d.fact 72 (f := .free "zip") rfl)
theorem Top.fr_max (T : Top w K mg) : mg "max" = none := by
  obtain ⟨h, a, b⟩ := T.ex
  exact He.free_ok a b (T.says.d.fact 73 (f := .free "max") rfl)
theorem Top.cl_NumberSet (T : Top w K mg) : Cls K (He.ga K "NumberSet") := He.cls_ok (T.says.d.fact 74 (f := .cls "NumberSet") rfl)
theorem Top.ok_NumberSet (T : Top w K mg) : ClsOk K (He.ga K "NumberSet") := clsB_ok T.cl_NumberSet (exB_NumberSet T.more)
theorem Top.na_NumberSet_rows (T : Top w K mg) : NoAttr K (He.ga K "NumberSet") "rows" := He.noat_ok (T.says.d.fact 75 (f := .noat "NumberSet" "rows") rfl)
theorem Top.me_NumberSetD_initD (T : Top w K mg) : Meth K (He.ga K "NumberSet") "__init__" (He.ma K (He.ga K "NumberSet") "__init__") := He.meth_ok (T.says.d.fact 76 (f := .meth "NumberSet" "__init__") rfl)
theorem Top.me_NumberSetD_eqD (T : Top w K mg) : Meth K (He.ga K "NumberSet") "__eq__" (He.ma K (He.ga K "NumberSet") "__eq__") := He.meth_ok (T.says.d.fact 77 (f := .meth "NumberSet" "__eq__") rfl)
theorem Top.me_NumberSet_parts (T : Top w K mg) : Meth K (He.ga K "NumberSet") "parts" (He.ma K (He.ga K "NumberSet") "parts") := He.meth_ok (T.says.d.fact 78 (f := .meth "NumberSet" "parts") rfl)
theorem Top.me_NumberSet_has (T : Top w K mg) : Meth K (He.ga K "NumberSet") "has" (He.ma K (He.ga K "NumberSet") "has") := He.meth_ok (T.says.d.fact 79 (f := .meth "NumberSet" "has") rfl)
theorem Top.me_NumberSet_least (T : Top w K mg) : Meth K (He.ga K "NumberSet") "least" (He.ma K (He.ga K "NumberSet") "least") := He.meth_ok (T.says.d.fact 80 (f := .meth "NumberSet" "least") rfl)
theorem Top.m_NumberSet (T : Top w K mg) : Mk K (He.ga K "NumberSet") (He.ma K (He.ga K "NumberSet") "__init__") := He.mkr_ok (T.says.d.fact 81 (f := .mkr "NumberSet") rfl)
theorem Top.cl_RangeMap (T : Top w K mg) : Cls K (He.ga K "RangeMap") := He.cls_ok (T.says.d.fact 82 (f := .cls "RangeMap") rfl)
theorem Top.ok_RangeMap (T : Top w K mg) : ClsOk K (He.ga K "RangeMap") := clsB_ok T.cl_RangeMap (exB_RangeMap T.more)
theorem Top.na_RangeMap_rows (T : Top w K mg) : NoAttr K (He.ga K "RangeMap") "rows" := He.noat_ok (T.says.d.fact 83 (f := .noat "RangeMap" "rows") rfl)
theorem Top.me_RangeMapD_initD (T : Top w K mg) : Meth K (He.ga K "RangeMap") "__init__" (He.ma K (He.ga K "RangeMap") "__init__") := He.meth_ok (T.says.d.fact 84 (f := .meth "RangeMap" "__init__") rfl)
theorem Top.me_RangeMapD_eqD (T : Top w K mg) : Meth K (He.ga K "RangeMap") "__eq__" (He.ma K (He.ga K "RangeMap") "__eq__") := He.meth_ok (T.says.d.fact 85 (f := .meth "RangeMap" "__eq__") rfl)
theorem Top.me_RangeMap_ranges (T : Top w K mg) : Meth K (He.ga K "RangeMap") "ranges" (He.ma K (He.ga K "RangeMap") "ranges") := He.meth_ok (T.says.d.fact 86 (f := .meth "RangeMap" "ranges") rfl)
theorem Top.me_RangeMap_value (T : Top w K mg) : Meth K (He.ga K "RangeMap") "value" (He.ma K (He.ga K "RangeMap") "value") := He.meth_ok (T.says.d.fact 87 (f := .meth "RangeMap" "value") rfl)
theorem Top.me_RangeMap_insides (T : Top w K mg) : Meth K (He.ga K "RangeMap") "insides" (He.ma K (He.ga K "RangeMap") "insides") := He.meth_ok (T.says.d.fact 88 (f := .meth "RangeMap" "insides") rfl)
theorem Top.m_RangeMap (T : Top w K mg) : Mk K (He.ga K "RangeMap") (He.ma K (He.ga K "RangeMap") "__init__") := He.mkr_ok (T.says.d.fact 89 (f := .mkr "RangeMap") rfl)
theorem Top.x_SelfError (T : Top w K mg) : PySem.W.excIn K (He.ga K "SelfError") He.veBase "ValueError.__new__" = true ∧ PySem.W.keepIn K (.ref (He.ga K "SelfError")) = true ∧ PySem.W.subIn K (.ref (He.ga K "SelfError")) (.type "BaseException") = some true ∧ PySem.W.typeIn K (.ref (He.ga K "SelfError")) = some (.type "type") := He.exc_ok (T.says.d.fact 90 (f := .exc "SelfError") rfl)
theorem Top.x_NoSet (T : Top w K mg) : PySem.W.excIn K (He.ga K "NoSet") He.veBase "ValueError.__new__" = true ∧ PySem.W.keepIn K (.ref (He.ga K "NoSet")) = true ∧ PySem.W.subIn K (.ref (He.ga K "NoSet")) (.type "BaseException") = some true ∧ PySem.W.typeIn K (.ref (He.ga K "NoSet")) = some (.type "type") := He.exc_ok (T.says.d.fact 91 (f := .exc "NoSet") rfl)
theorem Top.xm_NoSet_SelfError (T : Top w K mg) : PySem.W.exmOne K (.ref (He.ga K "NoSet")) (.ref (He.ga K "SelfError")) = some true := He.exm_ok (T.says.d.fact 92 (f := .exm "NoSet" "SelfError" true) rfl)
theorem Top.x_NoMap (T : Top w K mg) : PySem.W.excIn K (He.ga K "NoMap") He.veBase "ValueError.__new__" = true ∧ PySem.W.keepIn K (.ref (He.ga K "NoMap")) = true ∧ PySem.W.subIn K (.ref (He.ga K "NoMap")) (.type "BaseException") = some true ∧ PySem.W.typeIn K (.ref (He.ga K "NoMap")) = some (.type "type") := He.exc_ok (T.says.d.fact 93 (f := .exc "NoMap") rfl)
theorem Top.xm_NoMap_SelfError (T : Top w K mg) : PySem.W.exmOne K (.ref (He.ga K "NoMap")) (.ref (He.ga K "SelfError")) = some true := He.exm_ok (T.says.d.fact 94 (f := .exm "NoMap" "SelfError" true) rfl)
theorem Top.x_NoRoom (T : Top w K mg) : PySem.W.excIn K (He.ga K "NoRoom") He.veBase "ValueError.__new__" = true ∧ PySem.W.keepIn K (.ref (He.ga K "NoRoom")) = true ∧ PySem.W.subIn K (.ref (He.ga K "NoRoom")) (.type "BaseException") = some true ∧ PySem.W.typeIn K (.ref (He.ga K "NoRoom")) = some (.type "type") := He.exc_ok (T.says.d.fact 95 (f := .exc "NoRoom") rfl)
theorem Top.xm_NoRoom_SelfError (T : Top w K mg) : PySem.W.exmOne K (.ref (He.ga K "NoRoom")) (.ref (He.ga K "SelfError")) = some true := He.exm_ok (T.says.d.fact 96 (f := .exm "NoRoom" "SelfError" true) rfl)
theorem Top.x_NoProcess (T : Top w K mg) : PySem.W.excIn K (He.ga K "NoProcess") He.veBase "ValueError.__new__" = true ∧ PySem.W.keepIn K (.ref (He.ga K "NoProcess")) = true ∧ PySem.W.subIn K (.ref (He.ga K "NoProcess")) (.type "BaseException") = some true ∧ PySem.W.typeIn K (.ref (He.ga K "NoProcess")) = some (.type "type") := He.exc_ok (T.says.d.fact 97 (f := .exc "NoProcess") rfl)
theorem Top.xm_NoProcess_SelfError (T : Top w K mg) : PySem.W.exmOne K (.ref (He.ga K "NoProcess")) (.ref (He.ga K "SelfError")) = some true := He.exm_ok (T.says.d.fact 98 (f := .exm "NoProcess" "SelfError" true) rfl)
theorem Top.x_NoFile (T : Top w K mg) : PySem.W.excIn K (He.ga K "NoFile") He.veBase "ValueError.__new__" = true ∧ PySem.W.keepIn K (.ref (He.ga K "NoFile")) = true ∧ PySem.W.subIn K (.ref (He.ga K "NoFile")) (.type "BaseException") = some true ∧ PySem.W.typeIn K (.ref (He.ga K "NoFile")) = some (.type "type") := He.exc_ok (T.says.d.fact 99 (f := .exc "NoFile") rfl)
theorem Top.xm_NoFile_SelfError (T : Top w K mg) : PySem.W.exmOne K (.ref (He.ga K "NoFile")) (.ref (He.ga K "SelfError")) = some true := He.exm_ok (T.says.d.fact 100 (f := .exm "NoFile" "SelfError" true) rfl)
theorem Top.x_NoDeed (T : Top w K mg) : PySem.W.excIn K (He.ga K "NoDeed") He.veBase "ValueError.__new__" = true ∧ PySem.W.keepIn K (.ref (He.ga K "NoDeed")) = true ∧ PySem.W.subIn K (.ref (He.ga K "NoDeed")) (.type "BaseException") = some true ∧ PySem.W.typeIn K (.ref (He.ga K "NoDeed")) = some (.type "type") := He.exc_ok (T.says.d.fact 101 (f := .exc "NoDeed") rfl)
theorem Top.xm_NoDeed_SelfError (T : Top w K mg) : PySem.W.exmOne K (.ref (He.ga K "NoDeed")) (.ref (He.ga K "SelfError")) = some true := He.exm_ok (T.says.d.fact 102 (f := .exm "NoDeed" "SelfError" true) rfl)
theorem Top.x_NoUser (T : Top w K mg) : PySem.W.excIn K (He.ga K "NoUser") He.veBase "ValueError.__new__" = true ∧ PySem.W.keepIn K (.ref (He.ga K "NoUser")) = true ∧ PySem.W.subIn K (.ref (He.ga K "NoUser")) (.type "BaseException") = some true ∧ PySem.W.typeIn K (.ref (He.ga K "NoUser")) = some (.type "type") := He.exc_ok (T.says.d.fact 103 (f := .exc "NoUser") rfl)
theorem Top.xm_NoUser_SelfError (T : Top w K mg) : PySem.W.exmOne K (.ref (He.ga K "NoUser")) (.ref (He.ga K "SelfError")) = some true := He.exm_ok (T.says.d.fact 104 (f := .exm "NoUser" "SelfError" true) rfl)
theorem Top.x_NoRight (T : Top w K mg) : PySem.W.excIn K (He.ga K "NoRight") He.veBase "ValueError.__new__" = true ∧ PySem.W.keepIn K (.ref (He.ga K "NoRight")) = true ∧ PySem.W.subIn K (.ref (He.ga K "NoRight")) (.type "BaseException") = some true ∧ PySem.W.typeIn K (.ref (He.ga K "NoRight")) = some (.type "type") := He.exc_ok (T.says.d.fact 105 (f := .exc "NoRight") rfl)
theorem Top.xm_NoRight_SelfError (T : Top w K mg) : PySem.W.exmOne K (.ref (He.ga K "NoRight")) (.ref (He.ga K "SelfError")) = some true := He.exm_ok (T.says.d.fact 106 (f := .exm "NoRight" "SelfError" true) rfl)
theorem Top.x_TooDeep (T : Top w K mg) : PySem.W.excIn K (He.ga K "TooDeep") He.veBase "ValueError.__new__" = true ∧ PySem.W.keepIn K (.ref (He.ga K "TooDeep")) = true ∧ PySem.W.subIn K (.ref (He.ga K "TooDeep")) (.type "BaseException") = some true ∧ PySem.W.typeIn K (.ref (He.ga K "TooDeep")) = some (.type "type") := He.exc_ok (T.says.d.fact 107 (f := .exc "TooDeep") rfl)
theorem Top.xm_TooDeep_SelfError (T : Top w K mg) : PySem.W.exmOne K (.ref (He.ga K "TooDeep")) (.ref (He.ga K "SelfError")) = some true := He.exm_ok (T.says.d.fact 108 (f := .exm "TooDeep" "SelfError" true) rfl)
theorem Top.x_Written (T : Top w K mg) : PySem.W.excIn K (He.ga K "Written") He.veBase "ValueError.__new__" = true ∧ PySem.W.keepIn K (.ref (He.ga K "Written")) = true ∧ PySem.W.subIn K (.ref (He.ga K "Written")) (.type "BaseException") = some true ∧ PySem.W.typeIn K (.ref (He.ga K "Written")) = some (.type "type") := He.exc_ok (T.says.d.fact 109 (f := .exc "Written") rfl)
theorem Top.xm_Written_SelfError (T : Top w K mg) : PySem.W.exmOne K (.ref (He.ga K "Written")) (.ref (He.ga K "SelfError")) = some true := He.exm_ok (T.says.d.fact 110 (f := .exm "Written" "SelfError" true) rfl)
theorem Top.x_Taken (T : Top w K mg) : PySem.W.excIn K (He.ga K "Taken") He.veBase "ValueError.__new__" = true ∧ PySem.W.keepIn K (.ref (He.ga K "Taken")) = true ∧ PySem.W.subIn K (.ref (He.ga K "Taken")) (.type "BaseException") = some true ∧ PySem.W.typeIn K (.ref (He.ga K "Taken")) = some (.type "type") := He.exc_ok (T.says.d.fact 111 (f := .exc "Taken") rfl)
theorem Top.xm_Taken_SelfError (T : Top w K mg) : PySem.W.exmOne K (.ref (He.ga K "Taken")) (.ref (He.ga K "SelfError")) = some true := He.exm_ok (T.says.d.fact 112 (f := .exm "Taken" "SelfError" true) rfl)
theorem Top.x_NoLine (T : Top w K mg) : PySem.W.excIn K (He.ga K "NoLine") He.veBase "ValueError.__new__" = true ∧ PySem.W.keepIn K (.ref (He.ga K "NoLine")) = true ∧ PySem.W.subIn K (.ref (He.ga K "NoLine")) (.type "BaseException") = some true ∧ PySem.W.typeIn K (.ref (He.ga K "NoLine")) = some (.type "type") := He.exc_ok (T.says.d.fact 113 (f := .exc "NoLine") rfl)
theorem Top.xm_NoLine_SelfError (T : Top w K mg) : PySem.W.exmOne K (.ref (He.ga K "NoLine")) (.ref (He.ga K "SelfError")) = some true := He.exm_ok (T.says.d.fact 114 (f := .exm "NoLine" "SelfError" true) rfl)
theorem Top.xm_NoText_SelfError (T : Top w K mg) : PySem.W.exmOne K (.ref (He.ga K "NoText")) (.ref (He.ga K "SelfError")) = some true := He.exm_ok (T.says.d.fact 115 (f := .exm "NoText" "SelfError" true) rfl)
theorem Top.k_FORMS (T : Top w K mg) : KTab K w (He.ga K "FORMS") (tab_FORMS.map fun q => (q.1, q.2.v K)) := by
  refine ktab_of ?_ (exB_tab0 T.more)
  have e : tbL.map (fun t => He.dicW K (t.1 K)) = tbL.map fun t => some (He.keysIn w.params t.2) := congrArg (fun z : He.AlT => z.2) T.says
  exact Option.some.inj (congrArg (fun l : List _ => l[0]?) e)
theorem Top.d_is_name (T : Top w K mg) : ∃ fd, FunD K "is_name" "is_name" (defArgs s_is_name) (defBody s_is_name) (defScope s_is_name) [] [] (He.ga K "is_name") fd := T.says.d.def_ 0 (d := D_is_name) rfl
theorem Top.d_is_bits (T : Top w K mg) : ∃ fd, FunD K "is_bits" "is_bits" (defArgs s_is_bits) (defBody s_is_bits) (defScope s_is_bits) [] [] (He.ga K "is_bits") fd := T.says.d.def_ 1 (d := D_is_bits) rfl
theorem Top.d_NoTextD_initD (T : Top w K mg) : ∃ fd, FunD K "__init__" "NoText.__init__" (defArgs s_NoTextD_initD) (defBody s_NoTextD_initD) (defScope s_NoTextD_initD) [.non] [] (He.ma K (He.ga K "NoText") "__init__") fd := T.says.d.def_ 2 (d := D_NoTextD_initD) rfl
theorem Top.d_is_whole (T : Top w K mg) : ∃ fd, FunD K "is_whole" "is_whole" (defArgs s_is_whole) (defBody s_is_whole) (defScope s_is_whole) [] [] (He.ga K "is_whole") fd := T.says.d.def_ 3 (d := D_is_whole) rfl
theorem Top.d_is_number (T : Top w K mg) : ∃ fd, FunD K "is_number" "is_number" (defArgs s_is_number) (defBody s_is_number) (defScope s_is_number) [] [] (He.ga K "is_number") fd := T.says.d.def_ 4 (d := D_is_number) rfl
theorem Top.d_is_run (T : Top w K mg) : ∃ fd, FunD K "is_run" "is_run" (defArgs s_is_run) (defBody s_is_run) (defScope s_is_run) [] [] (He.ga K "is_run") fd := T.says.d.def_ 5 (d := D_is_run) rfl
theorem Top.d_is_part (T : Top w K mg) : ∃ fd, FunD K "is_part" "is_part" (defArgs s_is_part) (defBody s_is_part) (defScope s_is_part) [] [] (He.ga K "is_part") fd := T.says.d.def_ 6 (d := D_is_part) rfl
theorem Top.d_joined (T : Top w K mg) : ∃ fd, FunD K "joined" "joined" (defArgs s_joined) (defBody s_joined) (defScope s_joined) [] [] (He.ga K "joined") fd := T.says.d.def_ 7 (d := D_joined) rfl
theorem Top.d_NumberSetD_initD (T : Top w K mg) : ∃ fd, FunD K "__init__" "NumberSet.__init__" (defArgs s_NumberSetD_initD) (defBody s_NumberSetD_initD) (defScope s_NumberSetD_initD) [] [] (He.ma K (He.ga K "NumberSet") "__init__") fd := T.says.d.def_ 8 (d := D_NumberSetD_initD) rfl
theorem Top.d_NumberSetD_eqD (T : Top w K mg) : ∃ fd, FunD K "__eq__" "NumberSet.__eq__" (defArgs s_NumberSetD_eqD) (defBody s_NumberSetD_eqD) (defScope s_NumberSetD_eqD) [] [] (He.ma K (He.ga K "NumberSet") "__eq__") fd := T.says.d.def_ 9 (d := D_NumberSetD_eqD) rfl
theorem Top.d_NumberSet_parts (T : Top w K mg) : ∃ fd, FunD K "parts" "NumberSet.parts" (defArgs s_NumberSet_parts) (defBody s_NumberSet_parts) (defScope s_NumberSet_parts) [] [] (He.ma K (He.ga K "NumberSet") "parts") fd := T.says.d.def_ 10 (d := D_NumberSet_parts) rfl
theorem Top.d_NumberSet_has (T : Top w K mg) : ∃ fd, FunD K "has" "NumberSet.has" (defArgs s_NumberSet_has) (defBody s_NumberSet_has) (defScope s_NumberSet_has) [] [] (He.ma K (He.ga K "NumberSet") "has") fd := T.says.d.def_ 11 (d := D_NumberSet_has) rfl
theorem Top.d_NumberSet_least (T : Top w K mg) : ∃ fd, FunD K "least" "NumberSet.least" (defArgs s_NumberSet_least) (defBody s_NumberSet_least) (defScope s_NumberSet_least) [] [] (He.ma K (He.ga K "NumberSet") "least") fd := T.says.d.def_ 12 (d := D_NumberSet_least) rfl
theorem Top.d_set_of (T : Top w K mg) : ∃ fd, FunD K "set_of" "set_of" (defArgs s_set_of) (defBody s_set_of) (defScope s_set_of) [] [] (He.ga K "set_of") fd := T.says.d.def_ 13 (d := D_set_of) rfl
theorem Top.d_is_range (T : Top w K mg) : ∃ fd, FunD K "is_range" "is_range" (defArgs s_is_range) (defBody s_is_range) (defScope s_is_range) [] [] (He.ga K "is_range") fd := T.says.d.def_ 14 (d := D_is_range) rfl
theorem Top.d_are_apart (T : Top w K mg) : ∃ fd, FunD K "are_apart" "are_apart" (defArgs s_are_apart) (defBody s_are_apart) (defScope s_are_apart) [] [] (He.ga K "are_apart") fd := T.says.d.def_ 15 (d := D_are_apart) rfl
theorem Top.d_is_map (T : Top w K mg) : ∃ fd, FunD K "is_map" "is_map" (defArgs s_is_map) (defBody s_is_map) (defScope s_is_map) [] [] (He.ga K "is_map") fd := T.says.d.def_ 16 (d := D_is_map) rfl
theorem Top.d_in_order (T : Top w K mg) : ∃ fd, FunD K "in_order" "in_order" (defArgs s_in_order) (defBody s_in_order) (defScope s_in_order) [] [] (He.ga K "in_order") fd := T.says.d.def_ 17 (d := D_in_order) rfl
theorem Top.d_RangeMapD_initD (T : Top w K mg) : ∃ fd, FunD K "__init__" "RangeMap.__init__" (defArgs s_RangeMapD_initD) (defBody s_RangeMapD_initD) (defScope s_RangeMapD_initD) [] [] (He.ma K (He.ga K "RangeMap") "__init__") fd := T.says.d.def_ 18 (d := D_RangeMapD_initD) rfl
theorem Top.d_RangeMapD_eqD (T : Top w K mg) : ∃ fd, FunD K "__eq__" "RangeMap.__eq__" (defArgs s_RangeMapD_eqD) (defBody s_RangeMapD_eqD) (defScope s_RangeMapD_eqD) [] [] (He.ma K (He.ga K "RangeMap") "__eq__") fd := T.says.d.def_ 19 (d := D_RangeMapD_eqD) rfl
theorem Top.d_RangeMap_ranges (T : Top w K mg) : ∃ fd, FunD K "ranges" "RangeMap.ranges" (defArgs s_RangeMap_ranges) (defBody s_RangeMap_ranges) (defScope s_RangeMap_ranges) [] [] (He.ma K (He.ga K "RangeMap") "ranges") fd := T.says.d.def_ 20 (d := D_RangeMap_ranges) rfl
theorem Top.d_RangeMap_value (T : Top w K mg) : ∃ fd, FunD K "value" "RangeMap.value" (defArgs s_RangeMap_value) (defBody s_RangeMap_value) (defScope s_RangeMap_value) [] [] (He.ma K (He.ga K "RangeMap") "value") fd := T.says.d.def_ 21 (d := D_RangeMap_value) rfl
theorem Top.d_RangeMap_insides (T : Top w K mg) : ∃ fd, FunD K "insides" "RangeMap.insides" (defArgs s_RangeMap_insides) (defBody s_RangeMap_insides) (defScope s_RangeMap_insides) [] [] (He.ma K (He.ga K "RangeMap") "insides") fd := T.says.d.def_ 22 (d := D_RangeMap_insides) rfl
theorem Top.d_is_entry (T : Top w K mg) : ∃ fd, FunD K "is_entry" "is_entry" (defArgs s_is_entry) (defBody s_is_entry) (defScope s_is_entry) [] [] (He.ga K "is_entry") fd := T.says.d.def_ 23 (d := D_is_entry) rfl
theorem Top.d_is_deed (T : Top w K mg) : ∃ fd, FunD K "is_deed" "is_deed" (defArgs s_is_deed) (defBody s_is_deed) (defScope s_is_deed) [] [] (He.ga K "is_deed") fd := T.says.d.def_ 24 (d := D_is_deed) rfl
theorem Top.d_are_ranges (T : Top w K mg) : ∃ fd, FunD K "are_ranges" "are_ranges" (defArgs s_are_ranges) (defBody s_are_ranges) (defScope s_are_ranges) [] [] (He.ga K "are_ranges") fd := T.says.d.def_ 25 (d := D_are_ranges) rfl
theorem Top.d_whole_of (T : Top w K mg) : ∃ fd, FunD K "whole_of" "whole_of" (defArgs s_whole_of) (defBody s_whole_of) (defScope s_whole_of) [] [] (He.ga K "whole_of") fd := T.says.d.def_ 26 (d := D_whole_of) rfl
theorem Top.d_is_short (T : Top w K mg) : ∃ fd, FunD K "is_short" "is_short" (defArgs s_is_short) (defBody s_is_short) (defScope s_is_short) [] [] (He.ga K "is_short") fd := T.says.d.def_ 27 (d := D_is_short) rfl
theorem Top.d_ranges_text (T : Top w K mg) : ∃ fd, FunD K "ranges_text" "ranges_text" (defArgs s_ranges_text) (defBody s_ranges_text) (defScope s_ranges_text) [] [] (He.ga K "ranges_text") fd := T.says.d.def_ 28 (d := D_ranges_text) rfl
theorem Top.d_entry_text (T : Top w K mg) : ∃ fd, FunD K "entry_text" "entry_text" (defArgs s_entry_text) (defBody s_entry_text) (defScope s_entry_text) [] [] (He.ga K "entry_text") fd := T.says.d.def_ 29 (d := D_entry_text) rfl
theorem Top.d_deed_text (T : Top w K mg) : ∃ fd, FunD K "deed_text" "deed_text" (defArgs s_deed_text) (defBody s_deed_text) (defScope s_deed_text) [] [] (He.ga K "deed_text") fd := T.says.d.def_ 30 (d := D_deed_text) rfl
theorem Top.d_ranges_of (T : Top w K mg) : ∃ fd, FunD K "ranges_of" "ranges_of" (defArgs s_ranges_of) (defBody s_ranges_of) (defScope s_ranges_of) [] [] (He.ga K "ranges_of") fd := T.says.d.def_ 31 (d := D_ranges_of) rfl
theorem Top.d_entry_of (T : Top w K mg) : ∃ fd, FunD K "entry_of" "entry_of" (defArgs s_entry_of) (defBody s_entry_of) (defScope s_entry_of) [] [] (He.ga K "entry_of") fd := T.says.d.def_ 32 (d := D_entry_of) rfl
theorem Top.d_deed_of (T : Top w K mg) : ∃ fd, FunD K "deed_of" "deed_of" (defArgs s_deed_of) (defBody s_deed_of) (defScope s_deed_of) [] [] (He.ga K "deed_of") fd := T.says.d.def_ 33 (d := D_deed_of) rfl
theorem Top.d_read_deed (T : Top w K mg) : ∃ fd, FunD K "read_deed" "read_deed" (defArgs s_read_deed) (defBody s_read_deed) (defScope s_read_deed) [] [] (He.ga K "read_deed") fd := T.says.d.def_ 34 (d := D_read_deed) rfl
theorem Top.d__law_cell_at (T : Top w K mg) : ∃ fd, FunD K "_law_cell_at" "_law_cell_at" (defArgs s__law_cell_at) (defBody s__law_cell_at) (defScope s__law_cell_at) [] [] (He.ga K "_law_cell_at") fd := T.says.d.def_ 35 (d := D__law_cell_at) rfl
theorem Top.d__law_digit (T : Top w K mg) : ∃ fd, FunD K "_law_digit" "_law_digit" (defArgs s__law_digit) (defBody s__law_digit) (defScope s__law_digit) [] [] (He.ga K "_law_digit") fd := T.says.d.def_ 36 (d := D__law_digit) rfl
theorem Top.d__law_one (T : Top w K mg) : ∃ fd, FunD K "_law_one" "_law_one" (defArgs s__law_one) (defBody s__law_one) (defScope s__law_one) [] [] (He.ga K "_law_one") fd := T.says.d.def_ 37 (d := D__law_one) rfl
theorem Top.d__law_word (T : Top w K mg) : ∃ fd, FunD K "_law_word" "_law_word" (defArgs s__law_word) (defBody s__law_word) (defScope s__law_word) [] [] (He.ga K "_law_word") fd := T.says.d.def_ 38 (d := D__law_word) rfl
theorem Top.d__law_tried (T : Top w K mg) : ∃ fd, FunD K "_law_tried" "_law_tried" (defArgs s__law_tried) (defBody s__law_tried) (defScope s__law_tried) [] [] (He.ga K "_law_tried") fd := T.says.d.def_ 39 (d := D__law_tried) rfl
theorem Top.d__law_bits (T : Top w K mg) : ∃ fd, FunD K "_law_bits" "_law_bits" (defArgs s__law_bits) (defBody s__law_bits) (defScope s__law_bits) [] [] (He.ga K "_law_bits") fd := T.says.d.def_ 40 (d := D__law_bits) rfl
theorem Top.d__law_whole (T : Top w K mg) : ∃ fd, FunD K "_law_whole" "_law_whole" (defArgs s__law_whole) (defBody s__law_whole) (defScope s__law_whole) [] [] (He.ga K "_law_whole") fd := T.says.d.def_ 41 (d := D__law_whole) rfl
theorem Top.d__law_map (T : Top w K mg) : ∃ fd, FunD K "_law_map" "_law_map" (defArgs s__law_map) (defBody s__law_map) (defScope s__law_map) [] [] (He.ga K "_law_map") fd := T.says.d.def_ 42 (d := D__law_map) rfl
theorem Top.d__law_deed (T : Top w K mg) : ∃ fd, FunD K "_law_deed" "_law_deed" (defArgs s__law_deed) (defBody s__law_deed) (defScope s__law_deed) [] [] (He.ga K "_law_deed") fd := T.says.d.def_ 43 (d := D__law_deed) rfl
theorem Top.d__law_spoilt (T : Top w K mg) : ∃ fd, FunD K "_law_spoilt" "_law_spoilt" (defArgs s__law_spoilt) (defBody s__law_spoilt) (defScope s__law_spoilt) [] [] (He.ga K "_law_spoilt") fd := T.says.d.def_ 44 (d := D__law_spoilt) rfl
theorem Top.d__law_by_hand (T : Top w K mg) : ∃ fd, FunD K "_law_by_hand" "_law_by_hand" (defArgs s__law_by_hand) (defBody s__law_by_hand) (defScope s__law_by_hand) [] [] (He.ga K "_law_by_hand") fd := T.says.d.def_ 45 (d := D__law_by_hand) rfl
theorem Top.d_law (T : Top w K mg) : ∃ fd, FunD K "law" "law" (defArgs s_law) (defBody s_law) (defScope s_law) [] [] (He.ga K "law") fd := T.says.d.def_ 46 (d := D_law) rfl
end
abbrev ktab_FORMS (K : PySem.W.Frag) : List (Str × V) := tab_FORMS.map fun q => (q.1, q.2.v K)
end G

set_option maxHeartbeats 4000000
namespace G
open PySem PySem.Spec PyProof.Rows L2

local macro_rules | `(tactic| walk_at "go") => `(tactic| ((conv => whnf); repeat ((first | refine isi_of (by first | assumption | exact trivial) ?_ | rw [Sto.put_same] | refine And.intro (by first | exact rfl | exact trivial | exact Nat.le_of_ble_eq_true rfl) ?_); (conv => whnf))))
local macro_rules | `(tactic| walk_at "wk") => `(tactic| ((repeat (walk_at "go"; first | refine optK_of (by first | assumption | exact Sto.put_same) ?_ | refine And.intro (by show (0 : Int) < _; decide) ?_ | refine And.intro (And.intro (by show (0 : Int) < _; decide) (by decide)) ?_ | refine And.intro (show CPow _ _ from ⟨by decide, by decide, by decide⟩) ?_)); try walk_at "go"))

section
variable {w : World} {K : PySem.W.Frag} {mg : Str → Option Value} {base : Heap}
/-! the class of a caught exception, told -/
def okW (c : Str) : Bool := decide (c ∈ excL)
theorem okW_mem {c : Str} (h : okW c = true) : c ∈ excL := of_decide_eq_true h
/-- one name, or none -/
def oneW (c g : Str) : List Da := if (c == g) = true then [.str g] else []
def oneS (c g : Str) : List Str := if (c == g) = true then [g] else []
theorem oneW_rep (c g : Str) : (List.replicate (if (c == g) = true then (1 : Int) else 0).toNat [Da.str g]).flatten = oneW c g := by
  unfold oneW
  cases c == g <;> rfl
theorem oneW_len (c g : Str) : (oneW c g).length ≤ 1 := by unfold oneW; split <;> simp
theorem oneW_strs {c g : Str} : strsO (oneW c g) = some (oneS c g) := by unfold oneW oneS; split <;> rfl
theorem oneS_sum (c : Str) {g : Str} (h : g.length ≤ 9) : ((oneS c g).map fun x : Str => x.length).sum ≤ 9 := by
  unfold oneS
  split
  · simpa using h
  · simp
theorem strsO_app : ∀ {a b : List Da} {x y : List Str}, strsO a = some x → strsO b = some y → strsO (a ++ b) = some (x ++ y)
  | [], b, x, y, h, h2 => by cases h; simpa using h2
  | d :: a, b, x, y, h, h2 => by
    cases d with
    | str z =>
      simp only [strsO, Option.map_eq_some_iff] at h
      obtain ⟨x', e, rfl⟩ := h
      show (strsO (a ++ b)).map (z :: ·) = _
      rw [strsO_app e h2]
      rfl
    | _ => cases h
theorem mul_one {b : Bool} : -(2 ^ 63) ≤ (if b = true then (1 : Int) else 0) ∧ (if b = true then (1 : Int) else 0) < 2 ^ 63 ∧ 1 * (if b = true then (1 : Int) else 0).toNat ≤ 100000 := by cases b <;> decide
def S__law_word (T : Top w K mg) (a0 D0 : Addr) (d0 : Option Addr) : SSt K :=
    (sSeq (sSet 1 (sOp oAdd (sOp oMul (sLst (sCons (sStr "NoDeed") sNil)) (sCB cInt (sCons (sCB (cIsP a0 D0 d0) (sCons (sVar 0) (sCons (sAdr (He.ga K "NoDeed")) sNil))) sNil))) (sOp oMul (sLst (sCons (sStr "NoProcess") sNil)) (sCB cInt (sCons (sCB (cIsP a0 D0 d0) (sCons (sVar 0) (sCons (sAdr (He.ga K "NoProcess")) sNil))) sNil)))))
    (sSeq (sSet 1 (sOp oAdd (sOp oAdd (sVar 1) (sOp oMul (sLst (sCons (sStr "NoRoom") sNil)) (sCB cInt (sCons (sCB (cIsP a0 D0 d0) (sCons (sVar 0) (sCons (sAdr (He.ga K "NoRoom")) sNil))) sNil)))) (sOp oMul (sLst (sCons (sStr "NoFile") sNil)) (sCB cInt (sCons (sCB (cIsP a0 D0 d0) (sCons (sVar 0) (sCons (sAdr (He.ga K "NoFile")) sNil))) sNil)))))
    (sSeq (sSet 1 (sOp oAdd (sOp oAdd (sVar 1) (sOp oMul (sLst (sCons (sStr "NoUser") sNil)) (sCB cInt (sCons (sCB (cIsP a0 D0 d0) (sCons (sVar 0) (sCons (sAdr (He.ga K "NoUser")) sNil))) sNil)))) (sOp oMul (sLst (sCons (sStr "NoRight") sNil)) (sCB cInt (sCons (sCB (cIsP a0 D0 d0) (sCons (sVar 0) (sCons (sAdr (He.ga K "NoRight")) sNil))) sNil)))))
    (sSeq (sSet 1 (sOp oAdd (sOp oAdd (sVar 1) (sOp oMul (sLst (sCons (sStr "NoMap") sNil)) (sCB cInt (sCons (sCB (cIsP a0 D0 d0) (sCons (sVar 0) (sCons (sAdr (He.ga K "NoMap")) sNil))) sNil)))) (sOp oMul (sLst (sCons (sStr "Written") sNil)) (sCB cInt (sCons (sCB (cIsP a0 D0 d0) (sCons (sVar 0) (sCons (sAdr (He.ga K "Written")) sNil))) sNil)))))
    (sSeq (sSet 1 (sOp oAdd (sOp oAdd (sVar 1) (sOp oMul (sLst (sCons (sStr "NoLine") sNil)) (sCB cInt (sCons (sCB (cIsP a0 D0 d0) (sCons (sVar 0) (sCons (sAdr (He.ga K "NoLine")) sNil))) sNil)))) (sOp oMul (sLst (sCons (sStr "NoText") sNil)) (sCB cInt (sCons (sCB (cIsP a0 D0 d0) (sCons (sVar 0) (sCons (sAdr (He.ga K "NoText")) sNil))) sNil)))))
    (sRet (sM1 mJoin (sStr "") (sOp oAdd (sOp oAdd (sVar 1) (sOp oMul (sLst (sCons (sStr "Taken") sNil)) (sCB cInt (sCons (sCB (cIsP a0 D0 d0) (sCons (sVar 0) (sCons (sAdr (He.ga K "Taken")) sNil))) sNil)))) (sOp oMul (sLst (sCons (sStr "TooDeep") sNil)) (sCB cInt (sCons (sCB (cIsP a0 D0 d0) (sCons (sVar 0) (sCons (sAdr (He.ga K "TooDeep")) sNil))) sNil)))))))))))
theorem rd__law_word (T : Top w K mg) {a : Addr} {c : Str} {d : Option Addr} {da : Da} {m : Sto} {R : Rk} (hc : okW c = true) (hm : match da with
      | .exc a' D' => a' = a ∧ D' = He.ga K c ∧ d = none
      | .exl a' D' dx _ => a' = a ∧ D' = He.ga K c ∧ d = some dx
      | _ => False) (h : R (.str (wdOf wdL c)) m) : (S__law_word T a (He.ga K c) d).w [some da, none] m (fun _ m' => R .non m') R noX noN noN := by
  have hk := (excsB_ok (exB_exc T.more) (okW_mem hc)).2.2
  have l_NoDeed := oneW_len c "NoDeed"
  have s_NoDeed := oneS_sum c (g := "NoDeed") (by decide +kernel)
  have l_NoProcess := oneW_len c "NoProcess"
  have s_NoProcess := oneS_sum c (g := "NoProcess") (by decide +kernel)
  have l_NoRoom := oneW_len c "NoRoom"
  have s_NoRoom := oneS_sum c (g := "NoRoom") (by decide +kernel)
  have l_NoFile := oneW_len c "NoFile"
  have s_NoFile := oneS_sum c (g := "NoFile") (by decide +kernel)
  have l_NoUser := oneW_len c "NoUser"
  have s_NoUser := oneS_sum c (g := "NoUser") (by decide +kernel)
  have l_NoRight := oneW_len c "NoRight"
  have s_NoRight := oneS_sum c (g := "NoRight") (by decide +kernel)
  have l_NoMap := oneW_len c "NoMap"
  have s_NoMap := oneS_sum c (g := "NoMap") (by decide +kernel)
  have l_Written := oneW_len c "Written"
  have s_Written := oneS_sum c (g := "Written") (by decide +kernel)
  have l_NoLine := oneW_len c "NoLine"
  have s_NoLine := oneS_sum c (g := "NoLine") (by decide +kernel)
  have l_NoText := oneW_len c "NoText"
  have s_NoText := oneS_sum c (g := "NoText") (by decide +kernel)
  have l_Taken := oneW_len c "Taken"
  have s_Taken := oneS_sum c (g := "Taken") (by decide +kernel)
  have l_TooDeep := oneW_len c "TooDeep"
  have s_TooDeep := oneS_sum c (g := "TooDeep") (by decide +kernel)
  walk_at "go"
  refine ⟨hm, _, hk "NoDeed" (by decide +kernel), ?_⟩
  walk_at "go"
  refine ⟨mul_one.1, mul_one.2.1, mul_one.2.2, ?_⟩
  rw [oneW_rep c "NoDeed"]
  walk_at "go"
  refine ⟨hm, _, hk "NoProcess" (by decide +kernel), ?_⟩
  walk_at "go"
  refine ⟨mul_one.1, mul_one.2.1, mul_one.2.2, ?_⟩
  rw [oneW_rep c "NoProcess"]
  walk_at "go"
  refine ⟨by (try simp only [List.length_append]); omega, ?_⟩
  walk_at "go"
  refine ⟨hm, _, hk "NoRoom" (by decide +kernel), ?_⟩
  walk_at "go"
  refine ⟨mul_one.1, mul_one.2.1, mul_one.2.2, ?_⟩
  rw [oneW_rep c "NoRoom"]
  walk_at "go"
  refine ⟨by (try simp only [List.length_append]); omega, ?_⟩
  walk_at "go"
  refine ⟨hm, _, hk "NoFile" (by decide +kernel), ?_⟩
  walk_at "go"
  refine ⟨mul_one.1, mul_one.2.1, mul_one.2.2, ?_⟩
  rw [oneW_rep c "NoFile"]
  walk_at "go"
  refine ⟨by (try simp only [List.length_append]); omega, ?_⟩
  walk_at "go"
  refine ⟨hm, _, hk "NoUser" (by decide +kernel), ?_⟩
  walk_at "go"
  refine ⟨mul_one.1, mul_one.2.1, mul_one.2.2, ?_⟩
  rw [oneW_rep c "NoUser"]
  walk_at "go"
  refine ⟨by (try simp only [List.length_append]); omega, ?_⟩
  walk_at "go"
  refine ⟨hm, _, hk "NoRight" (by decide +kernel), ?_⟩
  walk_at "go"
  refine ⟨mul_one.1, mul_one.2.1, mul_one.2.2, ?_⟩
  rw [oneW_rep c "NoRight"]
  walk_at "go"
  refine ⟨by (try simp only [List.length_append]); omega, ?_⟩
  walk_at "go"
  refine ⟨hm, _, hk "NoMap" (by decide +kernel), ?_⟩
  walk_at "go"
  refine ⟨mul_one.1, mul_one.2.1, mul_one.2.2, ?_⟩
  rw [oneW_rep c "NoMap"]
  walk_at "go"
  refine ⟨by (try simp only [List.length_append]); omega, ?_⟩
  walk_at "go"
  refine ⟨hm, _, hk "Written" (by decide +kernel), ?_⟩
  walk_at "go"
  refine ⟨mul_one.1, mul_one.2.1, mul_one.2.2, ?_⟩
  rw [oneW_rep c "Written"]
  walk_at "go"
  refine ⟨by (try simp only [List.length_append]); omega, ?_⟩
  walk_at "go"
  refine ⟨hm, _, hk "NoLine" (by decide +kernel), ?_⟩
  walk_at "go"
  refine ⟨mul_one.1, mul_one.2.1, mul_one.2.2, ?_⟩
  rw [oneW_rep c "NoLine"]
  walk_at "go"
  refine ⟨by (try simp only [List.length_append]); omega, ?_⟩
  walk_at "go"
  refine ⟨hm, _, hk "NoText" (by decide +kernel), ?_⟩
  walk_at "go"
  refine ⟨mul_one.1, mul_one.2.1, mul_one.2.2, ?_⟩
  rw [oneW_rep c "NoText"]
  walk_at "go"
  refine ⟨by (try simp only [List.length_append]); omega, ?_⟩
  walk_at "go"
  refine ⟨hm, _, hk "Taken" (by decide +kernel), ?_⟩
  walk_at "go"
  refine ⟨mul_one.1, mul_one.2.1, mul_one.2.2, ?_⟩
  rw [oneW_rep c "Taken"]
  walk_at "go"
  refine ⟨by (try simp only [List.length_append]); omega, ?_⟩
  walk_at "go"
  refine ⟨hm, _, hk "TooDeep" (by decide +kernel), ?_⟩
  walk_at "go"
  refine ⟨mul_one.1, mul_one.2.1, mul_one.2.2, ?_⟩
  rw [oneW_rep c "TooDeep"]
  walk_at "go"
  refine ⟨by (try simp only [List.length_append]); omega, ?_⟩
  walk_at "go"
  refine optK_of (strsO_app (strsO_app (strsO_app (strsO_app (strsO_app (strsO_app (strsO_app (strsO_app (strsO_app (strsO_app (strsO_app oneW_strs oneW_strs) oneW_strs) oneW_strs) oneW_strs) oneW_strs) oneW_strs) oneW_strs) oneW_strs) oneW_strs) oneW_strs) oneW_strs) ⟨?_, ?_⟩
  · have e0 : ("" : Str).length = 0 := by decide +kernel
    rw [e0]
    simp only [List.map_append, List.sum_append, Nat.mul_zero, Nat.add_zero]
    exact Nat.le_trans (m := 1000) (by omega) (by decide)
  · walk_at "go"
    have e : wdOf wdL c = Txt.join "" (((((((((((oneS c "NoDeed" ++ oneS c "NoProcess") ++ oneS c "NoRoom") ++ oneS c "NoFile") ++ oneS c "NoUser") ++ oneS c "NoRight") ++ oneS c "NoMap") ++ oneS c "Written") ++ oneS c "NoLine") ++ oneS c "NoText") ++ oneS c "Taken") ++ oneS c "TooDeep") := by
      unfold wdOf
      congr 1
      show (oneS c "NoDeed" ++ (oneS c "NoProcess" ++ (oneS c "NoRoom" ++ (oneS c "NoFile" ++ (oneS c "NoUser" ++ (oneS c "NoRight" ++ (oneS c "NoMap" ++ (oneS c "Written" ++ (oneS c "NoLine" ++ (oneS c "NoText" ++ (oneS c "Taken" ++ (oneS c "TooDeep" ++ [])))))))))))) = _
      simp only [List.append_assoc, List.append_nil]
    rw [← e]
    exact h
theorem okp__law_word (T : Top w K mg) : FnPAt R.prog w K mg base 1 (He.ga K "_law_word") "_law_e" (spWd K (wdOf wdL) okW) := by
  refine word_of T.d__law_word sc__law_word rfl (fun _ _ _ _ _ _ us hl => match us, hl with | [_], _ => rfl) (fun a D d => S__law_word T a D d) (fun c hc => (excsB_ok (exB_exc T.more) (okW_mem hc)).1) (fun cdv A outer s H a0 D0 d0 oe hr PX EC => ?_) (fun a c d da m R hc hm h => rd__law_word T hc hm h)
  apply PSs_eq
  · exact (pss_cons (ps_set (i := 1) sc__law_word.nd rfl (Or.inl rfl) (pe_op op_addU (pe_op op_mulU (pe_lst (pa_cons pe_str pa_nil)) (pe_callTy call_int1 (by rfl) T.fr_int (by decide +kernel) (pa_cons (pe_callB (call_isP EC PX) (by rfl) T.fr_isinstance (by decide +kernel) (pa_cons (pv 0) (pa_cons (pe_glob (v := .ref (He.ga _ "NoDeed")) (by rfl) T.gl_NoDeed rfl) pa_nil))) pa_nil))) (pe_op op_mulU (pe_lst (pa_cons pe_str pa_nil)) (pe_callTy call_int1 (by rfl) T.fr_int (by decide +kernel) (pa_cons (pe_callB (call_isP EC PX) (by rfl) T.fr_isinstance (by decide +kernel) (pa_cons (pv 0) (pa_cons (pe_glob (v := .ref (He.ga _ "NoProcess")) (by rfl) T.gl_NoProcess rfl) pa_nil))) pa_nil)))))
    (pss_cons (ps_set (i := 1) sc__law_word.nd rfl (Or.inl rfl) (pe_op op_addU (pe_op op_addU (pv 1) (pe_op op_mulU (pe_lst (pa_cons pe_str pa_nil)) (pe_callTy call_int1 (by rfl) T.fr_int (by decide +kernel) (pa_cons (pe_callB (call_isP EC PX) (by rfl) T.fr_isinstance (by decide +kernel) (pa_cons (pv 0) (pa_cons (pe_glob (v := .ref (He.ga _ "NoRoom")) (by rfl) T.gl_NoRoom rfl) pa_nil))) pa_nil)))) (pe_op op_mulU (pe_lst (pa_cons pe_str pa_nil)) (pe_callTy call_int1 (by rfl) T.fr_int (by decide +kernel) (pa_cons (pe_callB (call_isP EC PX) (by rfl) T.fr_isinstance (by decide +kernel) (pa_cons (pv 0) (pa_cons (pe_glob (v := .ref (He.ga _ "NoFile")) (by rfl) T.gl_NoFile rfl) pa_nil))) pa_nil)))))
    (pss_cons (ps_set (i := 1) sc__law_word.nd rfl (Or.inl rfl) (pe_op op_addU (pe_op op_addU (pv 1) (pe_op op_mulU (pe_lst (pa_cons pe_str pa_nil)) (pe_callTy call_int1 (by rfl) T.fr_int (by decide +kernel) (pa_cons (pe_callB (call_isP EC PX) (by rfl) T.fr_isinstance (by decide +kernel) (pa_cons (pv 0) (pa_cons (pe_glob (v := .ref (He.ga _ "NoUser")) (by rfl) T.gl_NoUser rfl) pa_nil))) pa_nil)))) (pe_op op_mulU (pe_lst (pa_cons pe_str pa_nil)) (pe_callTy call_int1 (by rfl) T.fr_int (by decide +kernel) (pa_cons (pe_callB (call_isP EC PX) (by rfl) T.fr_isinstance (by decide +kernel) (pa_cons (pv 0) (pa_cons (pe_glob (v := .ref (He.ga _ "NoRight")) (by rfl) T.gl_NoRight rfl) pa_nil))) pa_nil)))))
    (pss_cons (ps_set (i := 1) sc__law_word.nd rfl (Or.inl rfl) (pe_op op_addU (pe_op op_addU (pv 1) (pe_op op_mulU (pe_lst (pa_cons pe_str pa_nil)) (pe_callTy call_int1 (by rfl) T.fr_int (by decide +kernel) (pa_cons (pe_callB (call_isP EC PX) (by rfl) T.fr_isinstance (by decide +kernel) (pa_cons (pv 0) (pa_cons (pe_glob (v := .ref (He.ga _ "NoMap")) (by rfl) T.gl_NoMap rfl) pa_nil))) pa_nil)))) (pe_op op_mulU (pe_lst (pa_cons pe_str pa_nil)) (pe_callTy call_int1 (by rfl) T.fr_int (by decide +kernel) (pa_cons (pe_callB (call_isP EC PX) (by rfl) T.fr_isinstance (by decide +kernel) (pa_cons (pv 0) (pa_cons (pe_glob (v := .ref (He.ga _ "Written")) (by rfl) T.gl_Written rfl) pa_nil))) pa_nil)))))
    (pss_cons (ps_set (i := 1) sc__law_word.nd rfl (Or.inl rfl) (pe_op op_addU (pe_op op_addU (pv 1) (pe_op op_mulU (pe_lst (pa_cons pe_str pa_nil)) (pe_callTy call_int1 (by rfl) T.fr_int (by decide +kernel) (pa_cons (pe_callB (call_isP EC PX) (by rfl) T.fr_isinstance (by decide +kernel) (pa_cons (pv 0) (pa_cons (pe_glob (v := .ref (He.ga _ "NoLine")) (by rfl) T.gl_NoLine rfl) pa_nil))) pa_nil)))) (pe_op op_mulU (pe_lst (pa_cons pe_str pa_nil)) (pe_callTy call_int1 (by rfl) T.fr_int (by decide +kernel) (pa_cons (pe_callB (call_isP EC PX) (by rfl) T.fr_isinstance (by decide +kernel) (pa_cons (pv 0) (pa_cons (pe_glob (v := .ref (He.ga _ "NoText")) (by rfl) T.gl_NoText rfl) pa_nil))) pa_nil)))))
    (pss_one (ps_ret (pe_join pe_str (pe_op op_addU (pe_op op_addU (pv 1) (pe_op op_mulU (pe_lst (pa_cons pe_str pa_nil)) (pe_callTy call_int1 (by rfl) T.fr_int (by decide +kernel) (pa_cons (pe_callB (call_isP EC PX) (by rfl) T.fr_isinstance (by decide +kernel) (pa_cons (pv 0) (pa_cons (pe_glob (v := .ref (He.ga _ "Taken")) (by rfl) T.gl_Taken rfl) pa_nil))) pa_nil)))) (pe_op op_mulU (pe_lst (pa_cons pe_str pa_nil)) (pe_callTy call_int1 (by rfl) T.fr_int (by decide +kernel) (pa_cons (pe_callB (call_isP EC PX) (by rfl) T.fr_isinstance (by decide +kernel) (pa_cons (pv 0) (pa_cons (pe_glob (v := .ref (He.ga _ "TooDeep")) (by rfl) T.gl_TooDeep rfl) pa_nil))) pa_nil))))))))))))
  · kernel_rfl

end
end G

set_option maxHeartbeats 4000000
namespace G
open PySem PySem.Spec PyProof.Rows L2

local macro_rules | `(tactic| walk_at "go") => `(tactic| ((conv => whnf); repeat ((first | refine isi_of (by first | assumption | exact trivial) ?_ | rw [Sto.put_same] | refine And.intro (by first | exact rfl | exact trivial | exact Nat.le_of_ble_eq_true rfl) ?_); (conv => whnf))))
local macro_rules | `(tactic| walk_at "wk") => `(tactic| ((repeat (walk_at "go"; first | refine optK_of (by first | assumption | exact Sto.put_same) ?_ | refine And.intro (by show (0 : Int) < _; decide) ?_ | refine And.intro (And.intro (by show (0 : Int) < _; decide) (by decide)) ?_ | refine And.intro (show CPow _ _ from ⟨by decide, by decide, by decide⟩) ?_)); try walk_at "go"))

section
variable {w : World} {K : PySem.W.Frag} {mg : Str → Option Value} {base : Heap}
/-! asked within try -/
/-- the suite: found = (word(e), None) -/
def tsT (K : PySem.W.Frag) : Addr → Value → Option Addr → TS := fun a cls d => tAsg (tTup (tCons (tWord a cls d (spWd K (wdOf wdL) okW) (tVar 2)) (tCons (tC .non) tNil))) (gName 1)
theorem gives_tried (T : Top w K mg) {X : Cx} (e1 : X.prog = R.prog) (e2 : X.w = w) (e3 : X.K = K) (e4 : X.mg = mg) (e5 : X.base = base) {k : Nat} (hr : Room (k + 2) X.A) {q : Str} {cdg : Value} :
    LamX.GivesTo X n__law_tried "_law_tried" (defScope s__law_tried) (He.ga K "_law_tried") cdg (defBody s__law_tried) "_law_ask" q (tTried K (He.ga K "SelfError") (wdOf wdL) okW) := by
  intro f c' s H Q tl act hc h
  obtain ⟨Ech, hE, h⟩ := h
  obtain ⟨prog, w', K', mg', base', A, N, s0, H0, env, outer, stack, ex, fn, calm, pn, xe⟩ := X
  dsimp only at e1 e2 e3 e4 e5 hr act
  subst e1 e2 e3 e4 e5
  refine ⟨_, pss_cons (ps_set (i := 1) sc__law_tried.nd rfl (Or.inl rfl) pe_non) (pss_cons (ps_try_as (i := 2) (c := .ref (He.ga K' "SelfError"))
    (tb := fun W D σ H => (∀ cls d σ' H', Ech cls d H' → W cls d σ' H') ∧ tAsg (tTup (tCons (tC (.str "told")) (tCons (fun σZ HZ Q => σZ[0]? = some (some (.ref f)) ∧ HZ c' = some (LamX.CodeO c' q) ∧ tl Ech HZ Q) tNil))) (gName 1) D σ H)
    (ts := tsG 3 (tsT K')) rfl rfl sc__law_tried.nd rfl rfl ⟨rfl, by decide, .inl T.gl_SelfError⟩ LamX.takes0 (fun W pn xe tk _ => ?_) (fun a oe cls d pn hz hf => ?_)) (pss_one (ps_ret (pv 1)))), ?_⟩
  · refine ⟨fun pins s' σ H' D I h' => ?_⟩
    obtain ⟨hW, h'⟩ := h'
    exact (pss_one (ps_set (i := 1) sc__law_tried.nd rfl (Or.inl rfl) (pe_tup (pa_cons pe_str (pa_cons (act W pn xe Ech _ _ tk hW) pa_nil))))).run pins s' σ H' D I h'
  · have F := okp__law_word (base := base') T
    exact PSs.guard (pss_one (ps_set (i := 1) sc__law_tried.nd rfl (Or.inl rfl) (pe_tup (pa_cons (pe_callP F.ok (L2H.roomH_mark ((hr.deeper _).mono (Nat.succ_le_succ (Nat.zero_le k))) _) (List.mem_cons_self ..) hz hf rfl T.gl__law_word F.kp F.bd (pv 2)) (pa_cons pe_non pa_nil))))) rfl
  · refine ⟨fun cls d σ' H' he => ?_, ?_⟩
    · obtain ⟨D, rfl, hx, hw⟩ := hE cls d H' he
      refine ⟨true, hx, fun _ a ha hlen => ?_, nofun⟩
      have h3 : σ'.length = 3 := by rw [List.length_set] at hlen; exact hlen
      obtain ⟨c, k1, k2, I, m, k3, k4, k5⟩ := hw a
      refine ⟨.ref a, List.getElem?_set_self (by omega), rfl, D, rfl, c, k1, k2, I, m, k3, k4, fun H2 I2 g => ⟨Evl.sz_of (show 2 ≤ 100000 by decide), fun p hp => ⟨.ref p, ?_, k5 H2 I2 g p hp⟩⟩⟩
      rw [List.getElem?_set_ne (by decide), List.getElem?_set_self (by rw [List.length_set]; omega)]
    · exact ⟨rfl, hc, h⟩
/-- _law_tried(lambda: body) -/
theorem pe_triedL (T : Top w K mg) {X : Cx} (e1 : X.prog = R.prog) (e2 : X.w = w) (e3 : X.K = K) (e4 : X.mg = mg) (e5 : X.base = base) {k : Nat} (hr : Room (k + 2) X.A) {c P : Addr} {q : Str} (TB : LamX.TabB X.base X.mg c P) (hcode : X.env.code = .ref c) (hq : X.env.qual ++ "<lambda>" = q) (hg : Gl X "_law_tried")
    {params : Arguments} {body : Expr} {scope : Scope} {p lpos pos : Pos} {t : XK → TE} (L : LamX.LamS X.env.scope scope) (hdef : defaultsOf params X.env = ([], []))
    (hbind : ∀ (q : Str) (cl : List (Str × Addr)) (pm cv ctv : Value), bindArgs (PySem.W.kla_fn "<lambda>" q params body scope cl pm cv ctv) ⟨[], []⟩ = pure [])
    (hbody : ∀ (A : Around) (outer : List Env) (s : Shared) (H : Hp) (E : XK) (f c' : Addr), Room k (A.deeper (LamX.lamEnv X scope s.heap.objs.size f c')) → PE (LamX.lamCx X A outer s H E scope f c') body (t E)) :
    PE X (.Call (.Name "_law_tried" p) [.Lambda params body scope lpos] [] pos) (LamX.tLam [(P, q)] (tTried K (He.ga K "SelfError") (wdOf wdL) okW) t) := by
  obtain ⟨fd, F⟩ := T.d__law_tried
  have b := FunD.bindsN F (ps := ["_law_ask"]) (fun _ _ _ _ _ _ us hl => match us, hl with | [_], _ => rfl)
  obtain ⟨oc, od, dV, kV, doc, pm, an, cdv, ct, osl, rfl, lk, hcd, _, _⟩ := F.ex
  have G := gives_tried (base := base) T e1 e2 e3 e4 e5 hr (q := q) (cdg := cdv)
  subst e3
  exact LamX.pe_lamcall (T := [(P, q)]) hg (by rw [e4]; exact T.gl__law_tried) F.kp lk hcd b sc__law_tried rfl (.inl rfl) (by rw [hq]; exact G) TB hcode (by rw [hq]; simp) (fun p hp _ => by rw [hq, List.mem_singleton.mp hp]) hr L hdef hbind hbody

end
end G

set_option maxHeartbeats 4000000
namespace G
open PySem PySem.Spec PyProof.Rows L2

local macro_rules | `(tactic| walk_at "go") => `(tactic| ((conv => whnf); repeat ((first | refine isi_of (by first | assumption | exact trivial) ?_ | rw [Sto.put_same] | refine And.intro (by first | exact rfl | exact trivial | exact Nat.le_of_ble_eq_true rfl) ?_); (conv => whnf))))
local macro_rules | `(tactic| walk_at "wk") => `(tactic| ((repeat (walk_at "go"; first | refine optK_of (by first | assumption | exact Sto.put_same) ?_ | refine And.intro (by show (0 : Int) < _; decide) ?_ | refine And.intro (And.intro (by show (0 : Int) < _; decide) (by decide)) ?_ | refine And.intro (show CPow _ _ from ⟨by decide, by decide, by decide⟩) ?_)); try walk_at "go"))

section
variable {w : World} {K : PySem.W.Frag} {mg : Str → Option Value} {base : Heap}
/-! NoText, made and raised -/
theorem okx_NoText (T : Top w K mg) : FnOk R.prog w K mg base (L2.CX R.prog w) 1 (He.ma K (He.ga K "NoText") "__init__") (fdK K (He.ma K (He.ga K "NoText") "__init__")) p_NoTextD_initD (spLine K) := by
  obtain ⟨fd, F⟩ := T.d_NoTextD_initD
  have e := fdK_of F
  subst e
  obtain ⟨h1, h2, h3, h4, h5⟩ := lineB_ok (exB_line T.more)
  refine F.ok sc_NoTextD_initD (fun vs H Q E q => by obtain ⟨a, C, y, rfl, _⟩ := q; rfl) fun cdv A outer s H vs Q E hr q =>
    ⟨_, pss_cons (ps_expr (pe_seinit h2 rfl T.gl_SelfError (pa_cons (pv 0) (pa_cons pe_str pa_nil)))) (pss_one (ps_ost (pv 0) (pv 1))), ?_⟩
  obtain ⟨a, C, y, rfl, ha, hT, hf, hQ⟩ := q
  exact ⟨.ref a, rfl, a, C, _, rfl, by decide, hT, ha, y, rfl, .ref a, rfl, a, C, rfl, hT, hf, .inl ⟨ha, fun dx h1 h2 => hQ dx h1 h2⟩⟩
theorem raise_NoText0 (T : Top w K mg) {X : Cx} (e1 : X.prog = R.prog) (e2 : X.w = w) (e3 : X.K = K) (e4 : X.mg = mg) (hr : Room 2 X.A) (hg : Gl X "NoText") (hx : Passes (L2.CX X.prog X.w) X (fun _ _ _ => False)) {p pos : Pos} :
    PMk X (.Call (.Name "NoText" p) [] [] pos) (tMkO (He.ga K "NoText") (spLine K) [.non] tNil) := by
  obtain ⟨h1, h2, h3, h4, h5⟩ := lineB_ok (exB_line T.more)
  obtain ⟨fd, F⟩ := T.d_NoTextD_initD
  obtain ⟨ds, hd, hb⟩ := F.binds1 (ps := p_NoTextD_initD) 1 0 (by simp) rfl (fun T kV doc pm an cdv ct us its l1 l2 => by
    match us, its, l1, l2 with
    | [u], [d], _, _ => exact ⟨_, rfl, rfl⟩)
  have F1 := okx_NoText (base := X.base) T
  have e := fdK_of F
  subst e
  subst e2 e3 e4
  refine pmk_oex0 h1 h4 h5 (by rw [e1]; exact F1) hr hb hd (by rw [← e1]; exact hx) hg T.gl_NoText

end
end G

set_option maxHeartbeats 4000000
namespace G
open PySem PySem.Spec PyProof.Rows L2

local macro_rules | `(tactic| walk_at "go") => `(tactic| ((conv => whnf); repeat ((first | refine isi_of (by first | assumption | exact trivial) ?_ | rw [Sto.put_same] | refine And.intro (by first | exact rfl | exact trivial | exact Nat.le_of_ble_eq_true rfl) ?_); (conv => whnf))))
local macro_rules | `(tactic| walk_at "wk") => `(tactic| ((repeat (walk_at "go"; first | refine optK_of (by first | assumption | exact Sto.put_same) ?_ | refine And.intro (by show (0 : Int) < _; decide) ?_ | refine And.intro (And.intro (by show (0 : Int) < _; decide) (by decide)) ?_ | refine And.intro (show CPow _ _ from ⟨by decide, by decide, by decide⟩) ?_)); try walk_at "go"))

section
variable {w : World} {K : PySem.W.Frag} {mg : Str → Option Value} {base : Heap}
/-! whole numbers, runs -/
def wholeD : Da → Bool
  | .int _ => true
  | _ => false
theorem isTy_whole (m : Sto) (d : Da) : (isTy5 m .int d && !isTy5 m .bool d) = wholeD d := by
  cases d <;> try rfl
  rename_i a
  simp only [isTy5, wholeD]
  cases m a with
  | none => rfl
  | some c => cases c <;> rfl
theorem whole_int {d : Da} (h : wholeD d = true) : ∃ i, d = .int i := by
  cases d <;> simp [wholeD] at h
  exact ⟨_, rfl⟩
def sp_is_whole : Fs := g1 fun a m R X => okTy m a ∧ R (.bl (wholeD a)) m
theorem mo_is_whole : FMono sp_is_whole := gm1 fun a m R R' X X' hr hx h => ⟨h.1, hr _ _ h.2⟩
abbrev fn_is_whole (K : PySem.W.Frag) : Fn := ⟨sp_is_whole, mo_is_whole⟩
def S_is_whole (T : Top w K mg) : SSt K :=
    (sRet (sAnd (sIsi .int (sVar 0)) (sNot (sIsi .bool (sVar 0)))))
theorem rd_is_whole (T : Top w K mg) {a : Da} {m : Sto} {R : Rk} {X : Xk} (h : (fn_is_whole K).F [a] m R X) : (S_is_whole T).w (dn n_is_whole [a]) m (fun _ m' => R .non m') R X noN noN := by
  obtain ⟨o, h⟩ := h
  rw [← isTy_whole m a] at h
  conv => whnf
  refine isi_of o ?_
  conv => whnf
  cases e : isTy5 m .int a with
  | true =>
    rw [e] at h
    conv => whnf
    refine isi_of o ?_
    conv => whnf
    exact h
  | false =>
    rw [e] at h
    conv => whnf
    exact h
theorem ok_is_whole (T : Top w K mg) : FnAt R.prog w K mg base 1 (He.ga K "is_whole") p_is_whole (spW K (fn_is_whole K).F) := by
  have hl : ∀ ds m R X, (fn_is_whole K).F ds m R X → ds.length = 1 := fun ds m R X h => by unfold fn_is_whole at h; dsimp only at h; unfold sp_is_whole at h; exact gl1 _ _ _ _ h
  refine fnAt_of (k := 0) T.d_is_whole sc_is_whole (fun vs H Q E q => spW_len (F := (fn_is_whole K).F) hl q) (fun _ _ _ _ _ _ us hl => match us, hl with | [_], _ => rfl) fun cdv A outer s H vs Q E hr q => ⟨_, (pss_one (ps_ret (pe_andT (pe_callB call_isi (by rfl) T.fr_isinstance (by decide +kernel) (pa_cons (pv 0) (pa_cons (pe_bltn (v := .ty "int") (by rfl) T.fr_int (by decide +kernel) rfl) pa_nil))) (pe_one (pe_notT (pe_callB call_isi (by rfl) T.fr_isinstance (by decide +kernel) (pa_cons (pv 0) (pa_cons (pe_bltn (v := .ty "bool") (by rfl) T.fr_bool (by decide +kernel) rfl) pa_nil)))))))), spW_eq (N := n_is_whole) (S_is_whole T) (by kernel_rfl) (fun ds m R X h => by rw [hl ds m R X h]; decide) (fun ds m R X h => ?_) q⟩
  have h2 := h
  unfold fn_is_whole at h2; dsimp only at h2; unfold sp_is_whole at h2
  obtain ⟨a, rfl, _⟩ := g1_of h2
  exact rd_is_whole T h
abbrev TOP : Int := 4294967295
def numD : Da → Bool
  | .int i => decide (0 ≤ i) && decide (i < TOP)
  | _ => false
def sp_is_number : Fs := g1 fun a m R X => okTy m a ∧ R (.bl (numD a)) m
theorem mo_is_number : FMono sp_is_number := gm1 fun a m R R' X X' hr hx h => ⟨h.1, hr _ _ h.2⟩
abbrev fn_is_number (K : PySem.W.Frag) : Fn := ⟨sp_is_number, mo_is_number⟩
def S_is_number (T : Top w K mg) : SSt K :=
    (sRet (sAnd (sCall (fn_is_whole K) (sCons (sVar 0) sNil)) (sChain oLe oLt (sInt 0) (sVar 0) (sInt 4294967295))))
theorem rd_is_number (T : Top w K mg) {a : Da} {m : Sto} {R : Rk} {X : Xk} (h : (fn_is_number K).F [a] m R X) : (S_is_number T).w (dn n_is_number [a]) m (fun _ m' => R .non m') R X noN noN := by
  obtain ⟨o, h⟩ := h
  walk_at "go"
  refine ⟨o, ?_⟩
  walk_at "go"
  cases c : wholeD a with
  | true =>
    obtain ⟨i, rfl⟩ := whole_int c
    walk_at "go"
    have h : R (.bl (decide (0 ≤ i) && decide (i < TOP))) m := h
    cases c2 : decide (0 ≤ i) with
    | true =>
      rw [c2] at h
      walk_at "go"
      exact h
    | false =>
      rw [c2] at h
      walk_at "go"
      exact h
  | false =>
    have e : numD a = false := by cases a <;> simp [wholeD] at c <;> rfl
    rw [e] at h
    walk_at "go"
    exact h
theorem ok_is_number (T : Top w K mg) : FnAt R.prog w K mg base 2 (He.ga K "is_number") p_is_number (spW K (fn_is_number K).F) := by
  have hl : ∀ ds m R X, (fn_is_number K).F ds m R X → ds.length = 1 := fun ds m R X h => by unfold fn_is_number at h; dsimp only at h; unfold sp_is_number at h; exact gl1 _ _ _ _ h
  refine fnAt_of (k := 1) T.d_is_number sc_is_number (fun vs H Q E q => spW_len (F := (fn_is_number K).F) hl q) (fun _ _ _ _ _ _ us hl => match us, hl with | [_], _ => rfl) fun cdv A outer s H vs Q E hr q => ⟨_, (pss_one (ps_ret (pe_andT (pe_call (ok_is_whole (base := base) T).ok (hr.mono (by decide)) (by rfl) T.gl_is_whole (ok_is_whole (base := base) T).kp (ok_is_whole (base := base) T).bd .nil (passes_call (takes_of rfl rfl rfl rfl) (fun _ _ _ _ h => h)) (pa_cons (pv 0) pa_nil)) (pe_one (pe_chain op_le op_lt pe_int (pv 0) (pe_cint T.c_TOP)))))), spW_eq (N := n_is_number) (S_is_number T) (by kernel_rfl) (fun ds m R X h => by rw [hl ds m R X h]; decide) (fun ds m R X h => ?_) q⟩
  have h2 := h
  unfold fn_is_number at h2; dsimp only at h2; unfold sp_is_number at h2
  obtain ⟨a, rfl, _⟩ := g1_of h2
  exact rd_is_number T h
def runD : Da → Da → Bool
  | .int i, .int c => decide (0 ≤ i) && decide (i < TOP) && (decide (1 ≤ c) && decide (c ≤ TOP - i))
  | _, _ => false
theorem num_int {d : Da} (h : numD d = true) : ∃ i, d = .int i ∧ 0 ≤ i ∧ i < TOP := by
  cases d <;> simp [numD] at h
  exact ⟨_, rfl, h⟩
def sp_is_run : Fs := g2 fun a b m R X => (okTy m a ∧ okTy m b) ∧ R (.bl (runD a b)) m
theorem mo_is_run : FMono sp_is_run := gm2 fun a b m R R' X X' hr hx h => ⟨h.1, hr _ _ h.2⟩
abbrev fn_is_run (K : PySem.W.Frag) : Fn := ⟨sp_is_run, mo_is_run⟩
def S_is_run (T : Top w K mg) : SSt K :=
    (sRet (sAnd (sCall (fn_is_number K) (sCons (sVar 0) sNil)) (sAnd (sCall (fn_is_whole K) (sCons (sVar 1) sNil)) (sChain oLe oLe (sInt 1) (sVar 1) (sOp oSub (sInt 4294967295) (sVar 0))))))
theorem rd_is_run (T : Top w K mg) {a b : Da} {m : Sto} {R : Rk} {X : Xk} (h : (fn_is_run K).F [a, b] m R X) : (S_is_run T).w (dn n_is_run [a, b]) m (fun _ m' => R .non m') R X noN noN := by
  obtain ⟨⟨oa, ob⟩, h⟩ := h
  walk_at "go"
  refine ⟨oa, ?_⟩
  walk_at "go"
  cases c : numD a with
  | true =>
    obtain ⟨i, rfl, c1, c2⟩ := num_int c
    walk_at "go"
    refine ⟨ob, ?_⟩
    walk_at "go"
    cases c3 : wholeD b with
    | true =>
      obtain ⟨j, rfl⟩ := whole_int c3
      simp only [runD, decide_eq_true c1, decide_eq_true c2, Bool.true_and] at h
      walk_at "go"
      cases c4 : decide (1 ≤ j) with
      | true =>
        rw [c4] at h
        walk_at "go"
        exact h
      | false =>
        rw [c4] at h
        walk_at "go"
        exact h
    | false =>
      have e : runD (.int i) b = false := by cases b <;> simp [wholeD] at c3 <;> rfl
      rw [e] at h
      walk_at "go"
      exact h
  | false =>
    have e : runD a b = false := by
      cases a <;> cases b <;> try rfl
      simp only [numD] at c
      simp only [runD, c, Bool.false_and]
    rw [e] at h
    walk_at "go"
    exact h
theorem ok_is_run (T : Top w K mg) : FnAt R.prog w K mg base 3 (He.ga K "is_run") p_is_run (spW K (fn_is_run K).F) := by
  have hl : ∀ ds m R X, (fn_is_run K).F ds m R X → ds.length = 2 := fun ds m R X h => by unfold fn_is_run at h; dsimp only at h; unfold sp_is_run at h; exact gl2 _ _ _ _ h
  refine fnAt_of (k := 2) T.d_is_run sc_is_run (fun vs H Q E q => spW_len (F := (fn_is_run K).F) hl q) (fun _ _ _ _ _ _ us hl => match us, hl with | [_, _], _ => rfl) fun cdv A outer s H vs Q E hr q => ⟨_, (pss_one (ps_ret (pe_andT (pe_call (ok_is_number (base := base) T).ok (hr.mono (by decide)) (by rfl) T.gl_is_number (ok_is_number (base := base) T).kp (ok_is_number (base := base) T).bd .nil (passes_call (takes_of rfl rfl rfl rfl) (fun _ _ _ _ h => h)) (pa_cons (pv 0) pa_nil)) (pe_andT (pe_call (ok_is_whole (base := base) T).ok (hr.mono (by decide)) (by rfl) T.gl_is_whole (ok_is_whole (base := base) T).kp (ok_is_whole (base := base) T).bd .nil (passes_call (takes_of rfl rfl rfl rfl) (fun _ _ _ _ h => h)) (pa_cons (pv 1) pa_nil)) (pe_one (pe_chain op_le op_le pe_int (pv 1) (pe_op op_sub (pe_cint T.c_TOP) (pv 0)))))))), spW_eq (N := n_is_run) (S_is_run T) (by kernel_rfl) (fun ds m R X h => by rw [hl ds m R X h]; decide) (fun ds m R X h => ?_) q⟩
  have h2 := h
  unfold fn_is_run at h2; dsimp only at h2; unfold sp_is_run at h2
  obtain ⟨a, b, rfl, _⟩ := g2_of h2
  exact rd_is_run T h
/-! names and bits -/
abbrev LETTERS : Str := "abcdefghijklmnopqrstuvwxyz"
def sgn : Da → Nat
  | .str z => z.cps.toList.headD 0
  | _ => 0
def nameD : Da → Bool
  | .str z => decide (1 ≤ (z.length : Int)) && decide ((z.length : Int) ≤ 8) && (z.cps.toList.all fun c => decide (c ∈ LETTERS.cps.toList))
  | _ => false
theorem str_or (m : Sto) (d : Da) : (∃ z, d = .str z) ∨ (isTy5 m .str d = false ∧ isStrD d = false) := by
  cases d with
  | str z => exact .inl ⟨z, rfl⟩
  | adr a =>
    refine .inr ⟨?_, rfl⟩
    simp only [isTy5]
    cases m a with
    | none => rfl
    | some c => cases c <;> rfl
  | _ => exact .inr ⟨rfl, rfl⟩
def sp_is_name : Fs := g1 fun a m R X => (okTy m a ∧ ∀ z, a = .str z → z.length ≤ sizeLine) ∧ R (.bl (nameD a)) m
theorem mo_is_name : FMono sp_is_name := gm1 fun a m R R' X X' hr hx h => ⟨h.1, hr _ _ h.2⟩
abbrev fn_is_name (K : PySem.W.Frag) : Fn := ⟨sp_is_name, mo_is_name⟩
def S_is_name (T : Top w K mg) : SSt K :=
    (sSeq (sIf (stOr (stNot (sTru (sIsi .str (sVar 0)))) (stNot (sTest (sChain oLe oLe (sInt 1) (sCB cLen (sCons (sVar 0) sNil)) (sInt 8)))))
    (sRet (sBl false))
    sPass)
    (sRet (sCB cAll (sCons (sLc (iStr (sVar 0)) (tgName 1) sYes (sOp oIn (sVar 1) (sStr "abcdefghijklmnopqrstuvwxyz")) [1]) sNil))))
theorem rd_is_name (T : Top w K mg) {a : Da} {m : Sto} {R : Rk} {X : Xk} (h : (fn_is_name K).F [a] m R X) : (S_is_name T).w (dn n_is_name [a]) m (fun _ m' => R .non m') R X noN noN := by
  obtain ⟨⟨o, hz⟩, h⟩ := h
  rcases str_or m a with ⟨z, rfl⟩ | ⟨e, e2⟩
  · have h : R (.bl (decide (1 ≤ (z.length : Int)) && decide ((z.length : Int) ≤ 8) && (z.cps.toList.all fun c => decide (c ∈ LETTERS.cps.toList)))) m := h
    walk_at "go"
    refine ⟨hz z rfl, ?_⟩
    walk_at "go"
    cases c1 : decide (1 ≤ (z.length : Int)) with
    | false =>
      rw [c1] at h
      walk_at "go"
      exact h
    | true =>
      rw [c1] at h
      walk_at "go"
      cases c2 : decide ((z.length : Int) ≤ 8) with
      | false =>
        rw [c2] at h
        walk_at "go"
        exact h
      | true =>
        rw [c2] at h
        walk_at "go"
        have hl := of_decide_eq_true c2
        refine ⟨by rw [signsD_len]; show z.length ≤ _; omega, ?_⟩
        rw [signsD_def]
        refine lc_map (enc := fun c => .str (sign c)) (mk := fun c => .bl (decide (c ∈ LETTERS.cps.toList))) _ (fun c hc k0 k1 hk => ?_) ?_
        · walk_at "go"
          rw [inS_sign]
          exact hk
        · walk_at "go"
          refine optK_of (blsO_map _ _) ?_
          rw [List.all_map]
          exact h
  · walk_at "go"
    rw [e]
    walk_at "go"
    have e3 : nameD a = false := by cases a <;> first | rfl | cases e2
    rw [e3] at h
    exact h
theorem ok_is_name (T : Top w K mg) : FnAt R.prog w K mg base 1 (He.ga K "is_name") p_is_name (spW K (fn_is_name K).F) := by
  have hl : ∀ ds m R X, (fn_is_name K).F ds m R X → ds.length = 1 := fun ds m R X h => by unfold fn_is_name at h; dsimp only at h; unfold sp_is_name at h; exact gl1 _ _ _ _ h
  refine fnAt_of (k := 0) T.d_is_name sc_is_name (fun vs H Q E q => spW_len (F := (fn_is_name K).F) hl q) (fun _ _ _ _ _ _ us hl => match us, hl with | [_], _ => rfl) fun cdv A outer s H vs Q E hr q => ⟨_, (pss_cons (ps_if (PW.pt (pw_or (pt_not (pt_truth (pe_callB call_isi (by rfl) T.fr_isinstance (by decide +kernel) (pa_cons (pv 0) (pa_cons (pe_bltn (v := .ty "str") (by rfl) T.fr_str (by decide +kernel) rfl) pa_nil))) (by intro _; rfl))) (pw_or1 (pt_not (pt_chain op_le op_le pe_int (pe_callB (callr_or call_len_seq call_len_str) (by rfl) T.fr_len (by decide +kernel) (pa_cons (pv 0) pa_nil)) (pe_cint T.c_MOST_LETTERS))))))
    (pss_one (ps_ret pe_bl))
    pss_nil)
    (pss_one (ps_ret (pe_callB (cr_all rfl) (by rfl) T.fr_all (by decide +kernel) (pa_cons (pe_lc (own := [("letter", 1)]) (g := ((tgName 1) : STg K).t) (te := ((sOp oIn (sVar 1) (sStr "abcdefghijklmnopqrstuvwxyz")) : SE K).t E0) (tt := (sYes : STe K).t E0) (by rfl) sc_is_name.nd (pi_str (pv 0)) (blkOk_by (own := [("letter", 1)]) (N := n_is_name) (sc := defScope s_is_name) (by decide +kernel)) (fun _ _ _ _ _ => (pg_name (i := 1) sc_is_name.nd rfl (Or.inl rfl))) (fun _ _ _ _ _ => pts_nil) (fun _ _ _ _ _ => by exact pe_eq (pe_cmpR op_inU (pv 1) (pe_cstr T.c_LETTERS) (by rfl)) (by (try dsimp only [cxOf, L2.Cx.blk]) <;> exact rfl))) pa_nil))))), spW_eq (N := n_is_name) (S_is_name T) (by kernel_rfl) (fun ds m R X h => by rw [hl ds m R X h]; decide) (fun ds m R X h => ?_) q⟩
  have h2 := h
  unfold fn_is_name at h2; dsimp only at h2; unfold sp_is_name at h2
  obtain ⟨a, rfl, _⟩ := g1_of h2
  exact rd_is_name T h
abbrev MARKS : Str := "rwxRWXS"
def marksOf (z : Str) : Str := ⟨(MARKS.cps.toList.filter fun c => decide (c ∈ z.cps.toList)).toArray⟩
def bitsD : Da → Bool
  | .str z => eqS z (marksOf z)
  | _ => false
theorem joinL_nil : ∀ ls : List (List Nat), TL.joinL [] ls = ls.flatten
  | [] => rfl
  | [p] => by show p = [p].flatten; simp
  | p :: q :: r => by
    rw [TL.joinL, joinL_nil (q :: r)]
    simp
theorem join_signs (l : List Nat) : Txt.join "" (l.map sign) = ⟨l.toArray⟩ := by
  apply TL.ext_tl
  rw [TL.join_eq, TL.tl_join, TL.tl_mk]
  show TL.joinL [] _ = _
  rw [joinL_nil, List.map_map]
  induction l with
  | nil => rfl
  | cons c l ih => simp only [List.map_cons, List.flatten_cons, ih]; rfl
theorem signs_sum (l : List Nat) : ((l.map sign).map fun x : Str => x.length).sum = l.length := by
  induction l with
  | nil => rfl
  | cons c l ih => simp only [List.map_cons, List.sum_cons, ih, List.length_cons]; show 1 + _ = _; omega
def sp_is_bits : Fs := g1 fun a m R X => okTy m a ∧ R (.bl (bitsD a)) m
theorem mo_is_bits : FMono sp_is_bits := gm1 fun a m R R' X X' hr hx h => ⟨h.1, hr _ _ h.2⟩
abbrev fn_is_bits (K : PySem.W.Frag) : Fn := ⟨sp_is_bits, mo_is_bits⟩
def S_is_bits (T : Top w K mg) : SSt K :=
    (sRet (sAnd (sIsi .str (sVar 0)) (sOp oEq (sVar 0) (sM1 mJoin (sStr "") (sLc (iStr (sStr "rwxRWXS")) (tgName 1) (sTest (sOp oIn (sVar 1) (sVar 0))) (sVar 1) [1])))))
theorem rd_is_bits (T : Top w K mg) {a : Da} {m : Sto} {R : Rk} {X : Xk} (h : (fn_is_bits K).F [a] m R X) : (S_is_bits T).w (dn n_is_bits [a]) m (fun _ m' => R .non m') R X noN noN := by
  obtain ⟨o, h⟩ := h
  rcases str_or m a with ⟨z, rfl⟩ | ⟨e, e2⟩
  · have h : R (.bl (eqS z (marksOf z))) m := h
    walk_at "go"
    refine ⟨by rw [signsD_len]; decide +kernel, ?_⟩
    rw [signsD_def]
    refine lc_filter (enc := fun c => .str (sign c)) (mk := fun c => .str (sign c)) (p := fun c => decide (c ∈ z.cps.toList)) MARKS.cps.toList (fun c hc k0 k1 hk => ?_) ?_
    · walk_at "go"
      rw [inS_sign]
      cases e : decide (c ∈ z.cps.toList) with
      | true => rw [e] at hk; exact hk
      | false => rw [e] at hk; exact hk
    · walk_at "go"
      refine optK_of (strsO_map _ _) ⟨?_, ?_⟩
      · have h7 : (MARKS.cps.toList.filter fun c => decide (c ∈ z.cps.toList)).length ≤ 7 := Nat.le_trans (List.length_filter_le _ _) (by decide)
        rw [signs_sum, List.length_map]
        show _ + _ * 0 ≤ _
        omega
      · walk_at "go"
        rw [join_signs]
        exact h
  · walk_at "go"
    rw [e]
    walk_at "go"
    have e3 : bitsD a = false := by cases a <;> first | rfl | cases e2
    rw [e3] at h
    exact h
theorem ok_is_bits (T : Top w K mg) : FnAt R.prog w K mg base 1 (He.ga K "is_bits") p_is_bits (spW K (fn_is_bits K).F) := by
  have hl : ∀ ds m R X, (fn_is_bits K).F ds m R X → ds.length = 1 := fun ds m R X h => by unfold fn_is_bits at h; dsimp only at h; unfold sp_is_bits at h; exact gl1 _ _ _ _ h
  refine fnAt_of (k := 0) T.d_is_bits sc_is_bits (fun vs H Q E q => spW_len (F := (fn_is_bits K).F) hl q) (fun _ _ _ _ _ _ us hl => match us, hl with | [_], _ => rfl) fun cdv A outer s H vs Q E hr q => ⟨_, (pss_one (ps_ret (pe_andT (pe_callB call_isi (by rfl) T.fr_isinstance (by decide +kernel) (pa_cons (pv 0) (pa_cons (pe_bltn (v := .ty "str") (by rfl) T.fr_str (by decide +kernel) rfl) pa_nil))) (pe_one (pe_cmpR (op_eqU hr.units) (pv 0) (pe_join pe_str (pe_lc (own := [("letter", 1)]) (g := ((tgName 1) : STg K).t) (te := ((sVar 1) : SE K).t E0) (tt := ((sTest (sOp oIn (sVar 1) (sVar 0))) : STe K).t E0) (by rfl) sc_is_bits.nd (pi_str (pe_cstr T.c_MARKS)) (blkOk_by (own := [("letter", 1)]) (N := n_is_bits) (sc := defScope s_is_bits) (by decide +kernel)) (fun _ _ _ _ _ => (pg_name (i := 1) sc_is_bits.nd rfl (Or.inl rfl))) (fun _ _ _ _ _ => by exact pts_eq (pts_one (pt_cmpR op_inU (pv 1) (pv 0) (by rfl))) (by (try dsimp only [cxOf, L2.Cx.blk]) <;> exact rfl)) (fun _ _ _ _ _ => (pv 1)))) (nomark _)))))), spW_eq (N := n_is_bits) (S_is_bits T) (by kernel_rfl) (fun ds m R X h => by rw [hl ds m R X h]; decide) (fun ds m R X h => ?_) q⟩
  have h2 := h
  unfold fn_is_bits at h2; dsimp only at h2; unfold sp_is_bits at h2
  obtain ⟨a, rfl, _⟩ := g1_of h2
  exact rd_is_bits T h

end
end G

set_option maxHeartbeats 4000000
namespace G
open PySem PySem.Spec PyProof.Rows L2

local macro_rules | `(tactic| walk_at "go") => `(tactic| ((conv => whnf); repeat ((first | refine isi_of (by first | assumption | exact trivial) ?_ | rw [Sto.put_same] | refine And.intro (by first | exact rfl | exact trivial | exact Nat.le_of_ble_eq_true rfl) ?_); (conv => whnf))))
local macro_rules | `(tactic| walk_at "wk") => `(tactic| ((repeat (walk_at "go"; first | refine optK_of (by first | assumption | exact Sto.put_same) ?_ | refine And.intro (by show (0 : Int) < _; decide) ?_ | refine And.intro (And.intro (by show (0 : Int) < _; decide) (by decide)) ?_ | refine And.intro (show CPow _ _ from ⟨by decide, by decide, by decide⟩) ?_)); try walk_at "go"))

section
variable {w : World} {K : PySem.W.Frag} {mg : Str → Option Value} {base : Heap}
/-! ranges, maps -/
inductive Ok (m : Sto) : Da → Prop
  | sc {d : Da} (h : okTy m d) (h2 : ∀ ds, d ≠ .tup ds) (h3 : ∀ ds, d ≠ .lst ds) (h4 : ∀ z, d = .str z → z.length ≤ sizeLine) : Ok m d
  | tup {ds : List Da} (h : ∀ d ∈ ds, Ok m d) (hl : ds.length ≤ 100000) : Ok m (.tup ds)
  | lst {ds : List Da} (h : ∀ d ∈ ds, Ok m d) (hl : ds.length ≤ 100000) : Ok m (.lst ds)
theorem Ok.ty {m : Sto} {d : Da} (h : Ok m d) : okTy m d := by
  cases h with
  | sc h _ _ _ => exact h
  | tup h _ => trivial
  | lst h _ => trivial
theorem Ok.st {m : Sto} {d : Da} (h : Ok m d) : ∀ z, d = .str z → z.length ≤ sizeLine := by
  cases h with
  | sc _ _ _ h => exact h
  | tup h _ => exact fun z e => nomatch e
  | lst h _ => exact fun z e => nomatch e
theorem Ok.tu {m : Sto} {ds : List Da} (h : Ok m (.tup ds)) : ∀ d ∈ ds, Ok m d := by
  cases h with
  | sc h h2 h3 h4 => exact absurd rfl (h2 _)
  | tup h _ => exact h
theorem Ok.ls {m : Sto} {ds : List Da} (h : Ok m (.lst ds)) : ∀ d ∈ ds, Ok m d := by
  cases h with
  | sc h h2 h3 h4 => exact absurd rfl (h3 _)
  | lst h _ => exact h
theorem Ok.ll {m : Sto} {ds : List Da} (h : Ok m (.lst ds)) : ds.length ≤ 100000 := by
  cases h with
  | sc h h2 h3 h4 => exact absurd rfl (h3 _)
  | lst _ h => exact h
theorem Ok.tl {m : Sto} {ds : List Da} (h : Ok m (.tup ds)) : ds.length ≤ 100000 := by
  cases h with
  | sc h h2 h3 h4 => exact absurd rfl (h2 _)
  | tup _ h => exact h
theorem tup_or (m : Sto) (d : Da) : (∃ ds, d = .tup ds) ∨ (isTy5 m .tuple d = false ∧ isTupD d = false) := by
  cases d with
  | tup ds => exact .inl ⟨ds, rfl⟩
  | adr a =>
    refine .inr ⟨?_, rfl⟩
    simp only [isTy5]
    cases m a with
    | none => rfl
    | some c => cases c <;> rfl
  | _ => exact .inr ⟨rfl, rfl⟩
def rangeD : Da → Bool
  | .tup [a, b, c] => runD a c && runD b c
  | _ => false
theorem range_len {ds : List Da} (h : ds.length ≠ 3) : rangeD (.tup ds) = false := by
  match ds, h with
  | [], _ => rfl
  | [_], _ => rfl
  | [_, _], _ => rfl
  | [_, _, _], h => exact absurd rfl h
  | _ :: _ :: _ :: _ :: _, _ => rfl
def sp_is_range : Fs := g1 fun a m R X => Ok m a ∧ R (.bl (rangeD a)) m
theorem mo_is_range : FMono sp_is_range := gm1 fun a m R R' X X' hr hx h => ⟨h.1, hr _ _ h.2⟩
abbrev fn_is_range (K : PySem.W.Frag) : Fn := ⟨sp_is_range, mo_is_range⟩
def S_is_range (T : Top w K mg) : SSt K :=
    (sSeq (sIf (stOr (stNot (sTru (sIsi .tuple (sVar 0)))) (sTest (sOp oNe (sCB cLen (sCons (sVar 0) sNil)) (sInt 3))))
    (sRet (sBl false))
    sPass)
    (sRet (sAnd (sCall (fn_is_run K) (sCons (sOp oIx (sVar 0) (sInt 0)) (sCons (sOp oIx (sVar 0) (sInt 2)) sNil))) (sCall (fn_is_run K) (sCons (sOp oIx (sVar 0) (sInt 1)) (sCons (sOp oIx (sVar 0) (sInt 2)) sNil))))))
theorem rd_is_range (T : Top w K mg) {a : Da} {m : Sto} {R : Rk} {X : Xk} (h : (fn_is_range K).F [a] m R X) : (S_is_range T).w (dn n_is_range [a]) m (fun _ m' => R .non m') R X noN noN := by
  obtain ⟨ok, h⟩ := h
  have o := ok.ty
  rcases tup_or m a with ⟨ds, rfl⟩ | ⟨e, e2⟩
  · walk_at "go"
    by_cases c : ds.length = 3
    · match ds, c with
      | [x, y, z], _ =>
        have hx := (ok.tu x (by simp)).ty
        have hy := (ok.tu y (by simp)).ty
        have hz := (ok.tu z (by simp)).ty
        walk_at "go"
        refine ⟨⟨hx, hz⟩, ?_⟩
        walk_at "go"
        have h2 : R (.bl (runD x z && runD y z)) m := h
        cases c : runD x z with
        | true =>
          rw [c] at h2
          walk_at "go"
          exact ⟨⟨hy, hz⟩, h2⟩
        | false =>
          rw [c] at h2
          walk_at "go"
          exact h2
    · have c' : decide ((ds.length : Int) = 3) = false := by simpa using (by omega : ¬ (ds.length : Int) = 3)
      rw [c']
      walk_at "go"
      rw [range_len c] at h
      exact h
  · walk_at "go"
    rw [e]
    walk_at "go"
    have e3 : rangeD a = false := by cases a <;> first | rfl | cases e2
    rw [e3] at h
    exact h
theorem ok_is_range (T : Top w K mg) : FnAt R.prog w K mg base 4 (He.ga K "is_range") p_is_range (spW K (fn_is_range K).F) := by
  have hl : ∀ ds m R X, (fn_is_range K).F ds m R X → ds.length = 1 := fun ds m R X h => by unfold fn_is_range at h; dsimp only at h; unfold sp_is_range at h; exact gl1 _ _ _ _ h
  refine fnAt_of (k := 3) T.d_is_range sc_is_range (fun vs H Q E q => spW_len (F := (fn_is_range K).F) hl q) (fun _ _ _ _ _ _ us hl => match us, hl with | [_], _ => rfl) fun cdv A outer s H vs Q E hr q => ⟨_, (pss_cons (ps_if (PW.pt (pw_or (pt_not (pt_truth (pe_callB call_isi (by rfl) T.fr_isinstance (by decide +kernel) (pa_cons (pv 0) (pa_cons (pe_bltn (v := .ty "tuple") (by rfl) T.fr_tuple (by decide +kernel) rfl) pa_nil))) (by intro _; rfl))) (pw_or1 (pt_cmpR (op_neU hr.units) (pe_callB (callr_or call_len_seq call_len_str) (by rfl) T.fr_len (by decide +kernel) (pa_cons (pv 0) pa_nil)) pe_int (nomark _)))))
    (pss_one (ps_ret pe_bl))
    pss_nil)
    (pss_one (ps_ret (pe_andT (pe_call (ok_is_run (base := base) T).ok (hr.mono (by decide)) (by rfl) T.gl_is_run (ok_is_run (base := base) T).kp (ok_is_run (base := base) T).bd .nil (passes_call (takes_of rfl rfl rfl rfl) (fun _ _ _ _ h => h)) (pa_cons (pe_ix ix_seq (pv 0) pe_int (fun _ _ => rfl)) (pa_cons (pe_ix ix_seq (pv 0) pe_int (fun _ _ => rfl)) pa_nil))) (pe_one (pe_call (ok_is_run (base := base) T).ok (hr.mono (by decide)) (by rfl) T.gl_is_run (ok_is_run (base := base) T).kp (ok_is_run (base := base) T).bd .nil (passes_call (takes_of rfl rfl rfl rfl) (fun _ _ _ _ h => h)) (pa_cons (pe_ix ix_seq (pv 0) pe_int (fun _ _ => rfl)) (pa_cons (pe_ix ix_seq (pv 0) pe_int (fun _ _ => rfl)) pa_nil)))))))), spW_eq (N := n_is_range) (S_is_range T) (by kernel_rfl) (fun ds m R X h => by rw [hl ds m R X h]; decide) (fun ds m R X h => ?_) q⟩
  have h2 := h
  unfold fn_is_range at h2; dsimp only at h2; unfold sp_is_range at h2
  obtain ⟨a, rfl, _⟩ := g1_of h2
  exact rd_is_range T h
abbrev pr (p : Int × Int) : Da := .tup [.int p.1, .int p.2]
def apartB (ps : List (Int × Int)) : Bool := (List.range (ps.length - 1)).all fun j => !decide ((ps.getD (j + 1) (0, 0)).1 < (ps.getD j (0, 0)).1 + (ps.getD j (0, 0)).2)
theorem atD_map {α : Type} {f : α → Da} {l : List α} {j : Nat} {a : α} (h : l[j]? = some a) : atD (l.map f) (j : Int) = some (f a) := atD_nat (by rw [List.getElem?_map, h]; rfl)
theorem rngD_get {lo : Int} {n i : Nat} {d : Da} (h : (rngD lo n)[i]? = some d) : i < n ∧ d = .int (lo + (i : Int)) := by
  unfold rngD at h
  rw [List.getElem?_map] at h
  cases e : (List.range n)[i]? with
  | none => rw [e] at h; cases h
  | some k =>
    rw [e] at h
    obtain ⟨h1, h2⟩ := List.getElem?_eq_some_iff.mp e
    simp at h1 h2
    subst h2
    cases h
    exact ⟨h1, rfl⟩
def sp_are_apart : Fs := g1 fun a m R X => ∃ ps : List (Int × Int), (a = .lst (ps.map pr) ∧ ps.length ≤ 100000) ∧ R (.bl (apartB ps)) m
theorem mo_are_apart : FMono sp_are_apart := gm1 fun a m R R' X X' hr hx ⟨ps, h⟩ => ⟨ps, h.1, hr _ _ h.2⟩
abbrev fn_are_apart (K : PySem.W.Frag) : Fn := ⟨sp_are_apart, mo_are_apart⟩
def S_are_apart (T : Top w K mg) : SSt K :=
    (sSeq (sFor (iRange2 (sCons (sInt 1) (sCons (sCB cLen (sCons (sVar 0) sNil)) sNil))) (tgName 1)
    (sIf (sTest (sOp oLt (sOp oIx (sOp oIx (sVar 0) (sVar 1)) (sInt 0)) (sOp oAdd (sOp oIx (sOp oIx (sVar 0) (sOp oSub (sVar 1) (sInt 1))) (sInt 0)) (sOp oIx (sOp oIx (sVar 0) (sOp oSub (sVar 1) (sInt 1))) (sInt 1)))))
    (sRet (sBl false))
    sPass))
    (sRet (sBl true)))
theorem rng_from1 (n : Nat) : rngD 1 n = (List.range n).map fun i : Nat => Da.int ((i : Int) + 1) := by
  rw [rngD_def]
  congr 1
  funext i
  rw [Int.add_comm]
theorem range_split {n : Nat} {p q : List Nat} {i : Nat} (e : List.range n = p ++ i :: q) : i = p.length ∧ p = List.range i ∧ i < n := by
  have h1 : p.length < n := by
    have := congrArg List.length e
    simp at this
    omega
  have h2 : (List.range n)[p.length]? = some i := by rw [e]; simp
  rw [List.getElem?_range h1] at h2
  have h3 : i = p.length := (Option.some.inj h2).symm
  have h4 : p = (List.range n).take p.length := by rw [e]; simp
  rw [List.take_range] at h4
  refine ⟨h3, ?_, by omega⟩
  rw [h4, h3]
  congr 1
  omega
theorem rd_are_apart (T : Top w K mg) {a : Da} {m : Sto} {R : Rk} {X : Xk} (h : (fn_are_apart K).F [a] m R X) : (S_are_apart T).w (dn n_are_apart [a]) m (fun _ m' => R .non m') R X noN noN := by
  obtain ⟨ps, ⟨rfl, hl⟩, h⟩ := h
  have el : ((ps.map pr).length : Int) = ps.length := by rw [List.length_map]
  walk_at "go"
  refine ⟨⟨by omega, by omega, by omega, by omega⟩, ?_⟩
  walk_at "go"
  rw [rng_from1]
  refine for_inv (enc := fun i : Nat => Da.int ((i : Int) + 1)) (fun pre δ' m' => m' = m ∧ (∃ x, δ' = [some (.lst (ps.map pr)), x]) ∧ ∀ j ∈ pre, (!decide ((ps.getD (j + 1) (0, 0)).1 < (ps.getD j (0, 0)).1 + (ps.getD j (0, 0)).2)) = true) forT_mono _ [] ?_ ?_ _ _ ⟨rfl, ⟨_, rfl⟩, fun j h => by cases h⟩
  · rintro p i q δ' m' hs ⟨rfl, ⟨x, rfl⟩, hj⟩
    obtain ⟨h1, h2, h3⟩ := range_split hs
    rw [el] at h3
    have g1 : ps[i + 1]? = some (ps.getD (i + 1) (0, 0)) := by rw [List.getD_eq_getElem?_getD, List.getElem?_eq_getElem (by omega : i + 1 < ps.length)]; rfl
    have g0 : ps[i]? = some (ps.getD i (0, 0)) := by rw [List.getD_eq_getElem?_getD, List.getElem?_eq_getElem (by omega : i < ps.length)]; rfl
    have a1 : ∀ k : Da → Prop, k (pr (ps.getD (i + 1) (0, 0))) → atK (ps.map pr) ((i : Int) + 1) k := fun k h => atK_nat (j := i + 1) (by rw [List.getElem?_map, g1]; rfl) h
    have a0 : ∀ k : Da → Prop, k (pr (ps.getD i (0, 0))) → atK (ps.map pr) ((i : Int) + 1 - 1) k := fun k h => by
      rw [show (i : Int) + 1 - 1 = ((i : Nat) : Int) by omega]
      exact atK_nat (j := i) (by rw [List.getElem?_map, g0]; rfl) h
    walk_at "go"
    refine a1 _ ?_
    walk_at "go"
    refine a0 _ ?_
    walk_at "go"
    refine a0 _ ?_
    walk_at "go"
    cases c : decide ((ps.getD (i + 1) (0, 0)).1 < (ps.getD i (0, 0)).1 + (ps.getD i (0, 0)).2) with
    | true =>
      walk_at "go"
      have e : apartB ps = false := by
        unfold apartB
        rw [← Bool.not_eq_true, List.all_eq_true]
        intro z
        have := z i (List.mem_range.mpr (by omega))
        rw [c] at this
        cases this
      rw [e] at h
      exact h
    | false =>
      refine ⟨rfl, ⟨_, rfl⟩, fun j h => ?_⟩
      rcases List.mem_append.mp h with h | h
      · exact hj j h
      · have : j = i := by simpa using h
        subst this
        rw [c]
        rfl
  · rintro δ' m' ⟨rfl, ⟨x, rfl⟩, hj⟩
    walk_at "go"
    have e : apartB ps = true := by
      unfold apartB
      rw [List.all_eq_true]
      intro j hj'
      refine hj j ?_
      rw [List.nil_append, el]
      have := List.mem_range.mp hj'
      exact List.mem_range.mpr (by omega)
    rw [e] at h
    exact h
theorem ok_are_apart (T : Top w K mg) : FnAt R.prog w K mg base 1 (He.ga K "are_apart") p_are_apart (spW K (fn_are_apart K).F) := by
  have hl : ∀ ds m R X, (fn_are_apart K).F ds m R X → ds.length = 1 := fun ds m R X h => by unfold fn_are_apart at h; dsimp only at h; unfold sp_are_apart at h; exact gl1 _ _ _ _ h
  refine fnAt_of (k := 0) T.d_are_apart sc_are_apart (fun vs H Q E q => spW_len (F := (fn_are_apart K).F) hl q) (fun _ _ _ _ _ _ us hl => match us, hl with | [_], _ => rfl) fun cdv A outer s H vs Q E hr q => ⟨_, (pss_cons (ps_for (passes_of rfl) (by rfl) (pi_range2 (by rfl) T.fr_range (pa_cons pe_int (pa_cons (pe_callB (callr_or call_len_seq call_len_str) (by rfl) T.fr_len (by decide +kernel) (pa_cons (pv 0) pa_nil)) pa_nil))) (pg_name (i := 1) sc_are_apart.nd rfl (Or.inl rfl))
    (pss_one (ps_if (pt_cmpR op_lt (pe_ix ix_seq (pe_ix ix_seq (pv 0) (pv 1) (fun _ _ => rfl)) pe_int (fun _ _ => rfl)) (pe_op op_addU (pe_ix ix_seq (pe_ix ix_seq (pv 0) (pe_op op_sub (pv 1) pe_int) (fun _ _ => rfl)) pe_int (fun _ _ => rfl)) (pe_ix ix_seq (pe_ix ix_seq (pv 0) (pe_op op_sub (pv 1) pe_int) (fun _ _ => rfl)) pe_int (fun _ _ => rfl))) (nomark _))
    (pss_one (ps_ret pe_bl))
    pss_nil)))
    (pss_one (ps_ret pe_bl))), spW_eq (N := n_are_apart) (S_are_apart T) (by kernel_rfl) (fun ds m R X h => by rw [hl ds m R X h]; decide) (fun ds m R X h => ?_) q⟩
  have h2 := h
  unfold fn_are_apart at h2; dsimp only at h2; unfold sp_are_apart at h2
  obtain ⟨a, rfl, _⟩ := g1_of h2
  exact rd_are_apart T h

end
end G

set_option maxHeartbeats 4000000
namespace G
open PySem PySem.Spec PyProof.Rows L2

local macro_rules | `(tactic| walk_at "go") => `(tactic| ((conv => whnf); repeat ((first | refine isi_of (by first | assumption | exact trivial) ?_ | rw [Sto.put_same] | refine And.intro (by first | exact rfl | exact trivial | exact Nat.le_of_ble_eq_true rfl) ?_); (conv => whnf))))
local macro_rules | `(tactic| walk_at "wk") => `(tactic| ((repeat (walk_at "go"; first | refine optK_of (by first | assumption | exact Sto.put_same) ?_ | refine And.intro (by show (0 : Int) < _; decide) ?_ | refine And.intro (And.intro (by show (0 : Int) < _; decide) (by decide)) ?_ | refine And.intro (show CPow _ _ from ⟨by decide, by decide, by decide⟩) ?_)); try walk_at "go"))

section
variable {w : World} {K : PySem.W.Frag} {mg : Str → Option Value} {base : Heap}
theorem lenW_of {m : Sto} {d : Da} {ds : List Da} {Φ : Rk} (e : listOf m d = some ds) (h : Φ (.int ds.length) m) : lenW [d] m Φ := by
  cases d with
  | lst ds => cases e; exact h
  | adr a => exact optK_of (listOf_adr e) h
  | _ => cases e
/-- ranges as triples -/
abbrev Rg := Int × Int × Int
abbrev rg (r : Rg) : Da := .tup [.int r.1, .int r.2.1, .int r.2.2]
def ins (r : Rg) : Int × Int := (r.1, r.2.2)
def outs (r : Rg) : Int × Int := (r.2.1, r.2.2)
def leP (p q : Int × Int) : Bool := decide (p.1 < q.1 ∨ p.1 = q.1 ∧ p.2 ≤ q.2)
theorem all2 {α : Type} {P : α → Prop} {l : List α} (h : ∀ a, P a) : ∀ a ∈ l, P a := fun a _ => h a
theorem py_pr (p : Int × Int) : py (pr p) = some (.tuple [.int p.1, .int p.2]) := rfl
theorem pyN_pr (p : Int × Int) : pyN (pr p) = .tuple [.int p.1, .int p.2] := rfl
theorem so_pr (ps : List (Int × Int)) : SortOk (ps.map pr) := by
  refine ⟨fun d hd => ?_, fun x hx y hy => ?_, .inl fun x hx => ?_, fun d hd => ?_⟩
  · obtain ⟨p, _, rfl⟩ := List.mem_map.mp hd
    exact ⟨_, py_pr p⟩
  · rw [List.map_map] at hx hy
    obtain ⟨p, _, rfl⟩ := List.mem_map.mp hx
    obtain ⟨q, _, rfl⟩ := List.mem_map.mp hy
    rfl
  · rw [List.map_map] at hx
    obtain ⟨p, _, rfl⟩ := List.mem_map.mp hx
    exact ⟨_, _, rfl⟩
  · obtain ⟨p, _, rfl⟩ := List.mem_map.mp hd
    show PyData.depth (.tuple [.int p.1, .int p.2]) ≤ 100
    simp [PyData.depth, PyData.depthAll]
theorem srt_pr (ps : List (Int × Int)) : srt (ps.map pr) = (ps.mergeSort leP).map pr := by
  unfold srt
  symm
  refine PySem.W.sort_maps pr fun a _ b _ => ?_
  have h := congrFun (congrFun (PySem.W.dataLe_ii (fun p : Int × Int => p.1) (fun p => p.2)) a) b
  show decide _ = _
  exact h.symm
theorem so_rg (ps : List Rg) : SortOk (ps.map rg) := by
  refine ⟨fun d hd => ?_, fun x hx y hy => ?_, .inl fun x hx => ?_, fun d hd => ?_⟩
  · obtain ⟨p, _, rfl⟩ := List.mem_map.mp hd
    exact ⟨_, rfl⟩
  · rw [List.map_map] at hx hy
    obtain ⟨p, _, rfl⟩ := List.mem_map.mp hx
    obtain ⟨q, _, rfl⟩ := List.mem_map.mp hy
    rfl
  · rw [List.map_map] at hx
    obtain ⟨p, _, rfl⟩ := List.mem_map.mp hx
    exact ⟨_, _, rfl⟩
  · obtain ⟨p, _, rfl⟩ := List.mem_map.mp hd
    show PyData.depth (.tuple [.int p.1, .int p.2.1, .int p.2.2]) ≤ 100
    simp [PyData.depth, PyData.depthAll]
def leR (p q : Rg) : Bool := decide (p.1 < q.1 ∨ p.1 = q.1 ∧ (p.2.1 < q.2.1 ∨ p.2.1 = q.2.1 ∧ p.2.2 ≤ q.2.2))
theorem srt_rg (ps : List Rg) : srt (ps.map rg) = (ps.mergeSort leR).map rg := by
  unfold srt
  symm
  refine PySem.W.sort_maps rg fun a _ b _ => ?_
  obtain ⟨a1, a2, a3⟩ := a
  obtain ⟨b1, b2, b3⟩ := b
  show leR (a1, a2, a3) (b1, b2, b3) = W.dataLe false (fun p : Bool => if p then PyData.tuple [.int a1, .int a2, .int a3] else PyData.tuple [.int b1, .int b2, .int b3]) true false
  unfold W.dataLe W.sortLe
  simp [W.keyToks, W.keyToksAll]
  simp only [PyProof.Rows.lexLt, PyProof.Rows.itemOrd, PyProof.Rows.itemLt, leR]
  rw [Bool.eq_iff_iff]
  simp
  omega
def rgOf : Da → Option Rg
  | .tup [.int a, .int b, .int c] => some (a, b, c)
  | _ => none
def runI (i c : Int) : Bool := decide (0 ≤ i) && decide (i < TOP) && (decide (1 ≤ c) && decide (c ≤ TOP - i))
def rgOk (r : Rg) : Bool := runI r.1 r.2.2 && runI r.2.1 r.2.2
theorem run_ints {a b : Da} (h : runD a b = true) : ∃ i j, a = .int i ∧ b = .int j := by
  cases a <;> cases b <;> first | exact ⟨_, _, rfl, rfl⟩ | cases h
theorem range_rg {d : Da} (h : rangeD d = true) : ∃ r, d = rg r ∧ rgOk r = true := by
  cases d with
  | tup ds =>
    by_cases c : ds.length = 3
    · match ds, c with
      | [x, y, z], _ =>
        have h' : (runD x z && runD y z) = true := h
        rw [Bool.and_eq_true] at h'
        obtain ⟨i, k, rfl, rfl⟩ := run_ints h'.1
        obtain ⟨j, k', rfl, e⟩ := run_ints h'.2
        cases e
        exact ⟨(i, j, k), rfl, by
          unfold rgOk
          rw [Bool.and_eq_true]
          exact h'⟩
    · rw [range_len c] at h; cases h
  | _ => cases h
theorem rg_range {r : Rg} : rangeD (rg r) = rgOk r := rfl
theorem rgOf_rg (r : Rg) : rgOf (rg r) = some r := rfl
theorem rgOf_some {d : Da} {r : Rg} (h : rgOf d = some r) : d = rg r := by
  unfold rgOf at h
  split at h
  · cases h; rfl
  · cases h
def rgsOf : List Da → Option (List Rg)
  | [] => some []
  | d :: ds => match rgOf d, rgsOf ds with
    | some r, some rs => some (r :: rs)
    | _, _ => none
theorem rgsOf_map (rs : List Rg) : rgsOf (rs.map rg) = some rs := by
  induction rs with
  | nil => rfl
  | cons r rs ih => simp only [List.map_cons, rgsOf, rgOf_rg, ih]
theorem rgsOf_some : ∀ {ds : List Da} {rs : List Rg}, rgsOf ds = some rs → ds = rs.map rg
  | [], rs, h => by cases h; rfl
  | d :: ds, rs, h => by
    simp only [rgsOf] at h
    split at h
    · rename_i r rs' h1 h2
      cases h
      rw [rgOf_some h1, rgsOf_some h2]
      rfl
    · cases h
/-- are these the rows of a map -/
def mapR (rs : List Rg) : Bool := decide (rs.length ≤ 2000) && rs.all rgOk && (apartB ((rs.map ins).mergeSort leP) && apartB ((rs.map outs).mergeSort leP))
def mapB (ds : List Da) : Bool := match rgsOf ds with
  | some rs => mapR rs
  | none => false
def mapD (m : Sto) (d : Da) : Bool := match listOf m d with
  | some ds => mapB ds
  | none => false
theorem lst_or (m : Sto) (d : Da) : (∃ ds, listOf m d = some ds ∧ isTy5 m .list d = true ∧ isTupD d = false ∧ isStrD d = false ∧ seqD m d = some ds ∧ lenD m d = some ds.length) ∨ (listOf m d = none ∧ isTy5 m .list d = false) := by
  cases d with
  | lst ds => exact .inl ⟨ds, rfl, rfl, rfl, rfl, rfl, rfl⟩
  | adr a =>
    simp only [listOf, isTy5, seqD, lenD]
    cases m a with
    | none => exact .inr ⟨rfl, rfl⟩
    | some c => cases c with
      | lst ds => exact .inl ⟨ds, rfl, rfl, rfl, rfl, rfl, rfl⟩
      | _ => exact .inr ⟨rfl, rfl⟩
  | _ => exact .inr ⟨rfl, rfl⟩
theorem mapB_bad {ds : List Da} {d : Da} (h : d ∈ ds) (hd : rangeD d = false) : mapB ds = false := by
  unfold mapB
  cases e : rgsOf ds with
  | none => rfl
  | some rs =>
    rw [rgsOf_some e] at h
    obtain ⟨r, hr, rfl⟩ := List.mem_map.mp h
    rw [rg_range] at hd
    have : rs.all rgOk = false := by
      rw [← Bool.not_eq_true, List.all_eq_true]
      intro z
      rw [z r hr] at hd
      cases hd
    simp [mapR, this]
theorem mapB_long {ds : List Da} (h : 2000 < ds.length) : mapB ds = false := by
  unfold mapB
  cases e : rgsOf ds with
  | none => rfl
  | some rs =>
    rw [rgsOf_some e, List.length_map] at h
    simp [mapR, show ¬ rs.length ≤ 2000 by omega]
theorem all_rg : ∀ {ds : List Da}, (∀ d ∈ ds, rangeD d = true) → ∃ rs : List Rg, ds = rs.map rg ∧ rs.all rgOk = true
  | [], _ => ⟨[], rfl, rfl⟩
  | d :: ds, h => by
    obtain ⟨r, rfl, h1⟩ := range_rg (h d (by simp))
    obtain ⟨rs, rfl, h2⟩ := all_rg (fun x hx => h x (List.mem_cons_of_mem _ hx))
    exact ⟨r :: rs, rfl, by simp [h1, h2]⟩
theorem map_ins (rs : List Rg) : rs.map (fun r => pr (ins r)) = (rs.map ins).map pr := by rw [List.map_map]; rfl
theorem map_outs (rs : List Rg) : rs.map (fun r => pr (outs r)) = (rs.map outs).map pr := by rw [List.map_map]; rfl
def sp_is_map : Fs := g1 fun a m R X => (okTy m a ∧ ∀ ds, listOf m a = some ds → (∀ d ∈ ds, Ok m d) ∧ ds.length ≤ 100000) ∧ R (.bl (mapD m a)) m
theorem mo_is_map : FMono sp_is_map := gm1 fun a m R R' X X' hr hx h => ⟨h.1, hr _ _ h.2⟩
abbrev fn_is_map (K : PySem.W.Frag) : Fn := ⟨sp_is_map, mo_is_map⟩
def S_is_map (T : Top w K mg) : SSt K :=
    (sSeq (sIf (stOr (stNot (sTru (sIsi .list (sVar 0)))) (sTest (sOp oGt (sCB cLen (sCons (sVar 0) sNil)) (sInt 2000))))
    (sRet (sBl false))
    sPass)
    (sSeq (sFor (iList (sVar 0)) (tgName 1)
    (sIf (stNot (sTru (sCall (fn_is_range K) (sCons (sVar 1) sNil))))
    (sRet (sBl false))
    sPass))
    (sSeq (sSet 2 (sCB cSorted (sCons (sLc (iList (sVar 0)) (tgTup [3, 4, 5]) sYes (sTup (sCons (sVar 3) (sCons (sVar 5) sNil))) [3, 4, 5]) sNil)))
    (sRet (sAnd (sCall (fn_are_apart K) (sCons (sVar 2) sNil)) (sCall (fn_are_apart K) (sCons (sCB cSorted (sCons (sLc (iList (sVar 0)) (tgTup [3, 4, 5]) sYes (sTup (sCons (sVar 4) (sCons (sVar 5) sNil))) [3, 4, 5]) sNil)) sNil)))))))
theorem rd_is_map (T : Top w K mg) {a : Da} {m : Sto} {R : Rk} {X : Xk} (h : (fn_is_map K).F [a] m R X) : (S_is_map T).w (dn n_is_map [a]) m (fun _ m' => R .non m') R X noN noN := by
  obtain ⟨⟨hty, hok⟩, h⟩ := h
  rcases lst_or m a with ⟨ds, l1, l2, l3, l4, l5, l6⟩ | ⟨l1, l2⟩
  · obtain ⟨hel, hlen⟩ := hok ds l1
    have h : R (.bl (mapB ds)) m := by
      unfold mapD at h
      rw [l1] at h
      exact h
    walk_at "go"
    rw [l2]
    walk_at "go"
    refine lenW_of l1 ?_
    walk_at "go"
    cases c : decide ((2000 : Int) < ds.length) with
    | true =>
      walk_at "go"
      rw [mapB_long (by have := of_decide_eq_true c; omega)] at h
      exact h
    | false =>
      have c' : ds.length ≤ 2000 := by have := of_decide_eq_false c; omega
      walk_at "go"
      refine itW_of l1 fun o ho => ?_
      have ed : ds = ds.map fun d => d := by simp
      rw [ed]
      refine for_invO (enc := fun d => d) (fun pre δ' m' => m' = m ∧ (∃ x, δ' = [some a, x, none, none, none, none]) ∧ ∀ d ∈ pre, rangeD d = true) (fun p δ' m' q => by rw [q.1]; exact ho) forT_mono _ [] ?_ ?_ _ _ ⟨rfl, ⟨_, rfl⟩, fun d h => by cases h⟩
      · rintro p d q δ' m' hs ⟨rfl, ⟨x, rfl⟩, hj⟩
        have hm : d ∈ ds := by rw [show ds = p ++ d :: q from hs]; simp
        walk_at "go"
        refine ⟨hel d hm, ?_⟩
        walk_at "go"
        cases c : rangeD d with
        | true =>
          walk_at "go"
          refine ⟨⟨_, rfl⟩, fun e he => ?_⟩
          rcases List.mem_append.mp he with q | q
          · exact hj e q
          · have : e = d := by simpa using q
            rw [this]
            exact c
        | false =>
          walk_at "go"
          rw [mapB_bad hm c] at h
          exact h
      · rintro δ' m' ⟨rfl, ⟨x, rfl⟩, hj⟩
        rw [List.nil_append] at hj
        obtain ⟨rs, rfl, hrs⟩ := all_rg hj
        have h2000 : rs.length ≤ 2000 := by rw [List.length_map] at c'; exact c'
        have hm : mapB (rs.map rg) = (apartB ((rs.map ins).mergeSort leP) && apartB ((rs.map outs).mergeSort leP)) := by
          unfold mapB
          rw [rgsOf_map]
          simp [mapR, hrs, h2000]
        rw [hm] at h
        walk_at "go"
        refine itW_of l1 fun o ho => ⟨by omega, lc_mapO (enc := rg) (mk := fun r => pr (ins r)) ho rs (fun r hr k0 k1 hk => ?_) ?_⟩
        · walk_at "go"
          exact hk
        walk_at "go"
        refine ⟨by rw [map_ins]; exact so_pr _, ?_⟩
        walk_at "go"
        refine ⟨(rs.map ins).mergeSort leP, ⟨by rw [← srt_pr, ← map_ins], by rw [List.length_mergeSort, List.length_map]; omega⟩, ?_⟩
        walk_at "go"
        cases ca : apartB ((rs.map ins).mergeSort leP) with
        | true =>
          rw [ca] at h
          walk_at "go"
          refine itW_of l1 fun o ho => ⟨by omega, lc_mapO (enc := rg) (mk := fun r => pr (outs r)) ho rs (fun r hr k0 k1 hk => ?_) ?_⟩
          · walk_at "go"
            exact hk
          walk_at "go"
          refine ⟨by rw [map_outs]; exact so_pr _, ?_⟩
          walk_at "go"
          exact ⟨(rs.map outs).mergeSort leP, ⟨by rw [← srt_pr, ← map_outs], by rw [List.length_mergeSort, List.length_map]; omega⟩, h⟩
        | false =>
          rw [ca] at h
          walk_at "go"
          exact h
  · walk_at "go"
    rw [l2]
    walk_at "go"
    have e3 : mapD m a = false := by unfold mapD; rw [l1]
    rw [e3] at h
    exact h
theorem ok_is_map (T : Top w K mg) : FnAt R.prog w K mg base 5 (He.ga K "is_map") p_is_map (spW K (fn_is_map K).F) := by
  have hl : ∀ ds m R X, (fn_is_map K).F ds m R X → ds.length = 1 := fun ds m R X h => by unfold fn_is_map at h; dsimp only at h; unfold sp_is_map at h; exact gl1 _ _ _ _ h
  refine fnAt_of (k := 4) T.d_is_map sc_is_map (fun vs H Q E q => spW_len (F := (fn_is_map K).F) hl q) (fun _ _ _ _ _ _ us hl => match us, hl with | [_], _ => rfl) fun cdv A outer s H vs Q E hr q => ⟨_, (pss_cons (ps_if (PW.pt (pw_or (pt_not (pt_truth (pe_callB call_isi (by rfl) T.fr_isinstance (by decide +kernel) (pa_cons (pv 0) (pa_cons (pe_bltn (v := .ty "list") (by rfl) T.fr_list (by decide +kernel) rfl) pa_nil))) (by intro _; rfl))) (pw_or1 (pt_cmpR op_gt (pe_callB (callr_or call_len_seq call_len_str) (by rfl) T.fr_len (by decide +kernel) (pa_cons (pv 0) pa_nil)) (pe_cint T.c_MOST_ROWS) (nomark _)))))
    (pss_one (ps_ret pe_bl))
    pss_nil)
    (pss_cons (ps_for (passes_of rfl) (by rfl) (pi_list (pv 0)) (pg_name (i := 1) sc_is_map.nd rfl (Or.inl rfl))
    (pss_one (ps_if (pt_not (pt_truth (pe_call (ok_is_range (base := base) T).ok (hr.mono (by decide)) (by rfl) T.gl_is_range (ok_is_range (base := base) T).kp (ok_is_range (base := base) T).bd .nil (passes_call (takes_of rfl rfl rfl rfl) (fun _ _ _ _ h => h)) (pa_cons (pv 1) pa_nil)) (by intro _; rfl)))
    (pss_one (ps_ret pe_bl))
    pss_nil)))
    (pss_cons (ps_set (i := 2) sc_is_map.nd rfl (Or.inl rfl) (pe_callB (cr_sortedD hr) (by rfl) T.fr_sorted (by decide +kernel) (pa_cons (pe_lc (own := [("inside", 3), ("outside", 4), ("count", 5)]) (g := ((tgTup [3, 4, 5]) : STg K).t) (te := ((sTup (sCons (sVar 3) (sCons (sVar 5) sNil))) : SE K).t E0) (tt := (sYes : STe K).t E0) (by rfl) sc_is_map.nd (pi_list (pv 0)) (blkOk_by (own := [("inside", 3), ("outside", 4), ("count", 5)]) (N := n_is_map) (sc := defScope s_is_map) (by decide +kernel)) (fun _ _ _ _ _ => (pg_tup (n := 3) (by rfl) (pgs_cons (pg_name (i := 3) sc_is_map.nd rfl (Or.inl rfl)) (pgs_cons (pg_name (i := 4) sc_is_map.nd rfl (Or.inl rfl)) (pgs_cons (pg_name (i := 5) sc_is_map.nd rfl (Or.inl rfl)) pgs_nil))))) (fun _ _ _ _ _ => pts_nil) (fun _ _ _ _ _ => by exact pe_eq (pe_tup (pa_cons (pv 3) (pa_cons (pv 5) pa_nil))) (by (try dsimp only [cxOf, L2.Cx.blk]) <;> exact rfl))) pa_nil)))
    (pss_one (ps_ret (pe_andT (pe_call (ok_are_apart (base := base) T).ok (hr.mono (by decide)) (by rfl) T.gl_are_apart (ok_are_apart (base := base) T).kp (ok_are_apart (base := base) T).bd .nil (passes_call (takes_of rfl rfl rfl rfl) (fun _ _ _ _ h => h)) (pa_cons (pv 2) pa_nil)) (pe_one (pe_call (ok_are_apart (base := base) T).ok (hr.mono (by decide)) (by rfl) T.gl_are_apart (ok_are_apart (base := base) T).kp (ok_are_apart (base := base) T).bd .nil (passes_call (takes_of rfl rfl rfl rfl) (fun _ _ _ _ h => h)) (pa_cons (pe_callB (cr_sortedD hr) (by rfl) T.fr_sorted (by decide +kernel) (pa_cons (pe_lc (own := [("inside", 3), ("outside", 4), ("count", 5)]) (g := ((tgTup [3, 4, 5]) : STg K).t) (te := ((sTup (sCons (sVar 4) (sCons (sVar 5) sNil))) : SE K).t E0) (tt := (sYes : STe K).t E0) (by rfl) sc_is_map.nd (pi_list (pv 0)) (blkOk_by (own := [("inside", 3), ("outside", 4), ("count", 5)]) (N := n_is_map) (sc := defScope s_is_map) (by decide +kernel)) (fun _ _ _ _ _ => (pg_tup (n := 3) (by rfl) (pgs_cons (pg_name (i := 3) sc_is_map.nd rfl (Or.inl rfl)) (pgs_cons (pg_name (i := 4) sc_is_map.nd rfl (Or.inl rfl)) (pgs_cons (pg_name (i := 5) sc_is_map.nd rfl (Or.inl rfl)) pgs_nil))))) (fun _ _ _ _ _ => pts_nil) (fun _ _ _ _ _ => by exact pe_eq (pe_tup (pa_cons (pv 4) (pa_cons (pv 5) pa_nil))) (by (try dsimp only [cxOf, L2.Cx.blk]) <;> exact rfl))) pa_nil)) pa_nil))))))))), spW_eq (N := n_is_map) (S_is_map T) (by kernel_rfl) (fun ds m R X h => by rw [hl ds m R X h]; decide) (fun ds m R X h => ?_) q⟩
  have h2 := h
  unfold fn_is_map at h2; dsimp only at h2; unfold sp_is_map at h2
  obtain ⟨a, rfl, _⟩ := g1_of h2
  exact rd_is_map T h

end
end G

set_option maxHeartbeats 4000000
namespace G
open PySem PySem.Spec PyProof.Rows L2

local macro_rules | `(tactic| walk_at "go") => `(tactic| ((conv => whnf); repeat ((first | refine isi_of (by first | assumption | exact trivial) ?_ | rw [Sto.put_same] | refine And.intro (by first | exact rfl | exact trivial | exact Nat.le_of_ble_eq_true rfl) ?_); (conv => whnf))))
local macro_rules | `(tactic| walk_at "wk") => `(tactic| ((repeat (walk_at "go"; first | refine optK_of (by first | assumption | exact Sto.put_same) ?_ | refine And.intro (by show (0 : Int) < _; decide) ?_ | refine And.intro (And.intro (by show (0 : Int) < _; decide) (by decide)) ?_ | refine And.intro (show CPow _ _ from ⟨by decide, by decide, by decide⟩) ?_)); try walk_at "go"))

section
variable {w : World} {K : PySem.W.Frag} {mg : Str → Option Value} {base : Heap}
theorem nil_or_snoc {α : Type} (l : List α) : l = [] ∨ ∃ i x, l = i ++ [x] := by
  rcases List.eq_nil_or_concat l with h | ⟨i, x, h⟩
  · exact .inl h
  · exact .inr ⟨i, x, by rw [h, List.concat_eq_append]⟩
/-- the rows in order, adjoining ones joined -/
def stepO (acc : List Rg) (r : Rg) : List Rg := match acc.getLast? with
  | some (a, g, n) => if r.1 = a + n ∧ r.2.1 = g + n then acc.dropLast ++ [(a, g, n + r.2.2)] else acc ++ [r]
  | none => acc ++ [r]
def inOrder (rs : List Rg) : List Rg := (rs.mergeSort leR).foldl stepO []
theorem stepO_len1 (acc : List Rg) (r : Rg) : (stepO acc r).length ≤ acc.length + 1 := by
  unfold stepO
  split
  · split <;> simp
  · simp
theorem stepO_len : ∀ (rs : List Rg) (acc : List Rg), (rs.foldl stepO acc).length ≤ acc.length + rs.length
  | [], acc => by simp
  | r :: rs, acc => by
    have h1 := stepO_len rs (stepO acc r)
    have h2 := stepO_len1 acc r
    simp only [List.foldl_cons, List.length_cons]
    omega
/-- a new list of them -/
def sp_in_order : Fs := g1 fun a m R X => ∃ rs : List Rg, (listOf m a = some (rs.map rg) ∧ rs.length ≤ 100000) ∧ R (.lst ((inOrder rs).map rg)) m
theorem mo_in_order : FMono sp_in_order := gm1 fun a m R R' X X' hr hx ⟨rs, h, k⟩ => ⟨rs, h, hr _ _ k⟩
abbrev fn_in_order (K : PySem.W.Frag) : Fn := ⟨sp_in_order, mo_in_order⟩
def S_in_order (T : Top w K mg) : SSt K :=
    (sSeq (sSet 1 (sLstM sNil))
    (sSeq (sFor (iList (sCB cSorted (sCons (sVar 0) sNil))) (tgTup [2, 3, 4])
    (sSeq (sIf (sTru (sVar 1))
    (sSeq (sAsg (tgTup [5, 6, 7]) (sOp oIx (sVar 1) (sNeg (sInt 1))))
    (sIf (stAnd (sTest (sOp oEq (sVar 2) (sOp oAdd (sVar 5) (sVar 7)))) (sTest (sOp oEq (sVar 3) (sOp oAdd (sVar 6) (sVar 7)))))
    (sSeq (sSetI (sVar 1) (sNeg (sInt 1)) (sTup (sCons (sVar 5) (sCons (sVar 6) (sCons (sOp oAdd (sVar 7) (sVar 4)) sNil)))))
    sCont)
    sPass))
    sPass)
    (sDrop (sApp (sVar 1) (sTup (sCons (sVar 2) (sCons (sVar 3) (sCons (sVar 4) sNil))))))))
    (sFrzS 1 (sRet (sVar 1)))))
theorem del_put' {m : Sto} {p : Addr} {c : Cell} (h : m p = none) : (m.put p c).del p = m := del_put h
theorem listOf_put {m : Sto} {p : Addr} {c : Cell} {d : Da} {ds : List Da} (hp : m p = none) (h : listOf m d = some ds) : listOf (m.put p c) d = some ds := by
  cases d with
  | lst ds => exact h
  | adr a =>
    have e := listOf_adr h
    have ne : a ≠ p := fun z => by rw [z, hp] at e; cases e
    simp only [listOf, Sto.put_ne ne, e]
  | _ => cases h
theorem rd_in_order (T : Top w K mg) {a : Da} {m : Sto} {R : Rk} {X : Xk} (h : (fn_in_order K).F [a] m R X) : (S_in_order T).w (dn n_in_order [a]) m (fun _ m' => R .non m') R X noN noN := by
  obtain ⟨rs, ⟨e1, hl⟩, h⟩ := h
  walk_at "go"
  intro p hp
  walk_at "go"
  refine lstK_of (listOf_put hp e1) ⟨so_rg rs, ?_⟩
  walk_at "go"
  rw [srt_rg]
  refine for_inv (enc := rg) (fun pre δ' m' => m' = m.put p (.lst ((pre.foldl stepO []).map rg)) ∧ ∃ x2 x3 x4 x5 x6 x7, δ' = [some a, some (.adr p), x2, x3, x4, x5, x6, x7]) forT_mono _ [] ?_ ?_ _ _ ⟨rfl, _, _, _, _, _, _, rfl⟩
  · rintro pre ⟨r1, r2, r3⟩ post δ' m' hl0 ⟨rfl, x2, x3, x4, x5, x6, x7, rfl⟩
    have hlen : (pre.foldl stepO []).length < 100000 := by
      have h1 := stepO_len pre []
      have h2 := congrArg List.length hl0
      rw [List.nil_append, List.length_mergeSort, List.length_append] at h2
      simp only [List.length_cons, List.length_nil] at h1 h2
      omega
    have hf : (pre ++ [(r1, r2, r3)]).foldl stepO [] = stepO (pre.foldl stepO []) (r1, r2, r3) := by rw [List.foldl_append]; rfl
    rw [hf]
    generalize pre.foldl stepO [] = acc at hlen ⊢
    walk_at "go"
    rcases nil_or_snoc acc with rfl | ⟨init, ⟨a1, a2, a3⟩, rfl⟩
    · walk_at "go"
      exact ⟨by rw [put_put]; rfl, _, _, _, _, _, _, rfl⟩
    · have hne : ((init ++ [(a1, a2, a3)]).map rg).isEmpty = false := by simp
      have hla : (((init ++ [(a1, a2, a3)]).map rg).reverse)[0]? = some (rg (a1, a2, a3)) := by simp
      rw [hne]
      walk_at "go"
      rw [hla]
      walk_at "go"
      have hso : stepO (init ++ [(a1, a2, a3)]) (r1, r2, r3) = if r1 = a1 + a3 ∧ r2 = a2 + a3 then init ++ [(a1, a2, a3 + r3)] else init ++ [(a1, a2, a3)] ++ [(r1, r2, r3)] := by
        unfold stepO
        simp
      have hn : Nat.ble (0 + 1) ((init ++ [(a1, a2, a3)]).map rg).length = true := Nat.ble_eq_true_of_le (by simp)
      cases c1 : decide (r1 = a1 + a3) with
      | true =>
        walk_at "go"
        cases c2 : decide (r2 = a2 + a3) with
        | true =>
          rw [if_pos ⟨of_decide_eq_true c1, of_decide_eq_true c2⟩] at hso
          rw [hso]
          walk_at "go"
          rw [hn]
          walk_at "go"
          refine ⟨?_, _, _, _, _, _, _, rfl⟩
          rw [put_put]
          congr 2
          simp
        | false =>
          rw [if_neg (fun z => of_decide_eq_false c2 z.2)] at hso
          rw [hso]
          walk_at "go"
          exact ⟨by rw [List.length_map]; exact hlen, by rw [put_put]; simp, _, _, _, _, _, _, rfl⟩
      | false =>
        rw [if_neg (fun z => of_decide_eq_false c1 z.1)] at hso
        rw [hso]
        walk_at "go"
        exact ⟨by rw [List.length_map]; exact hlen, by rw [put_put]; simp, _, _, _, _, _, _, rfl⟩
  · rintro δ' m' ⟨rfl, x2, x3, x4, x5, x6, x7, rfl⟩
    walk_at "go"
    rw [del_put hp]
    exact h
theorem ok_in_order (T : Top w K mg) : FnAt R.prog w K mg base 1 (He.ga K "in_order") p_in_order (spW K (fn_in_order K).F) := by
  have hl : ∀ ds m R X, (fn_in_order K).F ds m R X → ds.length = 1 := fun ds m R X h => by unfold fn_in_order at h; dsimp only at h; unfold sp_in_order at h; exact gl1 _ _ _ _ h
  refine fnAt_of (k := 0) T.d_in_order sc_in_order (fun vs H Q E q => spW_len (F := (fn_in_order K).F) hl q) (fun _ _ _ _ _ _ us hl => match us, hl with | [_], _ => rfl) fun cdv A outer s H vs Q E hr q => ⟨_, (pss_cons (ps_set (i := 1) sc_in_order.nd rfl (Or.inl rfl) (pe_lst pa_nil))
    (pss_cons (ps_for (passes_of rfl) (by rfl) (pi_list (pe_callB (cr_sortedD hr) (by rfl) T.fr_sorted (by decide +kernel) (pa_cons (pv 0) pa_nil))) (pg_tup (n := 3) (by rfl) (pgs_cons (pg_name (i := 2) sc_in_order.nd rfl (Or.inl rfl)) (pgs_cons (pg_name (i := 3) sc_in_order.nd rfl (Or.inl rfl)) (pgs_cons (pg_name (i := 4) sc_in_order.nd rfl (Or.inl rfl)) pgs_nil))))
    (pss_cons (ps_if (pt_truth (pv 1) (by intro _; rfl))
    (pss_cons (ps_asg (pe_ix ix_seq (pv 1) (pe_un un_neg pe_int) (fun _ _ => rfl)) (pg_tup (n := 3) (by rfl) (pgs_cons (pg_name (i := 5) sc_in_order.nd rfl (Or.inl rfl)) (pgs_cons (pg_name (i := 6) sc_in_order.nd rfl (Or.inl rfl)) (pgs_cons (pg_name (i := 7) sc_in_order.nd rfl (Or.inl rfl)) pgs_nil)))))
    (pss_one (ps_if (PW.pt (pw_and (pt_cmpR (op_eqU hr.units) (pv 2) (pe_op op_addU (pv 5) (pv 7)) (nomark _)) (pw_and1 (pt_cmpR (op_eqU hr.units) (pv 3) (pe_op op_addU (pv 6) (pv 7)) (nomark _)))))
    (pss_cons (ps_asg (pe_tup (pa_cons (pv 5) (pa_cons (pv 6) (pa_cons (pe_op op_addU (pv 7) (pv 4)) pa_nil)))) (pg_sub (pv 1) (pe_un un_neg pe_int) set_list))
    (pss_one ps_continue))
    pss_nil)))
    pss_nil)
    (pss_one (ps_expr (pe_bm PySem.F.plainAttrs_list PySem.F.slot_list_append PySem.F.type_list_append mt_append (pv 1) (pa_cons (pe_tup (pa_cons (pv 2) (pa_cons (pv 3) (pa_cons (pv 4) pa_nil)))) pa_nil))))))
    (pss_one (ps_ret (pv 1))))), spW_eq (N := n_in_order) (S_in_order T) (by kernel_rfl) (fun ds m R X h => by rw [hl ds m R X h]; decide) (fun ds m R X h => ?_) q⟩
  have h2 := h
  unfold fn_in_order at h2; dsimp only at h2; unfold sp_in_order at h2
  obtain ⟨a, rfl, _⟩ := g1_of h2
  exact rd_in_order T h
/-- the data of a map of ranges -/
def mapObj (K : PySem.W.Frag) (rs : List Rg) : Da := .obj (He.ga K "RangeMap") [(0, .lst (rs.map rg))]
def sp_RangeMapD_initD (K : PySem.W.Frag) : Fs := g2 fun a b m R X => ∃ p, (a = .adr p ∧ m p = some (.ins (He.ga K "RangeMap") []) ∧ okTy m b ∧ ∀ ds, listOf m b = some ds → (∀ d ∈ ds, Ok m d) ∧ ds.length ≤ 100000) ∧
  if mapD m b = true then ∃ rs : List Rg, listOf m b = some (rs.map rg) ∧ R .non (m.put p (.ins (He.ga K "RangeMap") [(0, .lst ((inOrder rs).map rg))])) else X ("NoMap", none) m
theorem mo_RangeMapD_initD {K : PySem.W.Frag} : FMono (sp_RangeMapD_initD K) := gm2 fun a b m R R' X X' hr hx ⟨p, h1, h6⟩ => ⟨p, h1, by
  by_cases c : mapD m b = true
  · rw [if_pos c] at h6 ⊢
    obtain ⟨rs, e, k⟩ := h6
    exact ⟨rs, e, hr _ _ k⟩
  · rw [if_neg c] at h6 ⊢
    exact hx _ _ h6⟩
abbrev fn_RangeMapD_initD (K : PySem.W.Frag) : Fn := ⟨sp_RangeMapD_initD K, mo_RangeMapD_initD⟩
def S_RangeMapD_initD (T : Top w K mg) : SSt K :=
    (sSeq (sIf (stNot (sTru (sCall (fn_is_map K) (sCons (sVar 1) sNil))))
    (sRaise "NoMap")
    sPass)
    (sFldS (sVar 0) 0 (sCall (fn_in_order K) (sCons (sVar 1) sNil))))
theorem rd_RangeMapD_initD (T : Top w K mg) {a b : Da} {m : Sto} {R : Rk} {X : Xk} (h : (fn_RangeMapD_initD K).F [a, b] m R X) : (S_RangeMapD_initD T).w (dn n_RangeMapD_initD [a, b]) m (fun _ m' => R .non m') R X noN noN := by
  obtain ⟨p, ⟨rfl, hm, hty, hok⟩, h⟩ := h
  walk_at "go"
  refine ⟨⟨hty, hok⟩, ?_⟩
  walk_at "go"
  cases c : mapD m b with
  | true =>
    rw [if_pos c] at h
    obtain ⟨rs, e, h⟩ := h
    walk_at "go"
    refine ⟨rs, ⟨e, by have := (hok _ e).2; rw [List.length_map] at this; exact this⟩, ?_⟩
    walk_at "go"
    refine insAt_of hm ⟨rfl, ?_⟩
    walk_at "go"
    exact h
  | false =>
    rw [if_neg (by rw [c]; decide)] at h
    walk_at "go"
    exact h
theorem ok_RangeMapD_initD (T : Top w K mg) : FnAt R.prog w K mg base 6 (He.ma K (He.ga K "RangeMap") "__init__") p_RangeMapD_initD (spW K (fn_RangeMapD_initD K).F) := by
  have hl : ∀ ds m R X, (fn_RangeMapD_initD K).F ds m R X → ds.length = 2 := fun ds m R X h => by unfold fn_RangeMapD_initD at h; dsimp only at h; unfold sp_RangeMapD_initD at h; exact gl2 _ _ _ _ h
  refine fnAt_of (k := 5) T.d_RangeMapD_initD sc_RangeMapD_initD (fun vs H Q E q => spW_len (F := (fn_RangeMapD_initD K).F) hl q) (fun _ _ _ _ _ _ us hl => match us, hl with | [_, _], _ => rfl) fun cdv A outer s H vs Q E hr q => ⟨_, (pss_cons (ps_if (pt_not (pt_truth (pe_call (ok_is_map (base := base) T).ok (hr.mono (by decide)) (by rfl) T.gl_is_map (ok_is_map (base := base) T).kp (ok_is_map (base := base) T).bd .nil (passes_call (takes_of rfl rfl rfl rfl) (fun _ _ _ _ h => h)) (pa_cons (pv 1) pa_nil)) (by intro _; rfl)))
    (pss_one (ps_raise rfl (takes_of rfl rfl rfl rfl) (pmk_own PySem.F.excBase_ValueError (T.x_NoMap).1 T.gl_NoMap (T.x_NoMap).2.1 (raises_own (T.x_NoMap).2.2.1 (T.x_NoMap).2.2.2) (by exact rfl))))
    pss_nil)
    (pss_one (ps_fld (pv 0) (pe_call (ok_in_order (base := base) T).ok (hr.mono (by decide)) (by rfl) T.gl_in_order (ok_in_order (base := base) T).kp (ok_in_order (base := base) T).bd .nil (passes_call (takes_of rfl rfl rfl rfl) (fun _ _ _ _ h => h)) (pa_cons (pv 1) pa_nil)) rfl))), spW_eq (N := n_RangeMapD_initD) (S_RangeMapD_initD T) (by kernel_rfl) (fun ds m R X h => by rw [hl ds m R X h]; decide) (fun ds m R X h => ?_) q⟩
  have h2 := h
  unfold fn_RangeMapD_initD at h2; dsimp only at h2; unfold sp_RangeMapD_initD at h2
  obtain ⟨a, b, rfl, _⟩ := g2_of h2
  exact rd_RangeMapD_initD T h
def sp_RangeMap_ranges (K : PySem.W.Frag) : Fs := g1 fun a m R X => ∃ rs : List Rg, a = mapObj K rs ∧ R (.lst (rs.map rg)) m
theorem mo_RangeMap_ranges {K : PySem.W.Frag} : FMono (sp_RangeMap_ranges K) := gm1 fun a m R R' X X' hr hx ⟨rs, h1, h2⟩ => ⟨rs, h1, hr _ _ h2⟩
abbrev fn_RangeMap_ranges (K : PySem.W.Frag) : Fn := ⟨sp_RangeMap_ranges K, mo_RangeMap_ranges⟩
def S_RangeMap_ranges (T : Top w K mg) : SSt K :=
    (sRet (sCB cList (sCons (sFld (sVar 0) 0) sNil)))
theorem rd_RangeMap_ranges (T : Top w K mg) {a : Da} {m : Sto} {R : Rk} {X : Xk} (h : (fn_RangeMap_ranges K).F [a] m R X) : (S_RangeMap_ranges T).w (dn n_RangeMap_ranges [a]) m (fun _ m' => R .non m') R X noN noN := by
  obtain ⟨rs, rfl, h⟩ := h
  walk_at "go"
  exact h
theorem ok_RangeMap_ranges (T : Top w K mg) : FnAt R.prog w K mg base 1 (He.ma K (He.ga K "RangeMap") "ranges") p_RangeMap_ranges (spW K (fn_RangeMap_ranges K).F) := by
  have hl : ∀ ds m R X, (fn_RangeMap_ranges K).F ds m R X → ds.length = 1 := fun ds m R X h => by unfold fn_RangeMap_ranges at h; dsimp only at h; unfold sp_RangeMap_ranges at h; exact gl1 _ _ _ _ h
  refine fnAt_of (k := 0) T.d_RangeMap_ranges sc_RangeMap_ranges (fun vs H Q E q => spW_len (F := (fn_RangeMap_ranges K).F) hl q) (fun _ _ _ _ _ _ us hl => match us, hl with | [_], _ => rfl) fun cdv A outer s H vs Q E hr q => ⟨_, (pss_one (ps_ret (pe_callTy call_list_of (by rfl) T.fr_list (by decide +kernel) (pa_cons (pe_fld (pv 0) rfl) pa_nil)))), spW_eq (N := n_RangeMap_ranges) (S_RangeMap_ranges T) (by kernel_rfl) (fun ds m R X h => by rw [hl ds m R X h]; decide) (fun ds m R X h => ?_) q⟩
  have h2 := h
  unfold fn_RangeMap_ranges at h2; dsimp only at h2; unfold sp_RangeMap_ranges at h2
  obtain ⟨a, rfl, _⟩ := g1_of h2
  exact rd_RangeMap_ranges T h
theorem ok_rgs {m : Sto} {rs : List Rg} (hl : rs.length ≤ 100000) : (∀ d ∈ rs.map rg, Ok m d) ∧ (rs.map rg).length ≤ 100000 := by
  refine ⟨fun d hd => ?_, by rw [List.length_map]; omega⟩
  obtain ⟨r, _, rfl⟩ := List.mem_map.mp hd
  refine .tup (fun e he => ?_) (by simp)
  simp at he
  rcases he with rfl | rfl | rfl <;> exact .sc trivial (fun _ => nofun) (fun _ => nofun) (fun _ => nofun)
theorem okTy_list {m : Sto} {d : Da} {ds : List Da} (e : listOf m d = some ds) : okTy m d := by
  cases d with
  | lst ds => trivial
  | adr a => exact ⟨_, listOf_adr e, rfl⟩
  | _ => cases e
theorem mapD_rg {m : Sto} {d : Da} {rs : List Rg} (e : listOf m d = some (rs.map rg)) : mapD m d = mapR rs := by
  unfold mapD mapB
  rw [e]
  dsimp only
  rw [rgsOf_map]
/-- RangeMap(..) of ranges that make a map: it stays -/
theorem mk_map {rs : List Rg} {m : Sto} {d : Da} {Φ : Rk} {Ψ : Xk} (e : listOf m d = some (rs.map rg)) (hm : mapR rs = true) (k : Φ (mapObj K (inOrder rs)) m) : ∀ a, m a = none → sp_RangeMapD_initD K [.adr a, d] (m.put a (.ins (He.ga K "RangeMap") [])) (fun d m2 => d = .non ∧ frzK (.adr a) m2 Φ) Ψ := fun a ha => by
  have hl : rs.length ≤ 2000 := by
    unfold mapR at hm
    simp at hm
    exact hm.1.1
  have e2 := listOf_put (c := .ins (He.ga K "RangeMap") []) ha e
  refine ⟨a, ⟨rfl, Sto.put_same, okTy_list e2, fun ds e3 => ?_⟩, ?_⟩
  · rw [e2] at e3
    cases e3
    exact ok_rgs (by omega)
  · rw [if_pos (by rw [mapD_rg e2]; exact hm)]
    refine ⟨rs, e2, rfl, optK_of Sto.put_same ?_⟩
    rw [put_put, del_put ha]
    exact k
/-- .. of others -/
theorem mk_nomap {m : Sto} {d : Da} {Φ : Rk} {Ψ : Xk} (o : okTy m d) (ok : ∀ ds, listOf m d = some ds → (∀ d ∈ ds, Ok m d) ∧ ds.length ≤ 100000) (hm : mapD m d = false) (k : Ψ ("NoMap", none) m) : True := trivial

end
end G

set_option maxHeartbeats 4000000
namespace G
open PySem PySem.Spec PyProof.Rows L2

local macro_rules | `(tactic| walk_at "go") => `(tactic| ((conv => whnf); repeat ((first | refine isi_of (by first | assumption | exact trivial) ?_ | rw [Sto.put_same] | refine And.intro (by first | exact rfl | exact trivial | exact Nat.le_of_ble_eq_true rfl) ?_); (conv => whnf))))
local macro_rules | `(tactic| walk_at "wk") => `(tactic| ((repeat (walk_at "go"; first | refine optK_of (by first | assumption | exact Sto.put_same) ?_ | refine And.intro (by show (0 : Int) < _; decide) ?_ | refine And.intro (And.intro (by show (0 : Int) < _; decide) (by decide)) ?_ | refine And.intro (show CPow _ _ from ⟨by decide, by decide, by decide⟩) ?_)); try walk_at "go"))

section
variable {w : World} {K : PySem.W.Frag} {mg : Str → Option Value} {base : Heap}
/-! forms of deeds -/
def forms : List (Str × Str) := [("fork", ""), ("drop", ""), ("end", "i"), ("set", "uuu"), ("exec", "n"), ("unshare", ""), ("join", "i"), ("map", "ir"), ("create", "nb"), ("remove", "n"), ("bits", "nb"), ("own", "nu"), ("read", "n"), ("write", "n")]
def formOf (w : Str) : Option Str := forms.lookup w
theorem lookup_mapv {f : Str → V} (w : Str) : ∀ l : List (Str × Str), (l.map fun q => (q.1, f q.2)).lookup w = (l.lookup w).map f
  | [] => rfl
  | (k, x) :: r => by
    simp only [List.map_cons, List.lookup]
    cases w == k with
    | true => rfl
    | false => exact lookup_mapv w r
theorem look_forms (w : Str) : (ktab_FORMS K).lookup w = (formOf w).map V.str := by
  have e : ktab_FORMS K = forms.map fun q => (q.1, V.str q.2) := rfl
  rw [e, lookup_mapv]
  rfl
theorem form_len {w f : Str} (h : formOf w = some f) : f.length ≤ 3 := by
  have key : ∀ l : List (Str × Str), (∀ q ∈ l, q.2.length ≤ 3) → l.lookup w = some f → f.length ≤ 3 := by
    intro l
    induction l with
    | nil => intro _ h; cases h
    | cons q l ih =>
      intro hl h
      simp only [List.lookup] at h
      cases e : w == q.1 with
      | true => rw [e] at h; cases h; exact hl q (by simp)
      | false => rw [e] at h; exact ih (fun x hx => hl x (List.mem_cons_of_mem _ hx)) h
  exact key forms (by decide) h
def entryD (d : Da) (c : Nat) : Bool :=
  if c = 105 then wholeD d else if c = 117 then isN d || wholeD d else if c = 110 then nameD d else if c = 114 then true else bitsD d
theorem eqS_sign {c : Nat} {z : Str} {k : Nat} (hz : z = sign k) : eqS (sign c) z = decide (c = k) := by
  subst hz
  rw [eqS_def, Bool.eq_iff_iff]
  simp [sign]
def sp_is_entry : Fs := g2 fun a b m R X => ∃ c, (b = .str (sign c) ∧ Ok m a) ∧ R (.bl (entryD a c)) m
theorem mo_is_entry : FMono sp_is_entry := gm2 fun a b m R R' X X' hr hx ⟨c, e, h⟩ => ⟨c, e, hr _ _ h⟩
abbrev fn_is_entry (K : PySem.W.Frag) : Fn := ⟨sp_is_entry, mo_is_entry⟩
def S_is_entry (T : Top w K mg) : SSt K :=
    (sSeq (sIf (sTest (sOp oEq (sVar 1) (sStr "i")))
    (sRet (sCall (fn_is_whole K) (sCons (sVar 0) sNil)))
    sPass)
    (sSeq (sIf (sTest (sOp oEq (sVar 1) (sStr "u")))
    (sRet (sOr (sOp oIsN (sVar 0) sNon) (sCall (fn_is_whole K) (sCons (sVar 0) sNil))))
    sPass)
    (sSeq (sIf (sTest (sOp oEq (sVar 1) (sStr "n")))
    (sRet (sCall (fn_is_name K) (sCons (sVar 0) sNil)))
    sPass)
    (sRet (sOr (sOp oEq (sVar 1) (sStr "r")) (sCall (fn_is_bits K) (sCons (sVar 0) sNil)))))))
theorem rd_is_entry (T : Top w K mg) {a b : Da} {m : Sto} {R : Rk} {X : Xk} (h : (fn_is_entry K).F [a, b] m R X) : (S_is_entry T).w (dn n_is_entry [a, b]) m (fun _ m' => R .non m') R X noN noN := by
  obtain ⟨c, ⟨rfl, hok⟩, h⟩ := h
  walk_at "go"
  rw [eqS_sign (k := 105) (by decide +kernel)]
  unfold entryD at h
  by_cases c1 : c = 105
  · rw [if_pos c1] at h
    rw [decide_eq_true c1]
    walk_at "go"
    exact ⟨hok.ty, h⟩
  rw [if_neg c1] at h
  rw [decide_eq_false c1]
  walk_at "go"
  rw [eqS_sign (k := 117) (by decide +kernel)]
  by_cases c2 : c = 117
  · rw [if_pos c2] at h
    rw [decide_eq_true c2]
    walk_at "go"
    cases e : isN a with
    | true =>
      rw [e] at h
      walk_at "go"
      exact h
    | false =>
      rw [e] at h
      walk_at "go"
      exact ⟨hok.ty, h⟩
  rw [if_neg c2] at h
  rw [decide_eq_false c2]
  walk_at "go"
  rw [eqS_sign (k := 110) (by decide +kernel)]
  by_cases c3 : c = 110
  · rw [if_pos c3] at h
    rw [decide_eq_true c3]
    walk_at "go"
    exact ⟨⟨hok.ty, hok.st⟩, h⟩
  rw [if_neg c3] at h
  rw [decide_eq_false c3]
  walk_at "go"
  rw [eqS_sign (k := 114) (by decide +kernel)]
  by_cases c4 : c = 114
  · rw [if_pos c4] at h
    rw [decide_eq_true c4]
    walk_at "go"
    exact h
  rw [if_neg c4] at h
  rw [decide_eq_false c4]
  walk_at "go"
  exact ⟨hok.ty, h⟩
theorem ok_is_entry (T : Top w K mg) : FnAt R.prog w K mg base 2 (He.ga K "is_entry") p_is_entry (spW K (fn_is_entry K).F) := by
  have hl : ∀ ds m R X, (fn_is_entry K).F ds m R X → ds.length = 2 := fun ds m R X h => by unfold fn_is_entry at h; dsimp only at h; unfold sp_is_entry at h; exact gl2 _ _ _ _ h
  refine fnAt_of (k := 1) T.d_is_entry sc_is_entry (fun vs H Q E q => spW_len (F := (fn_is_entry K).F) hl q) (fun _ _ _ _ _ _ us hl => match us, hl with | [_, _], _ => rfl) fun cdv A outer s H vs Q E hr q => ⟨_, (pss_cons (ps_if (pt_cmpR (op_eqU hr.units) (pv 1) pe_str (nomark _))
    (pss_one (ps_ret (pe_call (ok_is_whole (base := base) T).ok (hr.mono (by decide)) (by rfl) T.gl_is_whole (ok_is_whole (base := base) T).kp (ok_is_whole (base := base) T).bd .nil (passes_call (takes_of rfl rfl rfl rfl) (fun _ _ _ _ h => h)) (pa_cons (pv 0) pa_nil))))
    pss_nil)
    (pss_cons (ps_if (pt_cmpR (op_eqU hr.units) (pv 1) pe_str (nomark _))
    (pss_one (ps_ret (pe_orT (pe_cmpR op_isN (pv 0) pe_non (nomark _)) (pe_one (pe_call (ok_is_whole (base := base) T).ok (hr.mono (by decide)) (by rfl) T.gl_is_whole (ok_is_whole (base := base) T).kp (ok_is_whole (base := base) T).bd .nil (passes_call (takes_of rfl rfl rfl rfl) (fun _ _ _ _ h => h)) (pa_cons (pv 0) pa_nil))))))
    pss_nil)
    (pss_cons (ps_if (pt_cmpR (op_eqU hr.units) (pv 1) pe_str (nomark _))
    (pss_one (ps_ret (pe_call (ok_is_name (base := base) T).ok (hr.mono (by decide)) (by rfl) T.gl_is_name (ok_is_name (base := base) T).kp (ok_is_name (base := base) T).bd .nil (passes_call (takes_of rfl rfl rfl rfl) (fun _ _ _ _ h => h)) (pa_cons (pv 0) pa_nil))))
    pss_nil)
    (pss_one (ps_ret (pe_orT (pe_cmpR (op_eqU hr.units) (pv 1) pe_str (nomark _)) (pe_one (pe_call (ok_is_bits (base := base) T).ok (hr.mono (by decide)) (by rfl) T.gl_is_bits (ok_is_bits (base := base) T).kp (ok_is_bits (base := base) T).bd .nil (passes_call (takes_of rfl rfl rfl rfl) (fun _ _ _ _ h => h)) (pa_cons (pv 0) pa_nil))))))))), spW_eq (N := n_is_entry) (S_is_entry T) (by kernel_rfl) (fun ds m R X h => by rw [hl ds m R X h]; decide) (fun ds m R X h => ?_) q⟩
  have h2 := h
  unfold fn_is_entry at h2; dsimp only at h2; unfold sp_is_entry at h2
  obtain ⟨a, b, rfl, _⟩ := g2_of h2
  exact rd_is_entry T h
theorem form_len2 {w f : Str} (h : formOf w = some f) : f.cps.toList.length ≤ 3 := form_len h
/-- has it a form of a deed -/
def deedD : Da → Bool
  | .tup (.str w :: x :: es) => match formOf w with
    | some f => decide (es.length = f.cps.toList.length) && wholeD x && (es.zip f.cps.toList).all fun q => entryD q.1 q.2
    | none => false
  | _ => false
theorem deed_none {w : Str} {x : Da} {es : List Da} (h : formOf w = none) : deedD (.tup (.str w :: x :: es)) = false := by
  show (match formOf w with
    | some f => decide (es.length = f.cps.toList.length) && wholeD x && (es.zip f.cps.toList).all fun q => entryD q.1 q.2
    | none => false) = _
  rw [h]
theorem deed_some {w f : Str} {x : Da} {es : List Da} (h : formOf w = some f) : deedD (.tup (.str w :: x :: es)) = (decide (es.length = f.cps.toList.length) && wholeD x && (es.zip f.cps.toList).all fun q => entryD q.1 q.2) := by
  show (match formOf w with
    | some f => decide (es.length = f.cps.toList.length) && wholeD x && (es.zip f.cps.toList).all fun q => entryD q.1 q.2
    | none => false) = _
  rw [h]
theorem deed_short {ds : List Da} (h : ds.length < 2) : deedD (.tup ds) = false := by
  match ds, h with
  | [], _ => rfl
  | [d], _ => cases d <;> rfl
theorem deed_nostr {d : Da} {ds : List Da} (h : isStrD d = false) : deedD (.tup (d :: ds)) = false := by
  cases d <;> first | rfl | cases h
def enc2 (q : Da × Nat) : Da := .tup [q.1, .str (sign q.2)]
theorem zip_signs (es : List Da) (l : List Nat) : (es.zip (l.map fun c => Da.str (sign c))).map (fun q => Da.tup [q.1, q.2]) = (es.zip l).map enc2 := by
  induction es generalizing l with
  | nil => rfl
  | cons e es ih => cases l with
    | nil => rfl
    | cons c l => simp only [List.map_cons, List.zip_cons_cons, ih]; rfl
def sp_is_deed : Fs := g1 fun a m R X => (Ok m a ∧ ∀ ds, a = .tup ds → ds.length ≤ 100000) ∧ R (.bl (deedD a)) m
theorem mo_is_deed : FMono sp_is_deed := gm1 fun a m R R' X X' hr hx h => ⟨h.1, hr _ _ h.2⟩
abbrev fn_is_deed (K : PySem.W.Frag) : Fn := ⟨sp_is_deed, mo_is_deed⟩
def S_is_deed (T : Top w K mg) : SSt K :=
    (sSeq (sIf (stOr (stNot (sTru (sIsi .tuple (sVar 0)))) (stOr (sTest (sOp oLt (sCB cLen (sCons (sVar 0) sNil)) (sInt 2))) (stOr (stNot (sTru (sIsi .str (sOp oIx (sVar 0) (sInt 0))))) (sTest (sOp (oNotInT (He.ga K "FORMS") (ktab_FORMS K)) (sOp oIx (sVar 0) (sInt 0)) (sAdr (He.ga K "FORMS")))))))
    (sRet (sBl false))
    sPass)
    (sSeq (sSet 1 (sOp (oIxT (He.ga K "FORMS") (ktab_FORMS K)) (sAdr (He.ga K "FORMS")) (sOp oIx (sVar 0) (sInt 0))))
    (sSeq (sIf (stOr (sTest (sOp oNe (sCB cLen (sCons (sVar 0) sNil)) (sOp oAdd (sInt 2) (sCB cLen (sCons (sVar 1) sNil))))) (stNot (sTru (sCall (fn_is_whole K) (sCons (sOp oIx (sVar 0) (sInt 1)) sNil)))))
    (sRet (sBl false))
    sPass)
    (sRet (sCB cAll (sCons (sLc (iZip (sCons (sSl (sVar 0) (poSo (sInt 2)) poNo) (sCons (sVar 1) sNil))) (tgTup [2, 3]) sYes (sCall (fn_is_entry K) (sCons (sVar 2) (sCons (sVar 3) sNil))) [2, 3]) sNil))))))
theorem rd_is_deed (T : Top w K mg) {a : Da} {m : Sto} {R : Rk} {X : Xk} (h : (fn_is_deed K).F [a] m R X) : (S_is_deed T).w (dn n_is_deed [a]) m (fun _ m' => R .non m') R X noN noN := by
  obtain ⟨⟨hok, hlen⟩, h⟩ := h
  have hty := hok.ty
  rcases tup_or m a with ⟨ds, rfl⟩ | ⟨e, e2⟩
  · walk_at "go"
    by_cases c1 : ds.length < 2
    · rw [show decide ((ds.length : Int) < 2) = true from decide_eq_true (by omega)]
      walk_at "go"
      rw [deed_short c1] at h
      exact h
    · rw [show decide ((ds.length : Int) < 2) = false from decide_eq_false (by omega)]
      rcases ds with _ | ⟨x, _ | ⟨y, es⟩⟩
      · exact absurd (by simp) c1
      · exact absurd (by simp) c1
      · have hx := hok.tu x (by simp)
        have hxt := hx.ty
        have hy := hok.tu y (by simp)
        have hyt := hy.ty
        walk_at "go"
        rcases str_or m x with ⟨z, rfl⟩ | ⟨e, e2⟩
        · walk_at "go"
          rw [look_forms]
          cases ef : formOf z with
          | none =>
            rw [deed_none ef] at h
            walk_at "go"
            exact h
          | some f =>
            rw [deed_some ef] at h
            have hf := form_len ef
            have hfz : f.length ≤ sizeLine := Nat.le_trans hf (by decide)
            walk_at "go"
            refine ⟨_, .str f, by rw [look_forms, ef]; rfl, rfl, ?_⟩
            walk_at "go"
            refine ⟨hfz, ?_⟩
            walk_at "go"
            have el : (((.str z :: y :: es : List Da).length : Int) = 2 + (f.length : Int)) ↔ es.length = f.cps.toList.length := by
              show ((es.length + 1 + 1 : Nat) : Int) = 2 + (f.cps.toList.length : Int) ↔ _
              omega
            by_cases c2 : es.length = f.cps.toList.length
            · rw [show decide (((.str z :: y :: es : List Da).length : Int) = 2 + (f.length : Int)) = true from decide_eq_true (el.mpr c2)]
              rw [decide_eq_true c2] at h
              walk_at "go"
              refine ⟨hyt, ?_⟩
              walk_at "go"
              cases cw : wholeD y with
              | false =>
                rw [cw] at h
                walk_at "go"
                exact h
              | true =>
                rw [cw] at h
                walk_at "go"
                have hel : es.length ≤ 3 := by rw [c2]; exact hf
                rw [signsD_def]
                have ez : zipD es (f.cps.toList.map fun c => Da.str (sign c)) = (es.zip f.cps.toList).map enc2 := zip_signs es _
                have ec : cutD (.str z :: y :: es) (some 2) none = es := cutD_from (i := 2) (by simp)
                rw [ec, ez]
                refine ⟨by rw [List.length_map, List.length_zip]; omega, lc_map (mk := fun q => .bl (entryD q.1 q.2)) _ (fun q hq k0 k1 hk => ?_) ?_⟩
                · obtain ⟨qe, qc⟩ := q
                  walk_at "go"
                  exact ⟨qc, ⟨rfl, hok.tu _ (by simp [(List.of_mem_zip hq).1])⟩, hk⟩
                · walk_at "go"
                  refine optK_of (blsO_map _ _) ?_
                  rw [List.all_map]
                  exact h
            · rw [show decide (((.str z :: y :: es : List Da).length : Int) = 2 + (f.length : Int)) = false from decide_eq_false (fun z => c2 (el.mp z))]
              rw [decide_eq_false c2] at h
              walk_at "go"
              exact h
        · rw [e]
          walk_at "go"
          rw [deed_nostr e2] at h
          exact h
  · walk_at "go"
    rw [e]
    walk_at "go"
    have e3 : deedD a = false := by cases a <;> first | rfl | cases e2
    rw [e3] at h
    exact h
theorem ok_is_deed (T : Top w K mg) : FnAt R.prog w K mg base 3 (He.ga K "is_deed") p_is_deed (spW K (fn_is_deed K).F) := by
  have hl : ∀ ds m R X, (fn_is_deed K).F ds m R X → ds.length = 1 := fun ds m R X h => by unfold fn_is_deed at h; dsimp only at h; unfold sp_is_deed at h; exact gl1 _ _ _ _ h
  refine fnAt_of (k := 2) T.d_is_deed sc_is_deed (fun vs H Q E q => spW_len (F := (fn_is_deed K).F) hl q) (fun _ _ _ _ _ _ us hl => match us, hl with | [_], _ => rfl) fun cdv A outer s H vs Q E hr q => ⟨_, (pss_cons (ps_if (PW.pt (pw_or (pt_not (pt_truth (pe_callB call_isi (by rfl) T.fr_isinstance (by decide +kernel) (pa_cons (pv 0) (pa_cons (pe_bltn (v := .ty "tuple") (by rfl) T.fr_tuple (by decide +kernel) rfl) pa_nil))) (by intro _; rfl))) (pw_or (pt_cmpR op_lt (pe_callB (callr_or call_len_seq call_len_str) (by rfl) T.fr_len (by decide +kernel) (pa_cons (pv 0) pa_nil)) pe_int (nomark _)) (pw_or (pt_not (pt_truth (pe_callB call_isi (by rfl) T.fr_isinstance (by decide +kernel) (pa_cons (pe_ix ix_seq (pv 0) pe_int (fun _ _ => rfl)) (pa_cons (pe_bltn (v := .ty "str") (by rfl) T.fr_str (by decide +kernel) rfl) pa_nil))) (by intro _; rfl))) (pw_or1 (pt_cmpR (op_notinK T.k_FORMS) (pe_ix ix_seq (pv 0) pe_int (fun _ _ => rfl)) (pe_glob (v := .ref (He.ga _ "FORMS")) (by rfl) T.gl_FORMS rfl) (by rfl)))))))
    (pss_one (ps_ret pe_bl))
    pss_nil)
    (pss_cons (ps_set (i := 1) sc_is_deed.nd rfl (Or.inl rfl) (pe_ix (ix_K T.k_FORMS) (pe_glob (v := .ref (He.ga _ "FORMS")) (by rfl) T.gl_FORMS rfl) (pe_ix ix_seq (pv 0) pe_int (fun _ _ => rfl)) (fun _ _ => rfl)))
    (pss_cons (ps_if (PW.pt (pw_or (pt_cmpR (op_neU hr.units) (pe_callB (callr_or call_len_seq call_len_str) (by rfl) T.fr_len (by decide +kernel) (pa_cons (pv 0) pa_nil)) (pe_op op_addU pe_int (pe_callB (callr_or call_len_seq call_len_str) (by rfl) T.fr_len (by decide +kernel) (pa_cons (pv 1) pa_nil))) (nomark _)) (pw_or1 (pt_not (pt_truth (pe_call (ok_is_whole (base := base) T).ok (hr.mono (by decide)) (by rfl) T.gl_is_whole (ok_is_whole (base := base) T).kp (ok_is_whole (base := base) T).bd .nil (passes_call (takes_of rfl rfl rfl rfl) (fun _ _ _ _ h => h)) (pa_cons (pe_ix ix_seq (pv 0) pe_int (fun _ _ => rfl)) pa_nil)) (by intro _; rfl))))))
    (pss_one (ps_ret pe_bl))
    pss_nil)
    (pss_one (ps_ret (pe_callB (cr_all rfl) (by rfl) T.fr_all (by decide +kernel) (pa_cons (pe_lc (own := [("entry", 2), ("kind", 3)]) (g := ((tgTup [2, 3]) : STg K).t) (te := ((sCall (fn_is_entry K) (sCons (sVar 2) (sCons (sVar 3) sNil))) : SE K).t E0) (tt := (sYes : STe K).t E0) (by rfl) sc_is_deed.nd (pi_zip2 (by rfl) T.fr_zip (pa_cons (pe_slice sl_U (pv 0) (po_some pe_int) po_none) (pa_cons (pv 1) pa_nil))) (blkOk_by (own := [("entry", 2), ("kind", 3)]) (N := n_is_deed) (sc := defScope s_is_deed) (by decide +kernel)) (fun _ _ _ _ _ => (pg_tup (n := 2) (by rfl) (pgs_cons (pg_name (i := 2) sc_is_deed.nd rfl (Or.inl rfl)) (pgs_cons (pg_name (i := 3) sc_is_deed.nd rfl (Or.inl rfl)) pgs_nil)))) (fun _ _ _ _ _ => pts_nil) (fun _ _ _ _ _ => by exact pe_eq (pe_call (ok_is_entry (base := base) T).ok (hr.mono (by decide)) (by rfl) T.gl_is_entry (ok_is_entry (base := base) T).kp (ok_is_entry (base := base) T).bd .nil passL (pa_cons (pv 2) (pa_cons (pv 3) pa_nil))) (by (try dsimp only [cxOf, L2.Cx.blk]) <;> exact rfl))) pa_nil))))))), spW_eq (N := n_is_deed) (S_is_deed T) (by kernel_rfl) (fun ds m R X h => by rw [hl ds m R X h]; decide) (fun ds m R X h => ?_) q⟩
  have h2 := h
  unfold fn_is_deed at h2; dsimp only at h2; unfold sp_is_deed at h2
  obtain ⟨a, rfl, _⟩ := g1_of h2
  exact rd_is_deed T h
/-- ranges of a map deed -/
def areD (m : Sto) (d : Da) : Bool := match listOf m d with
  | some ds => decide (1 ≤ (ds.length : Int)) && decide ((ds.length : Int) ≤ 50) && mapB ds
  | none => false
def sp_are_ranges : Fs := g1 fun a m R X => (okTy m a ∧ ∀ ds, listOf m a = some ds → (∀ d ∈ ds, Ok m d) ∧ ds.length ≤ 100000) ∧ R (.bl (areD m a)) m
theorem mo_are_ranges : FMono sp_are_ranges := gm1 fun a m R R' X X' hr hx h => ⟨h.1, hr _ _ h.2⟩
abbrev fn_are_ranges (K : PySem.W.Frag) : Fn := ⟨sp_are_ranges, mo_are_ranges⟩
def S_are_ranges (T : Top w K mg) : SSt K :=
    (sRet (sAnd (sIsi .list (sVar 0)) (sAnd (sChain oLe oLe (sInt 1) (sCB cLen (sCons (sVar 0) sNil)) (sInt 50)) (sCall (fn_is_map K) (sCons (sVar 0) sNil)))))
theorem rd_are_ranges (T : Top w K mg) {a : Da} {m : Sto} {R : Rk} {X : Xk} (h : (fn_are_ranges K).F [a] m R X) : (S_are_ranges T).w (dn n_are_ranges [a]) m (fun _ m' => R .non m') R X noN noN := by
  obtain ⟨⟨hty, hok⟩, h⟩ := h
  unfold areD at h
  rcases lst_or m a with ⟨ds, l1, l2, l3, l4, l5, l6⟩ | ⟨l1, l2⟩
  · rw [l1] at h
    have h : R (.bl (decide (1 ≤ (ds.length : Int)) && decide ((ds.length : Int) ≤ 50) && mapB ds)) m := h
    walk_at "go"
    rw [l2]
    walk_at "go"
    refine lenW_of l1 ?_
    walk_at "go"
    cases c1 : decide (1 ≤ (ds.length : Int)) with
    | false =>
      rw [c1] at h
      walk_at "go"
      exact h
    | true =>
      rw [c1] at h
      walk_at "go"
      cases c2 : decide ((ds.length : Int) ≤ 50) with
      | false =>
        rw [c2] at h
        walk_at "go"
        show R (.bl (decide ((ds.length : Int) ≤ 50))) m
        rw [c2]
        exact h
      | true =>
        rw [c2] at h
        walk_at "go"
        refine ⟨⟨hty, hok⟩, ?_⟩
        have e : mapD m a = mapB ds := by unfold mapD; rw [l1]
        rw [e]
        exact h
  · rw [l1] at h
    walk_at "go"
    rw [l2]
    walk_at "go"
    exact h
theorem ok_are_ranges (T : Top w K mg) : FnAt R.prog w K mg base 6 (He.ga K "are_ranges") p_are_ranges (spW K (fn_are_ranges K).F) := by
  have hl : ∀ ds m R X, (fn_are_ranges K).F ds m R X → ds.length = 1 := fun ds m R X h => by unfold fn_are_ranges at h; dsimp only at h; unfold sp_are_ranges at h; exact gl1 _ _ _ _ h
  refine fnAt_of (k := 5) T.d_are_ranges sc_are_ranges (fun vs H Q E q => spW_len (F := (fn_are_ranges K).F) hl q) (fun _ _ _ _ _ _ us hl => match us, hl with | [_], _ => rfl) fun cdv A outer s H vs Q E hr q => ⟨_, (pss_one (ps_ret (pe_andT (pe_callB call_isi (by rfl) T.fr_isinstance (by decide +kernel) (pa_cons (pv 0) (pa_cons (pe_bltn (v := .ty "list") (by rfl) T.fr_list (by decide +kernel) rfl) pa_nil))) (pe_andT (pe_chain op_le op_le pe_int (pe_callB (callr_or call_len_seq call_len_str) (by rfl) T.fr_len (by decide +kernel) (pa_cons (pv 0) pa_nil)) (pe_cint T.c_MOST_RANGES)) (pe_one (pe_call (ok_is_map (base := base) T).ok (hr.mono (by decide)) (by rfl) T.gl_is_map (ok_is_map (base := base) T).kp (ok_is_map (base := base) T).bd .nil (passes_call (takes_of rfl rfl rfl rfl) (fun _ _ _ _ h => h)) (pa_cons (pv 0) pa_nil))))))), spW_eq (N := n_are_ranges) (S_are_ranges T) (by kernel_rfl) (fun ds m R X h => by rw [hl ds m R X h]; decide) (fun ds m R X h => ?_) q⟩
  have h2 := h
  unfold fn_are_ranges at h2; dsimp only at h2; unfold sp_are_ranges at h2
  obtain ⟨a, rfl, _⟩ := g1_of h2
  exact rd_are_ranges T h

end
end G

set_option maxHeartbeats 4000000
namespace G
open PySem PySem.Spec PyProof.Rows L2

local macro_rules | `(tactic| walk_at "go") => `(tactic| ((conv => whnf); repeat ((first | refine isi_of (by first | assumption | exact trivial) ?_ | rw [Sto.put_same] | refine And.intro (by first | exact rfl | exact trivial | exact Nat.le_of_ble_eq_true rfl) ?_); (conv => whnf))))
local macro_rules | `(tactic| walk_at "wk") => `(tactic| ((repeat (walk_at "go"; first | refine optK_of (by first | assumption | exact Sto.put_same) ?_ | refine And.intro (by show (0 : Int) < _; decide) ?_ | refine And.intro (And.intro (by show (0 : Int) < _; decide) (by decide)) ?_ | refine And.intro (show CPow _ _ from ⟨by decide, by decide, by decide⟩) ?_)); try walk_at "go"))

section
variable {w : World} {K : PySem.W.Frag} {mg : Str → Option Value} {base : Heap}
/-! texts of numbers -/
theorem cps_eq {x y : Str} : x = y ↔ x.cps.toList = y.cps.toList := by
  constructor
  · intro h; rw [h]
  · intro h
    obtain ⟨x⟩ := x
    obtain ⟨y⟩ := y
    congr
    exact Array.toList_inj.mp h
def figsOf (l : List Nat) : List Nat := match l with
  | 45 :: r => r
  | l => l
def digB (c : Nat) : Bool := decide (c ∈ ("0123456789" : Str).cps.toList)
theorem digB_iff {c : Nat} : digB c = true ↔ 48 ≤ c ∧ c ≤ 57 := by
  unfold digB
  rw [decide_eq_true_iff, show ("0123456789" : Str).cps.toList = [48, 49, 50, 51, 52, 53, 54, 55, 56, 57] by decide +kernel]
  simp
  omega
/-- is this the text of a whole number -/
def wholeB (l : List Nat) : Bool := (!(figsOf l).isEmpty && decide (((figsOf l).length : Int) ≤ 60) && (figsOf l).all digB) && !(!decide (l = [48]) && decide ((figsOf l).headD 0 = 48))
def valOf (l : List Nat) : Int := match l with
  | 45 :: r => -(NumText.digitsVal r : Int)
  | l => (NumText.digitsVal l : Int)
def wholeOf (w : Str) : Da := if wholeB w.cps.toList = true then .int (valOf w.cps.toList) else .non
theorem starts_minus (w : Str) : Txt.startswith w "-" = decide (w.cps.toList.head? = some 45) := by
  obtain ⟨a⟩ := w
  obtain ⟨l⟩ := a
  have e1 : ("-" : Str) = ⟨#[45]⟩ := by decide +kernel
  rw [e1]
  cases l with
  | nil => rfl
  | cons c r =>
    unfold Txt.startswith Builtin.Str.subAt
    rw [Bool.eq_iff_iff]
    simp [Str.length]
theorem figs_minus {l : List Nat} (h : l.head? = some 45) : figsOf l = l.drop 1 := by
  cases l with
  | nil => cases h
  | cons c r =>
    cases h
    rfl
theorem figs_plain {l : List Nat} (h : l.head? ≠ some 45) : figsOf l = l := by
  unfold figsOf
  split
  · exact absurd rfl h
  · rfl
theorem digs_all {l : List Nat} (h : l.all digB = true) : NumText.AllDigits l := by
  rw [List.all_eq_true] at h
  intro c hc
  exact digB_iff.mp (h c hc)
theorem int_whole {w : Str} (h : wholeB w.cps.toList = true) : intText? w = some (valOf w.cps.toList) ∧ w.length ≤ 61 := by
  unfold wholeB at h
  simp only [Bool.and_eq_true] at h
  obtain ⟨⟨⟨h1, h2⟩, h3⟩, h4⟩ := h
  have h2 := of_decide_eq_true h2
  have hd := digs_all h3
  by_cases c : w.cps.toList.head? = some 45
  · have e : w.cps.toList = 45 :: figsOf w.cps.toList := by
      rw [figs_minus c]
      cases q : w.cps.toList with
      | nil => rw [q] at c; cases c
      | cons a r => rw [q] at c; cases c; rfl
    have hl : w.length ≤ 61 := by
      have := congrArg List.length e
      show w.cps.toList.length ≤ 61
      rw [this, List.length_cons]
      omega
    have hn : figsOf w.cps.toList ≠ [] := fun z => by rw [z] at h1; cases h1
    refine ⟨?_, hl⟩
    rw [intText_neg e hd hn (by omega)]
    generalize figsOf w.cps.toList = r at e
    rw [e]
    rfl
  · have e := figs_plain c
    rw [e] at hd h1 h2
    have hl : w.length ≤ 61 := by
      show w.cps.toList.length ≤ 61
      omega
    have hn : w.cps.toList ≠ [] := fun z => by rw [z] at h1; cases h1
    refine ⟨?_, hl⟩
    rw [intText_digits hd hn (by omega)]
    unfold valOf
    split
    · rename_i r q
      rw [q] at c
      exact absurd rfl c
    · rfl
def sp_whole_of : Fs := g1 fun a m R X => ∃ w : Str, (a = .str w ∧ w.length ≤ 100000) ∧ R (wholeOf w) m
theorem mo_whole_of : FMono sp_whole_of := gm1 fun a m R R' X X' hr hx ⟨w, h1, h3⟩ => ⟨w, h1, hr _ _ h3⟩
abbrev fn_whole_of (K : PySem.W.Frag) : Fn := ⟨sp_whole_of, mo_whole_of⟩
def S_whole_of (T : Top w K mg) : SSt K :=
    (sSeq (sSet 1 (sIfe (sTru (sM1 mStarts (sVar 0) (sStr "-"))) (sSl (sVar 0) (poSo (sInt 1)) poNo) (sVar 0)))
    (sSeq (sIf (stOr (sTest (sOp oEq (sVar 1) (sStr ""))) (stOr (sTest (sOp oGt (sCB cLen (sCons (sVar 1) sNil)) (sInt 60))) (stNot (sTru (sCB cAll (sCons (sLc (iStr (sVar 1)) (tgName 2) sYes (sOp oIn (sVar 2) (sStr "0123456789")) [2]) sNil))))))
    (sRet sNon)
    sPass)
    (sSeq (sIf (stAnd (sTest (sOp oNe (sVar 0) (sStr "0"))) (sTest (sOp oEq (sOp oIx (sVar 1) (sInt 0)) (sStr "0"))))
    (sRet sNon)
    sPass)
    (sRet (sCB cIntS (sCons (sVar 0) sNil))))))
theorem eqS_lit {x : Str} {z : Str} {l : List Nat} (e : z.cps.toList = l) : eqS x z = decide (x.cps.toList = l) := by
  rw [eqS_def, Bool.eq_iff_iff, decide_eq_true_iff, decide_eq_true_iff, cps_eq, e]
theorem rd_whole_of (T : Top w K mg) {a : Da} {m : Sto} {R : Rk} {X : Xk} (h : (fn_whole_of K).F [a] m R X) : (S_whole_of T).w (dn n_whole_of [a]) m (fun _ m' => R .non m') R X noN noN := by
  obtain ⟨w', ⟨rfl, hl⟩, h⟩ := h
  refine seq_cut (fun δ' m' => δ' = [some (.str w'), some (.str ⟨(figsOf w'.cps.toList).toArray⟩), none] ∧ m' = m) ?_ ?_
  · walk_at "go"
    rw [starts_minus]
    have hz : w'.length ≤ sizeLine := Nat.le_trans hl (by decide)
    by_cases c : w'.cps.toList.head? = some 45
    · rw [decide_eq_true c]
      walk_at "go"
      refine ⟨hz, ?_⟩
      walk_at "go"
      refine ⟨?_, rfl⟩
      rw [figs_minus c]
      have e : cutS w' (some 1) none = ⟨(w'.cps.toList.drop 1).toArray⟩ := by
        unfold cutS
        congr 1
        rw [show (some (1 : Int)) = some ((1 : Nat) : Int) from rfl, HT.sIx_nat, HT.sIx_none]
        have h1 : 1 ≤ w'.cps.toList.length := by
          cases q : w'.cps.toList with
          | nil => rw [q] at c; cases c
          | cons a r => simp
        have h2 : 1 ≤ w'.length := h1
        rw [Nat.min_eq_left h2, List.take_of_length_le]
        rw [List.length_drop]
        exact Nat.le_refl _
      rw [e]
      rfl
    · rw [decide_eq_false c]
      walk_at "go"
      rw [figs_plain c]
      exact ⟨rfl, rfl⟩
  · rintro δ' m' ⟨rfl, rfl⟩
    have hlf : (figsOf w'.cps.toList).length ≤ 100000 := by
      have : w'.cps.toList.length ≤ 100000 := hl
      unfold figsOf
      split
      · rename_i r q
        rw [q] at this
        simp at this
        omega
      · exact this
    have hzf : (⟨(figsOf w'.cps.toList).toArray⟩ : Str).length ≤ sizeLine := Nat.le_trans (show (figsOf w'.cps.toList).toArray.size ≤ 100000 by simpa using hlf) (by decide)
    have hle : ((⟨(figsOf w'.cps.toList).toArray⟩ : Str).length : Int) = ((figsOf w'.cps.toList).length : Int) := by simp [Str.length]
    unfold wholeOf at h
    have hiff := @int_whole w'
    unfold wholeB at h hiff
    generalize ef : figsOf w'.cps.toList = fs at h hiff hlf hzf hle ⊢
    walk_at "go"
    have e0 : eqS (⟨fs.toArray⟩ : Str) "" = fs.isEmpty := by
      rw [eqS_lit (l := []) (by decide +kernel), Bool.eq_iff_iff, decide_eq_true_iff]
      cases fs <;> simp
    rw [e0]
    cases hem : fs.isEmpty with
    | true =>
      rw [hem] at h
      walk_at "go"
      exact h
    | false =>
      rw [hem] at h hiff
      walk_at "go"
      refine ⟨hzf, ?_⟩
      walk_at "go"
      rw [hle]
      by_cases c2 : (fs.length : Int) ≤ 60
      · rw [decide_eq_true c2] at h hiff
        rw [decide_eq_false (by omega : ¬ (60 : Int) < fs.length)]
        walk_at "go"
        refine ⟨by rw [signsD_len]; show fs.toArray.size ≤ _; simpa using hlf, ?_⟩
        rw [signsD_def]
        have efs : (⟨fs.toArray⟩ : Str).cps.toList = fs := rfl
        rw [efs]
        refine lc_map (enc := fun c => .str (sign c)) (mk := fun c => .bl (digB c)) fs (fun c hc k0 k1 hk => ?_) ?_
        · walk_at "go"
          rw [inS_sign]
          exact hk
        walk_at "go"
        refine optK_of (blsO_map _ _) ?_
        walk_at "go"
        rw [List.all_map]
        have ei : fs.all (id ∘ digB) = fs.all digB := rfl
        rw [ei]
        cases hall : fs.all digB with
        | false =>
          rw [hall] at h
          walk_at "go"
          exact h
        | true =>
          rw [hall] at h hiff
          walk_at "go"
          rw [eqS_lit (l := [48]) (by decide +kernel)]
          have fin : (!(!decide (w'.cps.toList = [48]) && decide (fs.headD 0 = 48))) = true → ∃ n, intText? w' = some n ∧ w'.length ≤ 640 ∧ R (.int n) m' := fun z => by
            have z2 : (!false && true && true && !(!decide (w'.cps.toList = [48]) && decide (fs.headD 0 = 48))) = true := z
            have q := hiff z2
            rw [if_pos z2] at h
            exact ⟨_, q.1, by omega, h⟩
          cases c3 : decide (w'.cps.toList = [48]) with
          | true =>
            rw [c3] at fin
            walk_at "go"
            exact fin rfl
          | false =>
            rw [c3] at fin h
            cases fs with
            | nil => cases hem
            | cons c r =>
              walk_at "go"
              refine ⟨hzf, ?_⟩
              walk_at "go"
              rw [eqS_sign (k := 48) (by decide +kernel)]
              cases c4 : decide (c = 48) with
              | true =>
                walk_at "go"
                have e5 : decide ((c :: r).headD 0 = 48) = true := c4
                rw [e5] at h
                exact h
              | false =>
                walk_at "go"
                have e5 : decide ((c :: r).headD 0 = 48) = false := c4
                rw [e5] at fin
                exact fin rfl
      · rw [decide_eq_false c2] at h
        rw [decide_eq_true (by omega : (60 : Int) < fs.length)]
        walk_at "go"
        exact h
theorem ok_whole_of (T : Top w K mg) : FnAt R.prog w K mg base 1 (He.ga K "whole_of") p_whole_of (spW K (fn_whole_of K).F) := by
  have hl : ∀ ds m R X, (fn_whole_of K).F ds m R X → ds.length = 1 := fun ds m R X h => by unfold fn_whole_of at h; dsimp only at h; unfold sp_whole_of at h; exact gl1 _ _ _ _ h
  refine fnAt_of (k := 0) T.d_whole_of sc_whole_of (fun vs H Q E q => spW_len (F := (fn_whole_of K).F) hl q) (fun _ _ _ _ _ _ us hl => match us, hl with | [_], _ => rfl) fun cdv A outer s H vs Q E hr q => ⟨_, (pss_cons (ps_set (i := 1) sc_whole_of.nd rfl (Or.inl rfl) (pe_ifExp (pt_truth (pe_m1 PySem.F.slot_str_startswith PySem.F.type_str_startswith mt_startswith (pv 0) pe_str) (by intro _; rfl)) (pe_slice sl_U (pv 0) (po_some pe_int) po_none) (pv 0)))
    (pss_cons (ps_if (PW.pt (pw_or (pt_cmpR (op_eqU hr.units) (pv 1) pe_str (nomark _)) (pw_or (pt_cmpR op_gt (pe_callB (callr_or call_len_seq call_len_str) (by rfl) T.fr_len (by decide +kernel) (pa_cons (pv 1) pa_nil)) (pe_cint T.c_MOST_FIGURES) (nomark _)) (pw_or1 (pt_not (pt_truth (pe_callB (cr_all rfl) (by rfl) T.fr_all (by decide +kernel) (pa_cons (pe_lc (own := [("figure", 2)]) (g := ((tgName 2) : STg K).t) (te := ((sOp oIn (sVar 2) (sStr "0123456789")) : SE K).t E0) (tt := (sYes : STe K).t E0) (by rfl) sc_whole_of.nd (pi_str (pv 1)) (blkOk_by (own := [("figure", 2)]) (N := n_whole_of) (sc := defScope s_whole_of) (by decide +kernel)) (fun _ _ _ _ _ => (pg_name (i := 2) sc_whole_of.nd rfl (Or.inl rfl))) (fun _ _ _ _ _ => pts_nil) (fun _ _ _ _ _ => by exact pe_eq (pe_cmpR op_inU (pv 2) pe_str (by rfl)) (by (try dsimp only [cxOf, L2.Cx.blk]) <;> exact rfl))) pa_nil)) (by intro _; rfl)))))))
    (pss_one (ps_ret pe_non))
    pss_nil)
    (pss_cons (ps_if (PW.pt (pw_and (pt_cmpR (op_neU hr.units) (pv 0) pe_str (nomark _)) (pw_and1 (pt_cmpR (op_eqU hr.units) (pe_ix ix_seq (pv 1) pe_int (fun _ _ => rfl)) pe_str (nomark _)))))
    (pss_one (ps_ret pe_non))
    pss_nil)
    (pss_one (ps_ret (pe_callTy call_int_str (by rfl) T.fr_int (by decide +kernel) (pa_cons (pv 0) pa_nil))))))), spW_eq (N := n_whole_of) (S_whole_of T) (by kernel_rfl) (fun ds m R X h => by rw [hl ds m R X h]; decide) (fun ds m R X h => ?_) q⟩
  have h2 := h
  unfold fn_whole_of at h2; dsimp only at h2; unfold sp_whole_of at h2
  obtain ⟨a, rfl, _⟩ := g1_of h2
  exact rd_whole_of T h
def shortD : Da → Bool
  | .int i => decide ((if i < 0 then -i else i) < 10 ^ 60)
  | _ => true
def sp_is_short : Fs := g1 fun a m R X => okTy m a ∧ R (.bl (shortD a)) m
theorem mo_is_short : FMono sp_is_short := gm1 fun a m R R' X X' hr hx h => ⟨h.1, hr _ _ h.2⟩
abbrev fn_is_short (K : PySem.W.Frag) : Fn := ⟨sp_is_short, mo_is_short⟩
def S_is_short (T : Top w K mg) : SSt K :=
    (sRet (sOr (sNot (sCall (fn_is_whole K) (sCons (sVar 0) sNil))) (sOp oLt (sCB cAbs (sCons (sVar 0) sNil)) (sOp oPow (sInt 10) (sInt 60)))))
theorem rd_is_short (T : Top w K mg) {a : Da} {m : Sto} {R : Rk} {X : Xk} (h : (fn_is_short K).F [a] m R X) : (S_is_short T).w (dn n_is_short [a]) m (fun _ m' => R .non m') R X noN noN := by
  obtain ⟨hty, h⟩ := h
  walk_at "go"
  refine ⟨hty, ?_⟩
  walk_at "go"
  cases c : wholeD a with
  | false =>
    have e : shortD a = true := by cases a <;> first | rfl | cases c
    rw [e] at h
    walk_at "go"
    exact h
  | true =>
    obtain ⟨i, rfl⟩ := whole_int c
    walk_at "go"
    refine ⟨⟨by decide, by decide, by decide⟩, ?_⟩
    exact h
theorem ok_is_short (T : Top w K mg) : FnAt R.prog w K mg base 2 (He.ga K "is_short") p_is_short (spW K (fn_is_short K).F) := by
  have hl : ∀ ds m R X, (fn_is_short K).F ds m R X → ds.length = 1 := fun ds m R X h => by unfold fn_is_short at h; dsimp only at h; unfold sp_is_short at h; exact gl1 _ _ _ _ h
  refine fnAt_of (k := 1) T.d_is_short sc_is_short (fun vs H Q E q => spW_len (F := (fn_is_short K).F) hl q) (fun _ _ _ _ _ _ us hl => match us, hl with | [_], _ => rfl) fun cdv A outer s H vs Q E hr q => ⟨_, (pss_one (ps_ret (pe_orT (pe_notT (pe_call (ok_is_whole (base := base) T).ok (hr.mono (by decide)) (by rfl) T.gl_is_whole (ok_is_whole (base := base) T).kp (ok_is_whole (base := base) T).bd .nil (passes_call (takes_of rfl rfl rfl rfl) (fun _ _ _ _ h => h)) (pa_cons (pv 0) pa_nil))) (pe_one (pe_cmpR op_lt (pe_callB call_abs (by rfl) T.fr_abs (by decide +kernel) (pa_cons (pv 0) pa_nil)) (pe_op op_pow pe_int pe_int) (nomark _)))))), spW_eq (N := n_is_short) (S_is_short T) (by kernel_rfl) (fun ds m R X h => by rw [hl ds m R X h]; decide) (fun ds m R X h => ?_) q⟩
  have h2 := h
  unfold fn_is_short at h2; dsimp only at h2; unfold sp_is_short at h2
  obtain ⟨a, rfl, _⟩ := g1_of h2
  exact rd_is_short T h

end
end G

set_option maxHeartbeats 4000000
namespace G
open PySem PySem.Spec PyProof.Rows L2

local macro_rules | `(tactic| walk_at "go") => `(tactic| ((conv => whnf); repeat ((first | refine isi_of (by first | assumption | exact trivial) ?_ | rw [Sto.put_same] | refine And.intro (by first | exact rfl | exact trivial | exact Nat.le_of_ble_eq_true rfl) ?_); (conv => whnf))))
local macro_rules | `(tactic| walk_at "wk") => `(tactic| ((repeat (walk_at "go"; first | refine optK_of (by first | assumption | exact Sto.put_same) ?_ | refine And.intro (by show (0 : Int) < _; decide) ?_ | refine And.intro (And.intro (by show (0 : Int) < _; decide) (by decide)) ?_ | refine And.intro (show CPow _ _ from ⟨by decide, by decide, by decide⟩) ?_)); try walk_at "go"))

section
variable {w : World} {K : PySem.W.Frag} {mg : Str → Option Value} {base : Heap}
def rgText (r : Rg) : Str := Txt.join ":" [num r.1, num r.2.1, num r.2.2]
def rangesText (rs : List Rg) : Str := Txt.join "," (rs.map rgText)
theorem num_tl {n : Nat} : (num (n : Int)).cps.toList = TL.numL n := TL.tl_num n
theorem num_len {i : Int} {k : Nat} (hk : 0 < k) (h0 : 0 ≤ i) (h : i < 10 ^ k) : (num i).length ≤ k := by
  obtain ⟨n, rfl⟩ : ∃ n : Nat, i = n := ⟨i.toNat, by omega⟩
  show (num (n : Int)).cps.toList.length ≤ k
  rw [num_tl]
  refine TL.numL_len hk ?_
  have : ((n : Int)) < ((10 ^ k : Nat) : Int) := by push_cast; exact h
  omega
theorem joinL_len (S : List Nat) : ∀ ps : List (List Nat), (TL.joinL S ps).length ≤ (ps.map List.length).sum + ps.length * S.length
  | [] => by simp [TL.joinL]
  | [p] => by simp [TL.joinL]
  | p :: q :: r => by
    have ih := joinL_len S (q :: r)
    rw [TL.joinL]
    simp only [List.length_append, List.map_cons, List.sum_cons, List.length_cons] at ih ⊢
    have e : (r.length + 1 + 1) * S.length = (r.length + 1) * S.length + S.length := by rw [Nat.add_mul (r.length + 1), Nat.one_mul]
    rw [e]
    omega
theorem join_len (y : Str) (ps : List Str) : (Txt.join y ps).length ≤ (ps.map (fun x => x.length)).sum + ps.length * y.length := by
  show (TL.tl (Txt.join y ps)).length ≤ _
  rw [TL.join_eq, TL.tl_join]
  have := joinL_len (TL.tl y) (ps.map TL.tl)
  rw [List.map_map, List.length_map] at this
  exact this
def okI (i : Int) : Prop := i.natAbs.log2 < 1920
theorem okI_of {i : Int} {k : Nat} (h : i.natAbs < 2 ^ k) (hk : k ≤ 1920) (h0 : 0 < k) : okI i := by
  unfold okI
  by_cases z : i.natAbs = 0
  · rw [z]; decide
  · have := (Nat.log2_lt z).mpr h
    omega
theorem ok_ints {r : Rg} (h : rgOk r = true) : (0 ≤ r.1 ∧ r.1 < 4294967295) ∧ (0 ≤ r.2.1 ∧ r.2.1 < 4294967295) ∧ 1 ≤ r.2.2 ∧ r.2.2 ≤ 4294967295 := by
  unfold rgOk runI TOP at h
  simp at h
  omega
theorem rgText_len {r : Rg} (h : rgOk r = true) : (rgText r).length ≤ 33 := by
  obtain ⟨⟨a1, a2⟩, ⟨b1, b2⟩, c1, c2⟩ := ok_ints h
  have h1 := num_len (k := 10) (by decide) a1 (by have : (10 : Int) ^ 10 = 10000000000 := by decide
                                                  omega)
  have h2 := num_len (k := 10) (by decide) b1 (by have : (10 : Int) ^ 10 = 10000000000 := by decide
                                                  omega)
  have h3 := num_len (i := r.2.2) (k := 10) (by decide) (by omega) (by have : (10 : Int) ^ 10 = 10000000000 := by decide
                                                                       omega)
  have := join_len ":" [num r.1, num r.2.1, num r.2.2]
  have e : (":" : Str).length = 1 := by decide +kernel
  rw [e] at this
  simp at this
  show (Txt.join ":" _).length ≤ _
  omega
theorem sum_le {α : Type} {f : α → Nat} {k : Nat} : ∀ {l : List α}, (∀ a ∈ l, f a ≤ k) → (l.map f).sum ≤ l.length * k
  | [], _ => by simp
  | a :: l, h => by
    have h1 := h a (by simp)
    have h2 := sum_le (f := f) (k := k) (l := l) (fun b hb => h b (List.mem_cons_of_mem _ hb))
    simp only [List.map_cons, List.sum_cons, List.length_cons, Nat.add_mul, Nat.one_mul]
    omega
def sp_ranges_text : Fs := g1 fun a m R X => ∃ rs : List Rg, (a = .lst (rs.map rg) ∧ rs.length ≤ 2000 ∧ ∀ r ∈ rs, rgOk r = true) ∧ R (.str (rangesText rs)) m
theorem mo_ranges_text : FMono sp_ranges_text := gm1 fun a m R R' X X' hr hx ⟨w, h1, h4⟩ => ⟨w, h1, hr _ _ h4⟩
abbrev fn_ranges_text (K : PySem.W.Frag) : Fn := ⟨sp_ranges_text, mo_ranges_text⟩
def S_ranges_text (T : Top w K mg) : SSt K :=
    (sRet (sM1 mJoin (sStr ",") (sLc (iList (sVar 0)) (tgName 2) sYes (sM1 mJoin (sStr ":") (sLc (iTup (sVar 2)) (tgName 1) sYes (sCB cStr (sCons (sVar 1) sNil)) [1])) [2])))
theorem rd_ranges_text (T : Top w K mg) {a : Da} {m : Sto} {R : Rk} {X : Xk} (h : (fn_ranges_text K).F [a] m R X) : (S_ranges_text T).w (dn n_ranges_text [a]) m (fun _ m' => R .non m') R X noN noN := by
  obtain ⟨rs, ⟨rfl, hl, hok⟩, h⟩ := h
  walk_at "go"
  refine ⟨by rw [List.length_map]; omega, lc_map (mk := fun r => .str (rgText r)) rs (fun r hr k0 k1 hk => ?_) ?_⟩
  · obtain ⟨⟨a1, a2⟩, ⟨b1, b2⟩, c1, c2⟩ := ok_ints (hok r hr)
    have h10 : (10 : Int) ^ 10 = 10000000000 := by decide
    have h40 : (2 : Nat) ^ 40 = 1099511627776 := by decide
    have o1 : r.1.natAbs.log2 < 1920 := okI_of (k := 40) (by omega) (by decide) (by decide)
    have o2 : r.2.1.natAbs.log2 < 1920 := okI_of (k := 40) (by omega) (by decide) (by decide)
    have o3 : r.2.2.natAbs.log2 < 1920 := okI_of (k := 40) (by omega) (by decide) (by decide)
    have h1 := num_len (k := 10) (by decide) a1 (by omega)
    have h2 := num_len (k := 10) (by decide) b1 (by omega)
    have h3 := num_len (i := r.2.2) (k := 10) (by decide) (by omega) (by omega)
    walk_at "go"
    refine ⟨o1, ?_⟩
    walk_at "go"
    refine ⟨o2, ?_⟩
    walk_at "go"
    refine ⟨o3, ?_⟩
    walk_at "go"
    refine ⟨?_, hk⟩
    have e : (":" : Str).length = 1 := by decide +kernel
    rw [e]
    simp
    omega
  walk_at "go"
  refine optK_of (strsO_map _ _) ⟨?_, h⟩
  have e : ("," : Str).length = 1 := by decide +kernel
  have h1 := sum_le (f := fun r : Rg => (rgText r).length) (k := 33) (l := rs) (fun r hr => rgText_len (hok r hr))
  rw [e, List.map_map, List.length_map]
  have e2 : (rs.map ((fun x : Str => x.length) ∘ rgText)).sum = (rs.map fun r => (rgText r).length).sum := rfl
  rw [e2]
  omega
theorem ok_ranges_text (T : Top w K mg) : FnAt R.prog w K mg base 1 (He.ga K "ranges_text") p_ranges_text (spW K (fn_ranges_text K).F) := by
  have hl : ∀ ds m R X, (fn_ranges_text K).F ds m R X → ds.length = 1 := fun ds m R X h => by unfold fn_ranges_text at h; dsimp only at h; unfold sp_ranges_text at h; exact gl1 _ _ _ _ h
  refine fnAt_of (k := 0) T.d_ranges_text sc_ranges_text (fun vs H Q E q => spW_len (F := (fn_ranges_text K).F) hl q) (fun _ _ _ _ _ _ us hl => match us, hl with | [_], _ => rfl) fun cdv A outer s H vs Q E hr q => ⟨_, (pss_one (ps_ret (pe_join pe_str (pe_lc (own := [("one", 2)]) (g := ((tgName 2) : STg K).t) (te := ((sM1 mJoin (sStr ":") (sLc (iTup (sVar 2)) (tgName 1) sYes (sCB cStr (sCons (sVar 1) sNil)) [1])) : SE K).t E0) (tt := (sYes : STe K).t E0) (by rfl) sc_ranges_text.nd (pi_list (pv 0)) (blkOk_by (own := [("one", 2)]) (N := n_ranges_text) (sc := defScope s_ranges_text) (by decide +kernel)) (fun _ _ _ _ _ => (pg_name (i := 2) sc_ranges_text.nd rfl (Or.inl rfl))) (fun _ _ _ _ _ => pts_nil) (fun _ _ _ _ _ => by exact pe_eq (pe_join pe_str (pe_lc (own := [("number", 1)]) (g := ((tgName 1) : STg K).t) (te := ((sCB cStr (sCons (sVar 1) sNil)) : SE K).t E0) (tt := (sYes : STe K).t E0) (by rfl) sc_ranges_text.nd (pi_tup (pv 2)) (blkOk_by (own := [("number", 1)]) (N := n_ranges_text) (by exact rfl)) (fun _ _ _ _ _ => (pg_name (i := 1) sc_ranges_text.nd rfl (Or.inl rfl))) (fun _ _ _ _ _ => pts_nil) (fun _ _ _ _ _ => by exact pe_eq (pe_callTy (callr_or call_str_int SkE.call_str_str) (by rfl) T.fr_str (by decide +kernel) (pa_cons (pv 1) pa_nil)) (by (try dsimp only [cxOf, L2.Cx.blk]) <;> exact rfl)))) (by (try dsimp only [cxOf, L2.Cx.blk]) <;> exact rfl)))))), spW_eq (N := n_ranges_text) (S_ranges_text T) (by kernel_rfl) (fun ds m R X h => by rw [hl ds m R X h]; decide) (fun ds m R X h => ?_) q⟩
  have h2 := h
  unfold fn_ranges_text at h2; dsimp only at h2; unfold sp_ranges_text at h2
  obtain ⟨a, rfl, _⟩ := g1_of h2
  exact rd_ranges_text T h
theorem stepO_ok {acc : List Rg} {r : Rg} (h : ∀ x ∈ acc, rgOk x = true) (hr : rgOk r = true) : ∀ x ∈ stepO acc r, rgOk x = true := by
  rcases nil_or_snoc acc with rfl | ⟨i, ⟨a, g, n⟩, rfl⟩
  · intro x hx
    have : x = r := by simpa [stepO] using hx
    rw [this]
    exact hr
  · have hs : stepO (i ++ [(a, g, n)]) r = if r.1 = a + n ∧ r.2.1 = g + n then i ++ [(a, g, n + r.2.2)] else i ++ [(a, g, n)] ++ [r] := by
      unfold stepO
      simp
    rw [hs]
    have h0 := h (a, g, n) (by simp)
    split
    · rename_i c
      intro x hx
      rcases List.mem_append.mp hx with q | q
      · exact h x (by simp [q])
      · have : x = (a, g, n + r.2.2) := by simpa using q
        rw [this]
        unfold rgOk runI TOP at h0 hr ⊢
        simp at h0 hr ⊢
        omega
    · intro x hx
      rcases List.mem_append.mp hx with q | q
      · exact h x q
      · have : x = r := by simpa using q
        rw [this]
        exact hr
theorem foldO_ok : ∀ {rs acc : List Rg}, (∀ x ∈ acc, rgOk x = true) → (∀ x ∈ rs, rgOk x = true) → ∀ x ∈ rs.foldl stepO acc, rgOk x = true
  | [], acc, h, _ => h
  | r :: rs, acc, h, hr => foldO_ok (rs := rs) (stepO_ok h (hr r (by simp))) (fun x hx => hr x (List.mem_cons_of_mem _ hx))
theorem mapR_ok {rs : List Rg} (h : mapR rs = true) : rs.length ≤ 2000 ∧ ∀ r ∈ rs, rgOk r = true := by
  unfold mapR at h
  simp only [Bool.and_eq_true, decide_eq_true_iff] at h
  exact ⟨h.1.1, fun r hr => List.all_eq_true.mp h.1.2 r hr⟩
theorem inOrder_ok {rs : List Rg} (h : mapR rs = true) : (inOrder rs).length ≤ 2000 ∧ ∀ r ∈ inOrder rs, rgOk r = true := by
  obtain ⟨h1, h2⟩ := mapR_ok h
  refine ⟨?_, foldO_ok (fun x hx => by cases hx) (fun x hx => h2 x (List.mem_mergeSort.mp hx))⟩
  have := stepO_len (rs.mergeSort leR) []
  rw [List.length_mergeSort] at this
  unfold inOrder
  simp at this
  omega
/-- an entry of a deed as text -/
def entryText (d : Da) (c : Nat) : Str := match d with
  | .non => "none"
  | .int i => num i
  | .str z => if z = "" then "-" else z
  | .lst ds => match rgsOf ds with
    | some rs => if c = 114 then rangesText (inOrder rs) else ""
    | none => ""
  | _ => ""
/-- where an entry may be written -/
def entryPre (d : Da) (c : Nat) : Prop := if c = 114 then ∃ rs : List Rg, d = .lst (rs.map rg) ∧ mapR rs = true else
  match d with
  | .non => True
  | .int i => okI i
  | .str z => z.length ≤ 1000
  | _ => False
/-- a list of the store as data -/
def rsv (m : Sto) (d : Da) : Da := match listOf m d with
  | some ds => .lst ds
  | none => d
theorem rsv_lst {m : Sto} {d : Da} {ds : List Da} (h : listOf m d = some ds) : rsv m d = .lst ds := by unfold rsv; rw [h]
theorem rsv_no {m : Sto} {d : Da} (h : listOf m d = none) : rsv m d = d := by unfold rsv; rw [h]
theorem lst_rsv {m : Sto} {d : Da} {ds : List Da} (h : rsv m d = .lst ds) : listOf m d = some ds := by
  unfold rsv at h
  split at h
  · rename_i e; cases h; exact e
  · rename_i e; subst h; cases e
def sp_entry_text : Fs := g2 fun a b m R X => ∃ c, (b = .str (sign c) ∧ entryPre (rsv m a) c) ∧ R (.str (entryText (rsv m a) c)) m
theorem mo_entry_text : FMono sp_entry_text := gm2 fun a b m R R' X X' hr hx ⟨c, h1, h3⟩ => ⟨c, h1, hr _ _ h3⟩
abbrev fn_entry_text (K : PySem.W.Frag) : Fn := ⟨sp_entry_text, mo_entry_text⟩
def S_entry_text (T : Top w K mg) : SSt K :=
    (sSeq (sIf (sTest (sOp oEq (sVar 1) (sStr "r")))
    (sRet (sCall (fn_ranges_text K) (sCons (sMeth (He.ga K "RangeMap") "ranges" (fn_RangeMap_ranges K) (sFrz (sMake (He.ga K "RangeMap") T.ok_RangeMap (fn_RangeMapD_initD K) (sCons (sVar 0) sNil))) sNil) sNil)))
    sPass)
    (sSeq (sIf (sTest (sOp oIsN (sVar 0) sNon))
    (sRet (sStr "none"))
    sPass)
    (sRet (sIfe (sTest (sOp oNe (sVar 0) (sStr ""))) (sCB cStr (sCons (sVar 0) sNil)) (sStr "-")))))
theorem rd_entry_text (T : Top w K mg) {a b : Da} {m : Sto} {R : Rk} {X : Xk} (h : (fn_entry_text K).F [a, b] m R X) : (S_entry_text T).w (dn n_entry_text [a, b]) m (fun _ m' => R .non m') R X noN noN := by
  obtain ⟨c, ⟨rfl, hp⟩, h⟩ := h
  walk_at "go"
  rw [eqS_sign (k := 114) (by decide +kernel)]
  unfold entryPre at hp
  by_cases c1 : c = 114
  · rw [if_pos c1] at hp
    obtain ⟨rs, er, hm⟩ := hp
    rw [er] at h
    rw [decide_eq_true c1]
    walk_at "go"
    refine mk_map (lst_rsv er) hm ?_
    walk_at "go"
    refine ⟨_, rfl, ?_⟩
    walk_at "go"
    refine ⟨inOrder rs, ⟨rfl, (inOrder_ok hm).1, (inOrder_ok hm).2⟩, ?_⟩
    have e : entryText (.lst (rs.map rg)) c = rangesText (inOrder rs) := by
      show (match rgsOf (rs.map rg) with
        | some rs => if c = 114 then rangesText (inOrder rs) else ""
        | none => "") = _
      rw [rgsOf_map]
      exact if_pos c1
    rw [e] at h
    exact h
  · rw [if_neg c1] at hp
    rw [decide_eq_false c1]
    have hl : listOf m a = none := by
      cases e : listOf m a with
      | none => rfl
      | some ds => rw [rsv_lst e] at hp; exact hp.elim
    rw [rsv_no hl] at hp h
    cases a with
    | non =>
      walk_at "go"
      exact h
    | int i =>
      walk_at "go"
      refine ⟨_, _, rfl, rfl, rfl, by decide +kernel, ?_⟩
      walk_at "go"
      exact ⟨hp, h⟩
    | str z =>
      walk_at "go"
      by_cases cz : z = ""
      · rw [cz, eqS_self]
        walk_at "go"
        have e : entryText (.str z) c = "-" := if_pos cz
        rw [e] at h
        exact h
      · rw [eqS_ne cz]
        walk_at "go"
        have e : entryText (.str z) c = z := if_neg cz
        rw [e] at h
        exact h
    | _ => exact hp.elim
theorem ok_entry_text (T : Top w K mg) : FnAt R.prog w K mg base 8 (He.ga K "entry_text") p_entry_text (spW K (fn_entry_text K).F) := by
  have hl : ∀ ds m R X, (fn_entry_text K).F ds m R X → ds.length = 2 := fun ds m R X h => by unfold fn_entry_text at h; dsimp only at h; unfold sp_entry_text at h; exact gl2 _ _ _ _ h
  refine fnAt_of (k := 7) T.d_entry_text sc_entry_text (fun vs H Q E q => spW_len (F := (fn_entry_text K).F) hl q) (fun _ _ _ _ _ _ us hl => match us, hl with | [_, _], _ => rfl) fun cdv A outer s H vs Q E hr q => ⟨_, (pss_cons (ps_if (pt_cmpR (op_eqU hr.units) (pv 1) pe_str (nomark _))
    (pss_one (ps_ret (pe_call (ok_ranges_text (base := base) T).ok (hr.mono (by decide)) (by rfl) T.gl_ranges_text (ok_ranges_text (base := base) T).kp (ok_ranges_text (base := base) T).bd .nil (passes_call (takes_of rfl rfl rfl rfl) (fun _ _ _ _ h => h)) (pa_cons (pe_meth0 (pe_make T.m_RangeMap (ok_RangeMapD_initD (base := base) T).ok (hr.mono (by decide)) (by rfl) T.gl_RangeMap (ok_RangeMapD_initD (base := base) T).bd .nil (passes_call (takes_of rfl rfl rfl rfl) (fun _ _ _ _ h => h)) (pa_cons (pv 0) pa_nil)) T.cl_RangeMap T.me_RangeMap_ranges (ok_RangeMap_ranges (base := base) T).ok (hr.mono (by decide)) (ok_RangeMap_ranges (base := base) T).bd .nil (passes_call (takes_of rfl rfl rfl rfl) (fun _ _ _ _ h => h))) pa_nil))))
    pss_nil)
    (pss_cons (ps_if (pt_cmpR op_isN (pv 0) pe_non (nomark _))
    (pss_one (ps_ret pe_str))
    pss_nil)
    (pss_one (ps_ret (pe_ifExp (pt_cmpR (op_neU hr.units) (pv 0) pe_str (nomark _)) (pe_callTy (callr_or call_str_int SkE.call_str_str) (by rfl) T.fr_str (by decide +kernel) (pa_cons (pv 0) pa_nil)) pe_str))))), spW_eq (N := n_entry_text) (S_entry_text T) (by kernel_rfl) (fun ds m R X h => by rw [hl ds m R X h]; decide) (fun ds m R X h => ?_) q⟩
  have h2 := h
  unfold fn_entry_text at h2; dsimp only at h2; unfold sp_entry_text at h2
  obtain ⟨a, b, rfl, _⟩ := g2_of h2
  exact rd_entry_text T h
/-! the text of a deed -/
theorem num_neg {n : Nat} (h : 0 < n) : (num (-(n : Int))).cps.toList = 45 :: TL.numL n := by
  obtain ⟨k, rfl⟩ : ∃ k, n = k + 1 := ⟨n - 1, by omega⟩
  have e : toString (-((k + 1 : Nat) : Int)) = "-" ++ toString (k + 1) := rfl
  show TL.tl (Str.ofString (toString (-((k + 1 : Nat) : Int)))) = _
  rw [e, TL.tl_ofString, String.toList_append, List.map_append, ← TL.tl_ofString, ← TL.tl_ofString]
  have e2 : TL.tl (Str.ofString (toString (k + 1))) = TL.numL (k + 1) := TL.tl_num (k + 1)
  rw [e2]
  have e3 : TL.tl (Str.ofString "-") = [45] := by decide +kernel
  rw [e3]
  rfl
theorem num_short {i : Int} {k : Nat} (hk : 0 < k) (h : i.natAbs < 10 ^ k) : (num i).length ≤ k + 1 := by
  by_cases c : 0 ≤ i
  · obtain ⟨n, rfl⟩ : ∃ n : Nat, i = n := ⟨i.toNat, by omega⟩
    show (num (n : Int)).cps.toList.length ≤ _
    rw [num_tl]
    have := TL.numL_len (n := n) hk (by simpa using h)
    omega
  · obtain ⟨n, hn, rfl⟩ : ∃ n : Nat, 0 < n ∧ i = -(n : Int) := ⟨i.natAbs, by omega, by omega⟩
    show (num (-(n : Int))).cps.toList.length ≤ _
    rw [num_neg hn]
    have := TL.numL_len (n := n) hk (by simpa using h)
    simp
    omega
theorem short_abs {i : Int} (h : shortD (.int i) = true) : i.natAbs < 10 ^ 60 := by
  have h : (if i < 0 then -i else i) < 10 ^ 60 := of_decide_eq_true h
  have e : ((10 ^ 60 : Nat) : Int) = (10 : Int) ^ 60 := by norm_cast
  split at h <;> omega
theorem short_okI {i : Int} (h : shortD (.int i) = true) : okI i :=
  okI_of (k := 200) (Nat.lt_of_lt_of_le (short_abs h) (by decide)) (by decide) (by decide)
def areB : Da → Bool
  | .lst ds => decide (1 ≤ (ds.length : Int)) && decide ((ds.length : Int) ≤ 50) && mapB ds
  | _ => false
theorem are_map {d : Da} (h : areB d = true) : ∃ rs : List Rg, d = .lst (rs.map rg) ∧ mapR rs = true ∧ 1 ≤ rs.length ∧ rs.length ≤ 50 := by
  cases d with
  | lst ds =>
    have h : (decide (1 ≤ (ds.length : Int)) && decide ((ds.length : Int) ≤ 50) && mapB ds) = true := h
    simp only [Bool.and_eq_true, decide_eq_true_iff] at h
    obtain ⟨⟨h1, h2⟩, h3⟩ := h
    unfold mapB at h3
    cases e : rgsOf ds with
    | none => rw [e] at h3; cases h3
    | some rs =>
      rw [e] at h3
      have e2 := rgsOf_some e
      subst e2
      rw [List.length_map] at h1 h2
      exact ⟨rs, rfl, h3, by omega, by omega⟩
  | _ => cases h
theorem form_r {w f : Str} (h : formOf w = some f) {k : Nat} (hk : f.cps.toList[k]? = some 114) : k = 1 := by
  have key : ∀ l : List (Str × Str), (∀ q ∈ l, ∀ k < 4, q.2.cps.toList[k]? = some 114 → k = 1) → (∀ q ∈ l, q.2.cps.toList.length ≤ 3) → l.lookup w = some f → k = 1 := by
    intro l
    induction l with
    | nil => intro _ _ h; cases h
    | cons q l ih =>
      intro hl h3 h
      simp only [List.lookup] at h
      cases e : w == q.1 with
      | true =>
        rw [e] at h
        cases h
        have hlt := (List.getElem?_eq_some_iff.mp hk).1
        have := h3 q (by simp)
        exact hl q (by simp) k (by omega) hk
      | false => rw [e] at h; exact ih (fun x hx => hl x (List.mem_cons_of_mem _ hx)) (fun x hx => h3 x (List.mem_cons_of_mem _ hx)) h
  exact key forms (by decide +kernel) (by decide +kernel) h
theorem form_word {w f : Str} (h : formOf w = some f) : w.length ≤ 7 := by
  have key : ∀ l : List (Str × Str), (∀ q ∈ l, q.1.length ≤ 7) → l.lookup w = some f → w.length ≤ 7 := by
    intro l
    induction l with
    | nil => intro _ h; cases h
    | cons q l ih =>
      intro hl h
      simp only [List.lookup] at h
      cases e : w == q.1 with
      | true =>
        have : w = q.1 := by simpa using e
        rw [this]
        exact hl q (by simp)
      | false => rw [e] at h; exact ih (fun x hx => hl x (List.mem_cons_of_mem _ hx)) h
  exact key forms (by decide +kernel) h
/-- the words of a deed -/
def deedWords (w : Str) (es : List Da) (f : Str) : List Str := w :: (es.zip (105 :: f.cps.toList)).map fun q => entryText q.1 q.2
def deedText (w : Str) (es : List Da) (f : Str) : Str := Txt.join " " (deedWords w es f)
/-- may it be written -/
def okD (w : Str) (es : List Da) (f : Str) : Bool := deedD (.tup (.str w :: es)) && es.all shortD && (!decide (114 ∈ f.cps.toList) || areB (es.getD 2 .non))
def deedT : Da → Option Str
  | .tup (.str w :: es) => match formOf w with
    | some f => if okD w es f = true then some (deedText w es f) else none
    | none => none
  | _ => none
theorem inOrder_len {rs : List Rg} : (inOrder rs).length ≤ rs.length := by
  have := stepO_len (rs.mergeSort leR) []
  rw [List.length_mergeSort] at this
  unfold inOrder
  simpa using this
theorem rangesText_len {rs : List Rg} {n : Nat} (h : ∀ r ∈ rs, rgOk r = true) (hl : rs.length ≤ n) : (rangesText rs).length ≤ n * 34 := by
  have h1 := join_len "," (rs.map rgText)
  have e : ("," : Str).length = 1 := by decide +kernel
  rw [e, List.map_map, List.length_map] at h1
  have h2 := sum_le (f := fun r : Rg => (rgText r).length) (k := 33) (l := rs) (fun r hr => rgText_len (h r hr))
  have e2 : (rs.map ((fun x : Str => x.length) ∘ rgText)).sum = (rs.map fun r => (rgText r).length).sum := rfl
  rw [e2] at h1
  show (Txt.join "," (rs.map rgText)).length ≤ _
  omega
theorem entry_ok {e : Da} {c : Nat} (h : entryD e c = true) (hs : shortD e = true) (hr : c = 114 → areB e = true) : entryPre e c ∧ (entryText e c).length ≤ 2000 := by
  unfold entryPre
  by_cases c4 : c = 114
  · obtain ⟨rs, rfl, hm, h1, h50⟩ := are_map (hr c4)
    rw [if_pos c4]
    refine ⟨⟨rs, rfl, hm⟩, ?_⟩
    have et : entryText (.lst (rs.map rg)) c = rangesText (inOrder rs) := by
      show (match rgsOf (rs.map rg) with
        | some rs => if c = 114 then rangesText (inOrder rs) else ""
        | none => "") = _
      rw [rgsOf_map]
      exact if_pos c4
    rw [et]
    have := rangesText_len (inOrder_ok hm).2 (Nat.le_trans inOrder_len h50)
    omega
  · rw [if_neg c4]
    have hi : ∀ {i : Int}, shortD (.int i) = true → okI i ∧ (entryText (.int i) c).length ≤ 2000 := fun {i} h => ⟨short_okI h, by
      have := num_short (k := 60) (by decide) (short_abs h)
      show (num i).length ≤ _
      omega⟩
    have hz : ∀ {z : Str}, z.length ≤ 100 → z.length ≤ 1000 ∧ (entryText (.str z) c).length ≤ 2000 := fun {z} h => ⟨by omega, by
      show (if z = "" then ("-" : Str) else z).length ≤ _
      split
      · have : ("-" : Str).length = 1 := by decide +kernel
        omega
      · omega⟩
    have hn : nameD e = true → ∃ z, e = .str z ∧ z.length ≤ 100 := fun h => by
      cases e with
      | str z =>
        have h : (decide (1 ≤ (z.length : Int)) && decide ((z.length : Int) ≤ 8) && (z.cps.toList.all fun c => decide (c ∈ LETTERS.cps.toList))) = true := h
        simp only [Bool.and_eq_true, decide_eq_true_iff] at h
        exact ⟨z, rfl, by omega⟩
      | _ => cases h
    have hb : bitsD e = true → ∃ z, e = .str z ∧ z.length ≤ 100 := fun h => by
      cases e with
      | str z =>
        have h : z = marksOf z := of_decide_eq_true (by rw [← eqS_def]; exact h)
        refine ⟨z, rfl, ?_⟩
        rw [h]
        show (MARKS.cps.toList.filter _).toArray.size ≤ 100
        rw [List.size_toArray]
        exact Nat.le_trans (List.length_filter_le _ _) (by decide +kernel)
      | _ => cases h
    unfold entryD at h
    split at h
    · obtain ⟨i, rfl⟩ := whole_int h
      exact hi hs
    split at h
    · cases e with
      | non => exact ⟨trivial, (by decide +kernel : ("none" : Str).length ≤ 2000)⟩
      | int i => exact hi hs
      | _ => cases h
    split at h
    · obtain ⟨z, rfl, hl⟩ := hn h
      exact hz hl
    · obtain ⟨z, rfl, hl⟩ := hb h
      exact hz hl
theorem deed_entries {w f : Str} {es : List Da} (hf : formOf w = some f) (h : okD w es f = true) : es.length = f.cps.toList.length + 1 ∧ ∀ q ∈ es.zip (105 :: f.cps.toList), entryPre q.1 q.2 ∧ (entryText q.1 q.2).length ≤ 2000 := by
  unfold okD at h
  simp only [Bool.and_eq_true] at h
  obtain ⟨⟨h1, h2⟩, h3⟩ := h
  cases es with
  | nil =>
    have h1 : false = true := h1
    cases h1
  | cons y es =>
    rw [deed_some hf] at h1
    simp only [Bool.and_eq_true, decide_eq_true_iff] at h1
    obtain ⟨⟨h4, h5⟩, h6⟩ := h1
    refine ⟨by simp [h4], ?_⟩
    intro q hq
    rw [List.zip_cons_cons] at hq
    have hsh : ∀ e ∈ y :: es, shortD e = true := fun e he => List.all_eq_true.mp h2 e he
    rcases List.mem_cons.mp hq with rfl | hq
    · exact entry_ok (c := 105) h5 (hsh y (by simp)) (fun z => nomatch z)
    · obtain ⟨k, hk⟩ := List.mem_iff_getElem?.mp hq
      rw [List.getElem?_zip_eq_some] at hk
      refine entry_ok (List.all_eq_true.mp h6 q hq) (hsh q.1 (by simp [(List.of_mem_zip hq).1])) fun z => ?_
      rw [z] at hk
      have k1 := form_r hf hk.2
      have hmem : 114 ∈ f.cps.toList := List.mem_of_getElem? hk.2
      rw [decide_eq_true hmem] at h3
      have h3 : areB ((y :: es).getD 2 .non) = true := h3
      rw [List.getD_eq_getElem?_getD] at h3
      have e2 : (y :: es)[2]? = some q.1 := by rw [k1] at hk; exact hk.1
      rw [e2] at h3
      exact h3
theorem deedT_bad {a : Da} (h : deedD a = false) : deedT a = none := by
  unfold deedT
  split
  · rename_i w es
    cases e : formOf w with
    | none => rfl
    | some f =>
      show (if okD w es f = true then some (deedText w es f) else none) = none
      unfold okD
      rw [h]
      rfl
  · rfl
theorem deedT_eq {w f : Str} {es : List Da} (h : formOf w = some f) : deedT (.tup (.str w :: es)) = if okD w es f = true then some (deedText w es f) else none := by
  show (match formOf w with
    | some f => if okD w es f = true then some (deedText w es f) else none
    | none => none) = _
  rw [h]
theorem deed_shape {a : Da} (h : deedD a = true) : ∃ w y es f, a = .tup (.str w :: y :: es) ∧ formOf w = some f ∧ es.length = f.cps.toList.length := by
  cases a with
  | tup ds =>
    match ds with
    | [] => exact absurd h (by decide)
    | [d] =>
      rw [deed_short (by simp : [d].length < 2)] at h
      cases h
    | x :: y :: es =>
      cases hx : isStrD x with
      | false => rw [deed_nostr hx] at h; cases h
      | true =>
        cases x with
        | str w =>
          cases e : formOf w with
          | none => rw [deed_none e] at h; cases h
          | some f =>
            rw [deed_some e] at h
            simp only [Bool.and_eq_true, decide_eq_true_iff] at h
            exact ⟨w, y, es, f, rfl, e, h.1.1⟩
        | _ => cases hx
  | _ => cases h
theorem i_form (f : Str) : (("i" : Str) ++ f).cps.toList = 105 :: f.cps.toList := by
  show TL.tl (("i" : Str) ++ f) = _
  rw [TL.tl_append]
  have : TL.tl ("i" : Str) = [105] := by decide +kernel
  rw [this]
  rfl
theorem entryD_rsv {m : Sto} {d : Da} {c : Nat} : entryD (rsv m d) c = entryD d c := by
  cases e : listOf m d with
  | none => rw [rsv_no e]
  | some ds =>
    rw [rsv_lst e]
    cases d with
    | lst ds' => rfl
    | adr a => rfl
    | _ => cases e
theorem shortD_rsv {m : Sto} {d : Da} : shortD (rsv m d) = shortD d := by
  cases e : listOf m d with
  | none => rw [rsv_no e]
  | some ds =>
    rw [rsv_lst e]
    cases d with
    | lst ds' => rfl
    | adr a => rfl
    | _ => cases e
theorem areD_rsv {m : Sto} {d : Da} : areD m d = areB (rsv m d) := by
  unfold areD
  cases e : listOf m d with
  | none =>
    rw [rsv_no e]
    cases d with
    | lst ds => cases e
    | _ => rfl
  | some ds => rw [rsv_lst e]; rfl
theorem whole_rsv {m : Sto} {d : Da} : wholeD (rsv m d) = wholeD d := by
  have := @entryD_rsv m d 105
  exact this
def rsvT (m : Sto) : Da → Da
  | .tup ds => .tup (ds.map (rsv m))
  | d => d
theorem deedD_rsv {m : Sto} (a : Da) : deedD (rsvT m a) = deedD a := by
  cases a with
  | tup ds =>
    match ds with
    | [] => rfl
    | [d] => rw [deed_short (by simp)]; exact deed_short (by simp)
    | x :: y :: es =>
      show deedD (.tup (rsv m x :: rsv m y :: es.map (rsv m))) = _
      cases hx : isStrD x with
      | false =>
        rw [deed_nostr hx]
        have hx2 : isStrD (rsv m x) = false := by
          cases e : listOf m x with
          | none => rw [rsv_no e]; exact hx
          | some ds => rw [rsv_lst e]; rfl
        exact deed_nostr hx2
      | true =>
        cases x with
        | str z =>
          have : rsv m (.str z) = .str z := rsv_no rfl
          rw [this]
          cases ef : formOf z with
          | none => rw [deed_none ef, deed_none ef]
          | some f =>
            rw [deed_some ef, deed_some ef, whole_rsv, List.length_map]
            congr 1
            rw [List.zip_map_left, List.all_map]
            congr 1
            funext q
            exact entryD_rsv
        | _ => cases hx
  | _ => rfl
/-- what is asked of data that may be a deed -/
structure DeedOk (m : Sto) (a : Da) : Prop where
  ok : Ok m a
  len : ∀ ds, a = .tup ds → ds.length ≤ 100000
  ls : ∀ ds l d, a = .tup ds → d ∈ ds → listOf m d = some l → (∀ x ∈ l, Ok m x) ∧ l.length ≤ 100000
def sp_deed_text : Fs := g1 fun a m R X => DeedOk m a ∧ match deedT (rsvT m a) with
  | some z => R (.str z) m
  | none => X ("NoDeed", none) m
theorem mo_deed_text : FMono sp_deed_text := gm1 fun a m R R' X X' hr hx ⟨h1, h3⟩ => ⟨h1, by
  cases e : deedT (rsvT m a) with
  | none => rw [e] at h3; exact hx _ _ h3
  | some z => rw [e] at h3; exact hr _ _ h3⟩
abbrev fn_deed_text (K : PySem.W.Frag) : Fn := ⟨sp_deed_text, mo_deed_text⟩
@[irreducible] def S_deed_text_3 (T : Top w K mg) : SSt K :=
    (sRet (sM1 mJoin (sStr " ") (sOp oAdd (sLst (sCons (sOp oIx (sVar 0) (sInt 0)) sNil)) (sLc (iZip (sCons (sSl (sVar 0) (poSo (sInt 1)) poNo) (sCons (sVar 1) sNil))) (tgTup [2, 3]) sYes (sCall (fn_entry_text K) (sCons (sVar 2) (sCons (sVar 3) sNil))) [2, 3]))))
def S_deed_text (T : Top w K mg) : SSt K :=
    (sSeq (sIf (stOr (stNot (sTru (sCall (fn_is_deed K) (sCons (sVar 0) sNil)))) (stNot (sTru (sCB cAll (sCons (sLc (iTup (sVar 0)) (tgName 2) sYes (sCall (fn_is_short K) (sCons (sVar 2) sNil)) [2]) sNil)))))
    (sRaise "NoDeed")
    sPass)
    (sSeq (sSet 1 (sOp oAdd (sStr "i") (sOp (oIxT (He.ga K "FORMS") (ktab_FORMS K)) (sAdr (He.ga K "FORMS")) (sOp oIx (sVar 0) (sInt 0)))))
    (sSeq (sIf (stAnd (sTest (sOp oIn (sStr "r") (sVar 1))) (stNot (sTru (sCall (fn_are_ranges K) (sCons (sOp oIx (sVar 0) (sInt 3)) sNil)))))
    (sRaise "NoDeed")
    sPass)
    (S_deed_text_3 T))))
theorem rd_deed_text (T : Top w K mg) {a : Da} {m : Sto} {R : Rk} {X : Xk} (h : (fn_deed_text K).F [a] m R X) : (S_deed_text T).w (dn n_deed_text [a]) m (fun _ m' => R .non m') R X noN noN := by
  obtain ⟨hok, h⟩ := h
  walk_at "go"
  refine ⟨⟨hok.ok, hok.len⟩, ?_⟩
  walk_at "go"
  cases hd : deedD a with
  | false =>
    walk_at "go"
    rw [deedT_bad (by rw [deedD_rsv]; exact hd)] at h
    exact h
  | true =>
    obtain ⟨z, y, es, f, rfl, hf, hel⟩ := deed_shape hd
    have hlen := hok.len _ rfl
    have er : rsvT m (.tup (.str z :: y :: es)) = .tup (.str z :: (y :: es).map (rsv m)) := rfl
    rw [er, deedT_eq hf] at h
    walk_at "go"
    refine ⟨hlen, ?_⟩
    refine lc_map0 oYes_none (mk := fun d => .bl (shortD d)) _ (fun d hd k0 k1 hk => ?_) ?_
    · walk_at "go"
      exact ⟨(hok.ok.tu d hd).ty, hk⟩
    walk_at "go"
    refine optK_of (blsO_map _ _) ?_
    rw [List.all_map]
    have ea : (.str z :: y :: es : List Da).all (id ∘ shortD) = ((y :: es).map (rsv m)).all shortD := by
      rw [List.all_cons, List.all_map]
      show (true && _) = _
      rw [Bool.true_and]
      congr 1
      funext d
      exact shortD_rsv.symm
    rw [ea]
    cases hs : ((y :: es).map (rsv m)).all shortD with
    | false =>
      walk_at "go"
      rw [if_neg (by unfold okD; rw [hs]; simp)] at h
      exact h
    | true =>
      have hf3 := form_len hf
      walk_at "go"
      refine ⟨_, .str f, by rw [look_forms, hf]; rfl, rfl, ?_⟩
      walk_at "go"
      have e1 : ("i" : Str).length = 1 := by decide +kernel
      refine ⟨by rw [e1]; exact Nat.le_trans (Nat.add_le_add_left hf3 1) (by decide), ?_⟩
      walk_at "go"
      have fin : okD z ((y :: es).map (rsv m)) f = true → (S_deed_text_3 T).w [some (.tup (.str z :: y :: es)), some (.str (("i" : Str) ++ f)), none, none] m (fun _ m' => R .non m') R X noN noN := ?fin
      · have hd2 : deedD (.tup (.str z :: (y :: es).map (rsv m))) = true := (deedD_rsv (m := m) (.tup (.str z :: y :: es))).trans hd
        rw [show ("r" : Str) = sign 114 by decide +kernel, inS_sign, i_form]
        have em : decide (114 ∈ 105 :: f.cps.toList) = decide (114 ∈ f.cps.toList) := by
          rw [Bool.eq_iff_iff, decide_eq_true_iff, decide_eq_true_iff]
          simp
        rw [em]
        by_cases c : 114 ∈ f.cps.toList
        · rw [decide_eq_true c]
          obtain ⟨k, hk⟩ := List.mem_iff_getElem?.mp c
          have k1 := form_r hf hk
          subst k1
          have hk2 := (List.getElem?_eq_some_iff.mp hk).1
          match es, hel with
          | e0 :: e1 :: es', hel =>
            have ho1 : Ok m e1 := hok.ok.tu e1 (by simp)
            walk_at "go"
            refine ⟨⟨ho1.ty, fun ds e => hok.ls _ ds e1 rfl (by simp) e⟩, ?_⟩
            rw [areD_rsv]
            have eo : okD z ((y :: e0 :: e1 :: es').map (rsv m)) f = areB (rsv m e1) := by
              unfold okD
              rw [hd2, hs, decide_eq_true c]
              rfl
            walk_at "go"
            cases ca : areB (rsv m e1) with
            | true =>
              walk_at "go"
              exact fin (by rw [eo, ca])
            | false =>
              walk_at "go"
              rw [eo, ca] at h
              exact h
          | [e0], hel =>
            rw [← hel] at hk2
            exact absurd hk2 (by simp)
          | [], hel =>
            rw [← hel] at hk2
            exact absurd hk2 (by simp)
        · rw [decide_eq_false c]
          walk_at "go"
          refine fin ?_
          unfold okD
          rw [hd2, hs, decide_eq_false c]
          rfl
      · intro hk
        rw [if_pos hk] at h
        obtain ⟨hlen2, hent⟩ := deed_entries hf hk
        have hz4 : ((y :: es).zip (105 :: f.cps.toList)).length ≤ 4 := by
          have h3 : f.cps.toList.length ≤ 3 := hf3
          have h4 : (105 :: f.cps.toList).length ≤ 4 := by simp only [List.length_cons]; omega
          rw [List.length_zip]
          exact Nat.le_trans (Nat.min_le_right _ _) h4
        unfold S_deed_text_3
        walk_at "go"
        rw [signsD_def, i_form]
        have ez : zipD (y :: es) ((105 :: f.cps.toList).map fun c => Da.str (sign c)) = ((y :: es).zip (105 :: f.cps.toList)).map enc2 := zip_signs _ _
        have ec : cutD (.str z :: y :: es) (some 1) none = y :: es := cutD_from (i := 1) (by simp)
        rw [ec, ez]
        refine ⟨by rw [List.length_map]; omega, lc_map (mk := fun q => .str (entryText (rsv m q.1) q.2)) _ (fun q hq k0 k1 hk => ?_) ?_⟩
        · obtain ⟨qe, qc⟩ := q
          walk_at "go"
          have hq2 : (rsv m qe, qc) ∈ ((y :: es).map (rsv m)).zip (105 :: f.cps.toList) := by
            rw [List.zip_map_left]
            exact List.mem_map.mpr ⟨(qe, qc), hq, rfl⟩
          exact ⟨qc, ⟨rfl, (hent _ hq2).1⟩, hk⟩
        · walk_at "go"
          refine ⟨by rw [List.length_map]; simp only [List.length_cons, List.length_nil]; omega, ?_⟩
          have ew : deedWords z ((y :: es).map (rsv m)) f = z :: ((y :: es).zip (105 :: f.cps.toList)).map fun q => entryText (rsv m q.1) q.2 := by
            unfold deedWords
            rw [List.zip_map_left, List.map_map]
            rfl
          refine optK_of (a := deedWords z ((y :: es).map (rsv m)) f) ?_ ⟨?_, h⟩
          · rw [ew]
            show (strsO (((y :: es).zip (105 :: f.cps.toList)).map fun q => Da.str (entryText (rsv m q.1) q.2))).map (z :: ·) = _
            rw [strsO_map]
            rfl
          · have h1 := sum_le (f := fun q : Da × Nat => (entryText q.1 q.2).length) (k := 2000) (l := ((y :: es).map (rsv m)).zip (105 :: f.cps.toList)) (fun q hq => (hent q hq).2)
            have h2 := form_word hf
            have e2 : (" " : Str).length = 1 := by decide +kernel
            have hz5 : (((y :: es).map (rsv m)).zip (105 :: f.cps.toList)).length ≤ 4 := by rw [List.zip_map_left, List.length_map]; exact hz4
            unfold deedWords
            rw [e2, List.map_cons, List.map_map, List.sum_cons, List.length_cons, List.length_map]
            have e3 : ((((y :: es).map (rsv m)).zip (105 :: f.cps.toList)).map ((fun x : Str => x.length) ∘ fun q => entryText q.1 q.2)).sum = ((((y :: es).map (rsv m)).zip (105 :: f.cps.toList)).map fun q => (entryText q.1 q.2).length).sum := rfl
            rw [e3]
            omega
theorem ok_deed_text (T : Top w K mg) : FnAt R.prog w K mg base 9 (He.ga K "deed_text") p_deed_text (spW K (fn_deed_text K).F) := by
  have hl : ∀ ds m R X, (fn_deed_text K).F ds m R X → ds.length = 1 := fun ds m R X h => by unfold fn_deed_text at h; dsimp only at h; unfold sp_deed_text at h; exact gl1 _ _ _ _ h
  refine fnAt_of (k := 8) T.d_deed_text sc_deed_text (fun vs H Q E q => spW_len (F := (fn_deed_text K).F) hl q) (fun _ _ _ _ _ _ us hl => match us, hl with | [_], _ => rfl) fun cdv A outer s H vs Q E hr q => ⟨_, (pss_cons (ps_if (PW.pt (pw_or (pt_not (pt_truth (pe_call (ok_is_deed (base := base) T).ok (hr.mono (by decide)) (by rfl) T.gl_is_deed (ok_is_deed (base := base) T).kp (ok_is_deed (base := base) T).bd .nil (passes_call (takes_of rfl rfl rfl rfl) (fun _ _ _ _ h => h)) (pa_cons (pv 0) pa_nil)) (by intro _; rfl))) (pw_or1 (pt_not (pt_truth (pe_callB (cr_all rfl) (by rfl) T.fr_all (by decide +kernel) (pa_cons (pe_lc (own := [("entry", 2)]) (g := ((tgName 2) : STg K).t) (te := ((sCall (fn_is_short K) (sCons (sVar 2) sNil)) : SE K).t E0) (tt := (sYes : STe K).t E0) (by rfl) sc_deed_text.nd (pi_tup (pv 0)) (blkOk_by (own := [("entry", 2)]) (N := n_deed_text) (sc := defScope s_deed_text) (by decide +kernel)) (fun _ _ _ _ _ => (pg_name (i := 2) sc_deed_text.nd rfl (Or.inl rfl))) (fun _ _ _ _ _ => pts_nil) (fun _ _ _ _ _ => by exact pe_eq (pe_call (ok_is_short (base := base) T).ok (hr.mono (by decide)) (by rfl) T.gl_is_short (ok_is_short (base := base) T).kp (ok_is_short (base := base) T).bd .nil passL (pa_cons (pv 2) pa_nil)) (by (try dsimp only [cxOf, L2.Cx.blk]) <;> exact rfl))) pa_nil)) (by intro _; rfl))))))
    (pss_one (ps_raise rfl (takes_of rfl rfl rfl rfl) (pmk_own PySem.F.excBase_ValueError (T.x_NoDeed).1 T.gl_NoDeed (T.x_NoDeed).2.1 (raises_own (T.x_NoDeed).2.2.1 (T.x_NoDeed).2.2.2) (by exact rfl))))
    pss_nil)
    (pss_cons (ps_set (i := 1) sc_deed_text.nd rfl (Or.inl rfl) (pe_op op_addU pe_str (pe_ix (ix_K T.k_FORMS) (pe_glob (v := .ref (He.ga _ "FORMS")) (by rfl) T.gl_FORMS rfl) (pe_ix ix_seq (pv 0) pe_int (fun _ _ => rfl)) (fun _ _ => rfl))))
    (pss_cons (ps_if (PW.pt (pw_and (pt_cmpR op_inU pe_str (pv 1) (by rfl)) (pw_and1 (pt_not (pt_truth (pe_call (ok_are_ranges (base := base) T).ok (hr.mono (by decide)) (by rfl) T.gl_are_ranges (ok_are_ranges (base := base) T).kp (ok_are_ranges (base := base) T).bd .nil (passes_call (takes_of rfl rfl rfl rfl) (fun _ _ _ _ h => h)) (pa_cons (pe_ix ix_seq (pv 0) pe_int (fun _ _ => rfl)) pa_nil)) (by intro _; rfl))))))
    (pss_one (ps_raise rfl (takes_of rfl rfl rfl rfl) (pmk_own PySem.F.excBase_ValueError (T.x_NoDeed).1 T.gl_NoDeed (T.x_NoDeed).2.1 (raises_own (T.x_NoDeed).2.2.1 (T.x_NoDeed).2.2.2) (by exact rfl))))
    pss_nil)
    (pss_one (ps_ret (pe_join pe_str (pe_op op_addU (pe_lst (pa_cons (pe_ix ix_seq (pv 0) pe_int (fun _ _ => rfl)) pa_nil)) (pe_lc (own := [("entry", 2), ("kind", 3)]) (g := ((tgTup [2, 3]) : STg K).t) (te := ((sCall (fn_entry_text K) (sCons (sVar 2) (sCons (sVar 3) sNil))) : SE K).t E0) (tt := (sYes : STe K).t E0) (by rfl) sc_deed_text.nd (pi_zip2 (by rfl) T.fr_zip (pa_cons (pe_slice sl_U (pv 0) (po_some pe_int) po_none) (pa_cons (pv 1) pa_nil))) (blkOk_by (own := [("entry", 2), ("kind", 3)]) (N := n_deed_text) (sc := defScope s_deed_text) (by decide +kernel)) (fun _ _ _ _ _ => (pg_tup (n := 2) (by rfl) (pgs_cons (pg_name (i := 2) sc_deed_text.nd rfl (Or.inl rfl)) (pgs_cons (pg_name (i := 3) sc_deed_text.nd rfl (Or.inl rfl)) pgs_nil)))) (fun _ _ _ _ _ => pts_nil) (fun _ _ _ _ _ => by exact pe_eq (pe_call (ok_entry_text (base := base) T).ok (hr.mono (by decide)) (by rfl) T.gl_entry_text (ok_entry_text (base := base) T).kp (ok_entry_text (base := base) T).bd .nil passL (pa_cons (pv 2) (pa_cons (pv 3) pa_nil))) (by (try dsimp only [cxOf, L2.Cx.blk]) <;> exact rfl)))))))))), spW_eq (N := n_deed_text) (S_deed_text T) (by kernel_rfl) (fun ds m R X h => by rw [hl ds m R X h]; decide) (fun ds m R X h => ?_) q⟩
  have h2 := h
  unfold fn_deed_text at h2; dsimp only at h2; unfold sp_deed_text at h2
  obtain ⟨a, rfl, _⟩ := g1_of h2
  exact rd_deed_text T h

end
end G

set_option maxHeartbeats 4000000
namespace G
open PySem PySem.Spec PyProof.Rows L2

local macro_rules | `(tactic| walk_at "go") => `(tactic| ((conv => whnf); repeat ((first | refine isi_of (by first | assumption | exact trivial) ?_ | rw [Sto.put_same] | refine And.intro (by first | exact rfl | exact trivial | exact Nat.le_of_ble_eq_true rfl) ?_); (conv => whnf))))
local macro_rules | `(tactic| walk_at "wk") => `(tactic| ((repeat (walk_at "go"; first | refine optK_of (by first | assumption | exact Sto.put_same) ?_ | refine And.intro (by show (0 : Int) < _; decide) ?_ | refine And.intro (And.intro (by show (0 : Int) < _; decide) (by decide)) ?_ | refine And.intro (show CPow _ _ from ⟨by decide, by decide, by decide⟩) ?_)); try walk_at "go"))

section
variable {w : World} {K : PySem.W.Frag} {mg : Str → Option Value} {base : Heap}
/-! deeds read -/
def rgPart (p : Str) : Option Rg := match (Txt.split p ":").map wholeOf with
  | [.int a, .int b, .int c] => some (a, b, c)
  | _ => none
def rangesPs : List Str → Option (List Rg)
  | [] => some []
  | p :: ps => match rgPart p, rangesPs ps with
    | some r, some rs => some (r :: rs)
    | _, _ => none
theorem rangesPs_snoc {ps : List Str} {p : Str} {rs : List Rg} {r : Rg} (h : rangesPs ps = some rs) (hr : rgPart p = some r) : rangesPs (ps ++ [p]) = some (rs ++ [r]) := by
  induction ps generalizing rs with
  | nil => cases h; simp [rangesPs, hr]
  | cons q ps ih =>
    simp only [rangesPs] at h
    split at h
    · rename_i r' rs' h1 h2
      cases h
      simp only [List.cons_append, rangesPs, h1, ih h2]
    · cases h
theorem rangesPs_bad {ps qs : List Str} {p : Str} (hr : rgPart p = none) : rangesPs (ps ++ p :: qs) = none := by
  induction ps with
  | nil => simp [rangesPs, hr]
  | cons q ps ih => simp only [List.cons_append, rangesPs, ih]; split <;> simp_all
theorem rangesPs_len : ∀ {ps : List Str} {rs : List Rg}, rangesPs ps = some rs → rs.length = ps.length
  | [], rs, h => by cases h; rfl
  | p :: ps, rs, h => by
    simp only [rangesPs] at h
    split at h
    · rename_i r' rs' h1 h2
      cases h
      simp [rangesPs_len h2]
    · cases h
theorem split_bound {x y : Str} {n : Nat} (hy : 1 ≤ y.length) (h : x.length ≤ n) : (Txt.split x y).length ≤ n + 1 ∧ ∀ p ∈ Txt.split x y, p.length ≤ n + 1 := by
  have hw := PyProof.Rows.split_weight x y hy
  refine ⟨by omega, fun p hp => ?_⟩
  have : ∀ l : List Str, p ∈ l → p.length ≤ (l.map fun x => x.length).sum := by
    intro l
    induction l with
    | nil => intro h; cases h
    | cons q l ih =>
      intro h
      rcases List.mem_cons.mp h with rfl | h
      · simp
      · have := ih h; simp; omega
  have := this _ hp
  omega
def vWhole (w : Str) : V := if wholeB w.cps.toList = true then .int (valOf w.cps.toList) else .non
theorem sca_whole (w : Str) : sca (wholeOf w) = some (vWhole w) := by
  unfold wholeOf vWhole
  split <;> rfl
theorem inV_whole (l : List Str) : inV .non (l.map vWhole) = l.any fun w => isN (wholeOf w) := by
  unfold inV
  rw [List.any_map]
  congr 1
  funext w
  show eqV (vWhole w) .non = isN (wholeOf w)
  unfold vWhole wholeOf
  split <;> rfl
theorem rgPart_of {p : Str} (h : (Txt.split p ":").length = 3) (hn : ((Txt.split p ":").any fun w => isN (wholeOf w)) = false) : ∃ a b c, (Txt.split p ":").map wholeOf = [.int a, .int b, .int c] ∧ rgPart p = some (a, b, c) := by
  unfold rgPart
  match Txt.split p ":", h, hn with
  | [x, y, z], _, hn =>
    simp only [List.any_cons, List.any_nil, Bool.or_false, Bool.or_eq_false_iff] at hn
    have key : ∀ w, isN (wholeOf w) = false → ∃ i, wholeOf w = .int i := fun w h => by
      unfold wholeOf at h ⊢
      split at h
      · rename_i c; exact ⟨_, if_pos c⟩
      · cases h
    obtain ⟨a, ha⟩ := key x hn.1
    obtain ⟨b, hb⟩ := key y hn.2.1
    obtain ⟨c, hc⟩ := key z hn.2.2
    exact ⟨a, b, c, by simp [ha, hb, hc], by simp [ha, hb, hc]⟩
theorem rgPart_len {p : Str} (h : (Txt.split p ":").length ≠ 3) : rgPart p = none := by
  unfold rgPart
  split
  · rename_i a b c e
    have := congrArg List.length e
    rw [List.length_map] at this
    exact absurd this h
  · rfl
theorem rgPart_non {p : Str} (h : ((Txt.split p ":").any fun w => isN (wholeOf w)) = true) : rgPart p = none := by
  unfold rgPart
  split
  · rename_i a b c e
    have e2 : ((Txt.split p ":").any fun w => isN (wholeOf w)) = ((Txt.split p ":").map wholeOf).any isN := by rw [List.any_map]; rfl
    rw [e2, e] at h
    cases h
  · rfl
def rangesOf (w : Str) : Da := match rangesPs (Txt.split w ",") with
  | some rs => .lst (rs.map rg)
  | none => .non
/-- what is read: a list is in the store -/
def outE (d : Da) (m : Sto) (R : Rk) : Prop := match d with
  | .lst l => ∀ q, m q = none → R (.adr q) (m.put q (.lst l))
  | d => R d m
theorem outE_mono {d : Da} {m : Sto} {R R' : Rk} (f : ∀ d m', R d m' → R' d m') (h : outE d m R) : outE d m R' := by
  cases d with
  | lst l => exact fun q hq => f _ _ (h q hq)
  | _ => exact f _ _ h
theorem outE_no {d : Da} {m : Sto} {R : Rk} (n : ∀ l, d ≠ .lst l) (h : R d m) : outE d m R := by
  cases d with
  | lst l => exact absurd rfl (n l)
  | _ => exact h
theorem outE_at {d : Da} {m : Sto} {R : Rk} (n : ∀ l, d ≠ .lst l) (h : outE d m R) : R d m := by
  cases d with
  | lst l => exact absurd rfl (n l)
  | _ => exact h
def sp_ranges_of : Fs := g1 fun a m R X => ∃ w : Str, (a = .str w ∧ w.length ≤ 10000) ∧ outE (rangesOf w) m R
theorem mo_ranges_of : FMono sp_ranges_of := gm1 fun a m R R' X X' hr hx ⟨w, h1, h3⟩ => ⟨w, h1, outE_mono hr h3⟩
abbrev fn_ranges_of (K : PySem.W.Frag) : Fn := ⟨sp_ranges_of, mo_ranges_of⟩
def S_ranges_of (T : Top w K mg) : SSt K :=
    (sSeq (sSet 1 (sLstM sNil))
    (sSeq (sFor (iList (sM1 mSplit (sVar 0) (sStr ","))) (tgName 2)
    (sSeq (sSet 3 (sLc (iList (sM1 mSplit (sVar 2) (sStr ":"))) (tgName 4) sYes (sCall (fn_whole_of K) (sCons (sVar 4) sNil)) [4]))
    (sSeq (sIf (stOr (sTest (sOp oNe (sCB cLen (sCons (sVar 3) sNil)) (sInt 3))) (sTest (sOp oIn sNon (sVar 3))))
    (sRet sNon)
    sPass)
    (sDrop (sApp (sVar 1) (sCB cTuple (sCons (sVar 3) sNil)))))))
    (sRet (sVar 1))))
theorem sub_put {m : Sto} {p : Addr} {c : Cell} (h : m p = none) : Sub m (m.put p c) := fun a c' e => by
  have ne : a ≠ p := fun z => by rw [z, h] at e; cases e
  rw [Sto.put_ne ne]
  exact e
theorem split_len (x y : Str) (n : Nat) (hy : 1 ≤ y.length) (h : x.length ≤ n) : (Txt.split x y).length ≤ n + 1 := (split_bound hy h).1
theorem rd_ranges_of (T : Top w K mg) {a : Da} {m : Sto} {R : Rk} {X : Xk} (h : (fn_ranges_of K).F [a] m R X) : (S_ranges_of T).w (dn n_ranges_of [a]) m (fun _ m' => ∃ m2, Sub m2 m' ∧ R .non m2) (fun d m' => ∃ m2, Sub m2 m' ∧ R d m2) (fun x m' => ∃ m2, Sub m2 m' ∧ X x m2) noN noN := by
  obtain ⟨w', ⟨rfl, hl⟩, h⟩ := h
  have ec : (("," : Str).length == 0) = false := by decide +kernel
  have ed : ((":" : Str).length == 0) = false := by decide +kernel
  have e1 : 1 ≤ ("," : Str).length := by decide +kernel
  have e2 : 1 ≤ (":" : Str).length := by decide +kernel
  obtain ⟨b1, b2⟩ := split_bound e1 hl
  walk_at "go"
  intro q hq
  walk_at "go"
  refine ⟨Nat.le_trans (Nat.add_le_add_right hl 2) (by decide), ?_⟩
  walk_at "go"
  refine for_inv (enc := Da.str) (fun pre δ' m' => ∃ rs x2 x3 x4, rangesPs pre = some rs ∧ m' = m.put q (.lst (rs.map rg)) ∧ δ' = [some (.str w'), some (.adr q), x2, x3, x4]) forT_mono _ [] ?_ ?_ _ _ ⟨[], _, _, _, rfl, rfl, rfl⟩
  · rintro pre p post δ' m' hs ⟨rs, x2, x3, x4, hr, rfl, rfl⟩
    have hs : Txt.split w' "," = pre ++ p :: post := hs
    have hp := b2 p (by rw [hs]; simp)
    obtain ⟨c1, c2⟩ := split_bound e2 hp
    have hlen : rs.length < 100000 := by
      rw [rangesPs_len hr]
      have := congrArg List.length hs
      rw [List.length_append] at this
      omega
    have out : rgPart p = none → R .non m := fun z => by
      unfold rangesOf at h
      rw [hs, rangesPs_bad z] at h
      exact h
    walk_at "go"
    refine ⟨Nat.le_trans (Nat.add_le_add_right hp 2) (by decide), ?_⟩
    walk_at "go"
    refine ⟨by rw [List.length_map]; omega, lc_map (mk := wholeOf) (Txt.split p ":") (fun f hf k0 k1 hk => ?_) ?_⟩
    · walk_at "go"
      exact ⟨f, ⟨rfl, by have := c2 f hf; omega⟩, hk⟩
    walk_at "go"
    rw [List.length_map]
    by_cases l3 : (Txt.split p ":").length = 3
    · rw [show decide ((((Txt.split p ":").length : Nat) : Int) = 3) = true from decide_eq_true (by omega)]
      walk_at "go"
      refine optK_of (scas_map sca_whole _) ?_
      walk_at "go"
      rw [inV_whole]
      cases hn : (Txt.split p ":").any fun w => isN (wholeOf w) with
      | true =>
        walk_at "go"
        exact ⟨m, sub_put hq, out (rgPart_non hn)⟩
      | false =>
        obtain ⟨a, b, c, hm, hrg⟩ := rgPart_of l3 hn
        rw [hm]
        walk_at "go"
        refine ⟨by rw [List.length_map]; exact hlen, ?_⟩
        walk_at "go"
        rw [put_put]
        exact ⟨rs ++ [(a, b, c)], _, _, _, rangesPs_snoc hr hrg, by rw [List.map_append]; rfl, rfl⟩
    · rw [show decide ((((Txt.split p ":").length : Nat) : Int) = 3) = false from decide_eq_false (by omega)]
      walk_at "go"
      exact ⟨m, sub_put hq, out (rgPart_len l3)⟩
  · rintro δ' m' ⟨rs, x2, x3, x4, hr, rfl, rfl⟩
    walk_at "go"
    unfold rangesOf at h
    rw [show rangesPs (Txt.split w' ",") = some rs from hr] at h
    exact ⟨_, Sub.refl _, h q hq⟩
theorem ok_ranges_of (T : Top w K mg) : FnAt R.prog w K mg base 2 (He.ga K "ranges_of") p_ranges_of (spW K (fn_ranges_of K).F) := by
  have hl : ∀ ds m R X, (fn_ranges_of K).F ds m R X → ds.length = 1 := fun ds m R X h => by unfold fn_ranges_of at h; dsimp only at h; unfold sp_ranges_of at h; exact gl1 _ _ _ _ h
  refine fnAt_of (k := 1) T.d_ranges_of sc_ranges_of (fun vs H Q E q => spW_len (F := (fn_ranges_of K).F) hl q) (fun _ _ _ _ _ _ us hl => match us, hl with | [_], _ => rfl) fun cdv A outer s H vs Q E hr q => ⟨_, (pss_cons (ps_set (i := 1) sc_ranges_of.nd rfl (Or.inl rfl) (pe_lst pa_nil))
    (pss_cons (ps_for (passes_of rfl) (by rfl) (pi_list (pe_split (pv 0) pe_str)) (pg_name (i := 2) sc_ranges_of.nd rfl (Or.inl rfl))
    (pss_cons (ps_setLc (i := 3) (own := [("figures", 4)]) (g := ((tgName 4) : STg K).t) (te := ((sCall (fn_whole_of K) (sCons (sVar 4) sNil)) : SE K).t E0) (tt := (sYes : STe K).t E0) (by rfl) sc_ranges_of.nd rfl rfl (sw_true rfl rfl rfl (by decide +kernel)) (pi_list (pe_split (pv 2) pe_str)) (blkOk_by (own := [("figures", 4)]) (N := n_ranges_of) (sc := defScope s_ranges_of) (by decide +kernel)) (fun _ _ _ _ _ => (pg_name (i := 4) sc_ranges_of.nd rfl (Or.inl rfl))) (fun _ _ _ _ _ => pts_nil) (fun _ _ _ _ _ => by exact pe_eq (pe_call (ok_whole_of (base := base) T).ok (hr.mono (by decide)) (by rfl) T.gl_whole_of (ok_whole_of (base := base) T).kp (ok_whole_of (base := base) T).bd .nil passL (pa_cons (pv 4) pa_nil)) (by (try dsimp only [cxOf, L2.Cx.blk]) <;> exact rfl)))
    (pss_cons (ps_if (PW.pt (pw_or (pt_cmpR (op_neU hr.units) (pe_callB (callr_or call_len_seq call_len_str) (by rfl) T.fr_len (by decide +kernel) (pa_cons (pv 3) pa_nil)) pe_int (nomark _)) (pw_or1 (pt_cmpR op_inU pe_non (pv 3) (by rfl)))))
    (pss_one (ps_ret pe_non))
    pss_nil)
    (pss_one (ps_expr (pe_bm PySem.F.plainAttrs_list PySem.F.slot_list_append PySem.F.type_list_append mt_append (pv 1) (pa_cons (pe_callTy call_tuple_of (by rfl) T.fr_tuple (by decide +kernel) (pa_cons (pv 3) pa_nil)) pa_nil)))))))
    (pss_one (ps_ret (pv 1))))), spW_leq (N := n_ranges_of) (S_ranges_of T) (by kernel_rfl) (fun ds m R X h => by rw [hl ds m R X h]; decide) (fun ds m R X h => ?_) q⟩
  have h2 := h
  unfold fn_ranges_of at h2; dsimp only at h2; unfold sp_ranges_of at h2
  obtain ⟨a, rfl, _⟩ := g1_of h2
  exact rd_ranges_of T h
def entryOf (w : Str) (c : Nat) : Da :=
  if c = 114 then rangesOf w else if c = 117 ∧ w = "none" then .non else if c = 105 ∨ c = 117 then (if isN (wholeOf w) = true then .str w else wholeOf w) else if c = 98 ∧ w = "-" then .str "" else .str w
def sp_entry_of : Fs := g2 fun a b m R X => ∃ (w : Str) (c : Nat), (a = .str w ∧ b = .str (sign c) ∧ w.length ≤ 10000) ∧ outE (entryOf w c) m R
theorem mo_entry_of : FMono sp_entry_of := gm2 fun a b m R R' X X' hr hx ⟨w, c, h1, h4⟩ => ⟨w, c, h1, outE_mono hr h4⟩
abbrev fn_entry_of (K : PySem.W.Frag) : Fn := ⟨sp_entry_of, mo_entry_of⟩
def S_entry_of (T : Top w K mg) : SSt K :=
    (sSeq (sIf (sTest (sOp oEq (sVar 1) (sStr "r")))
    (sRet (sCall (fn_ranges_of K) (sCons (sVar 0) sNil)))
    sPass)
    (sSeq (sIf (stAnd (sTest (sOp oEq (sVar 1) (sStr "u"))) (sTest (sOp oEq (sVar 0) (sStr "none"))))
    (sRet sNon)
    sPass)
    (sSeq (sIf (sTest (sOp oIn (sVar 1) (sTup (sCons (sStr "i") (sCons (sStr "u") sNil)))))
    (sSeq (sSet 2 (sCall (fn_whole_of K) (sCons (sVar 0) sNil)))
    (sRet (sIfe (sTest (sOp oIsN (sVar 2) sNon)) (sVar 0) (sVar 2))))
    sPass)
    (sRet (sIfe (stAnd (sTest (sOp oEq (sVar 1) (sStr "b"))) (sTest (sOp oEq (sVar 0) (sStr "-")))) (sStr "") (sVar 0))))))
theorem whole_nolst (w : Str) : ∀ l, wholeOf w ≠ .lst l := fun l => by unfold wholeOf; split <;> exact nofun
theorem rd_entry_of (T : Top w K mg) {a b : Da} {m : Sto} {R : Rk} {X : Xk} (h : (fn_entry_of K).F [a, b] m R X) : (S_entry_of T).w (dn n_entry_of [a, b]) m (fun _ m' => R .non m') R X noN noN := by
  obtain ⟨w', c, ⟨rfl, rfl, hl⟩, h⟩ := h
  walk_at "go"
  rw [eqS_sign (k := 114) (by decide +kernel)]
  unfold entryOf at h
  by_cases c1 : c = 114
  · rw [if_pos c1] at h
    rw [decide_eq_true c1]
    walk_at "go"
    exact ⟨w', ⟨rfl, hl⟩, h⟩
  rw [if_neg c1] at h
  rw [decide_eq_false c1]
  walk_at "go"
  rw [eqS_sign (k := 117) (by decide +kernel)]
  have ein : inV (V.str (sign c)) [V.str ("i" : Str), V.str ("u" : Str)] = decide (c = 105 ∨ c = 117) := by
    have e1 : ("i" : Str) = sign 105 := by decide +kernel
    have e2 : ("u" : Str) = sign 117 := by decide +kernel
    rw [e1, e2, Bool.eq_iff_iff]
    simp only [inV, List.any_cons, List.any_nil, eqV, sign]
    simp
    omega
  have tail : c = 105 ∨ c = 117 → outE (if isN (wholeOf w') = true then .str w' else wholeOf w') m R → ∀ k : Da → Sto → Prop, (∀ d, d = wholeOf w' → (isN d = true → R (.str w') m) → (isN d = false → R d m) → k d m) → k (wholeOf w') m := fun _ h k hk => by
    refine hk _ rfl (fun z => ?_) (fun z => ?_)
    · rw [if_pos z] at h; exact h
    · rw [if_neg (by rw [z]; decide)] at h; exact outE_at (whole_nolst w') h
  by_cases c2 : c = 117
  · rw [decide_eq_true c2]
    walk_at "go"
    by_cases cw : w' = "none"
    · rw [cw, eqS_self]
      rw [if_pos ⟨c2, cw⟩] at h
      walk_at "go"
      exact h
    · rw [eqS_ne cw]
      rw [if_neg (fun z => cw z.2), if_pos (.inr c2)] at h
      walk_at "go"
      rw [ein, decide_eq_true (.inr c2)]
      walk_at "go"
      refine ⟨w', ⟨rfl, by omega⟩, ?_⟩
      walk_at "go"
      cases en : isN (wholeOf w') with
      | true =>
        rw [en] at h
        walk_at "go"
        exact h
      | false =>
        rw [en] at h
        walk_at "go"
        exact outE_at (whole_nolst w') h
  · rw [decide_eq_false c2]
    rw [if_neg (fun z => c2 z.1)] at h
    walk_at "go"
    rw [ein]
    by_cases c3 : c = 105
    · rw [if_pos (.inl c3)] at h
      rw [decide_eq_true (.inl c3)]
      walk_at "go"
      refine ⟨w', ⟨rfl, by omega⟩, ?_⟩
      walk_at "go"
      cases en : isN (wholeOf w') with
      | true =>
        rw [en] at h
        walk_at "go"
        exact h
      | false =>
        rw [en] at h
        walk_at "go"
        exact outE_at (whole_nolst w') h
    · have c4 : ¬ (c = 105 ∨ c = 117) := fun z => z.elim c3 c2
      rw [if_neg c4] at h
      rw [decide_eq_false c4]
      walk_at "go"
      rw [eqS_sign (k := 98) (by decide +kernel)]
      by_cases c5 : c = 98
      · rw [decide_eq_true c5]
        walk_at "go"
        by_cases cw : w' = "-"
        · rw [cw, eqS_self]
          rw [if_pos ⟨c5, cw⟩] at h
          walk_at "go"
          exact h
        · rw [eqS_ne cw]
          rw [if_neg (fun z => cw z.2)] at h
          walk_at "go"
          exact h
      · rw [decide_eq_false c5]
        rw [if_neg (fun z => c5 z.1)] at h
        walk_at "go"
        exact h
theorem ok_entry_of (T : Top w K mg) : FnAt R.prog w K mg base 3 (He.ga K "entry_of") p_entry_of (spW K (fn_entry_of K).F) := by
  have hl : ∀ ds m R X, (fn_entry_of K).F ds m R X → ds.length = 2 := fun ds m R X h => by unfold fn_entry_of at h; dsimp only at h; unfold sp_entry_of at h; exact gl2 _ _ _ _ h
  refine fnAt_of (k := 2) T.d_entry_of sc_entry_of (fun vs H Q E q => spW_len (F := (fn_entry_of K).F) hl q) (fun _ _ _ _ _ _ us hl => match us, hl with | [_, _], _ => rfl) fun cdv A outer s H vs Q E hr q => ⟨_, (pss_cons (ps_if (pt_cmpR (op_eqU hr.units) (pv 1) pe_str (nomark _))
    (pss_one (ps_ret (pe_call (ok_ranges_of (base := base) T).ok (hr.mono (by decide)) (by rfl) T.gl_ranges_of (ok_ranges_of (base := base) T).kp (ok_ranges_of (base := base) T).bd .nil (passes_call (takes_of rfl rfl rfl rfl) (fun _ _ _ _ h => h)) (pa_cons (pv 0) pa_nil))))
    pss_nil)
    (pss_cons (ps_if (PW.pt (pw_and (pt_cmpR (op_eqU hr.units) (pv 1) pe_str (nomark _)) (pw_and1 (pt_cmpR (op_eqU hr.units) (pv 0) pe_str (nomark _)))))
    (pss_one (ps_ret pe_non))
    pss_nil)
    (pss_cons (ps_if (pt_cmpR op_inU (pv 1) (pe_tup (pa_cons pe_str (pa_cons pe_str pa_nil))) (by rfl))
    (pss_cons (ps_set (i := 2) sc_entry_of.nd rfl (Or.inl rfl) (pe_call (ok_whole_of (base := base) T).ok (hr.mono (by decide)) (by rfl) T.gl_whole_of (ok_whole_of (base := base) T).kp (ok_whole_of (base := base) T).bd .nil (passes_call (takes_of rfl rfl rfl rfl) (fun _ _ _ _ h => h)) (pa_cons (pv 0) pa_nil)))
    (pss_one (ps_ret (pe_ifExp (pt_cmpR op_isN (pv 2) pe_non (nomark _)) (pv 0) (pv 2)))))
    pss_nil)
    (pss_one (ps_ret (pe_ifExp (PW.pt (pw_and (pt_cmpR (op_eqU hr.units) (pv 1) pe_str (nomark _)) (pw_and1 (pt_cmpR (op_eqU hr.units) (pv 0) pe_str (nomark _))))) pe_str (pv 0))))))), spW_eq (N := n_entry_of) (S_entry_of T) (by kernel_rfl) (fun ds m R X h => by rw [hl ds m R X h]; decide) (fun ds m R X h => ?_) q⟩
  have h2 := h
  unfold fn_entry_of at h2; dsimp only at h2; unfold sp_entry_of at h2
  obtain ⟨a, b, rfl, _⟩ := g2_of h2
  exact rd_entry_of T h

end
end G

set_option maxHeartbeats 4000000
namespace G
open PySem PySem.Spec PyProof.Rows L2

local macro_rules | `(tactic| walk_at "go") => `(tactic| ((conv => whnf); repeat ((first | refine isi_of (by first | assumption | exact trivial) ?_ | rw [Sto.put_same] | refine And.intro (by first | exact rfl | exact trivial | exact Nat.le_of_ble_eq_true rfl) ?_); (conv => whnf))))
local macro_rules | `(tactic| walk_at "wk") => `(tactic| ((repeat (walk_at "go"; first | refine optK_of (by first | assumption | exact Sto.put_same) ?_ | refine And.intro (by show (0 : Int) < _; decide) ?_ | refine And.intro (And.intro (by show (0 : Int) < _; decide) (by decide)) ?_ | refine And.intro (show CPow _ _ from ⟨by decide, by decide, by decide⟩) ?_)); try walk_at "go"))

section
variable {w : World} {K : PySem.W.Frag} {mg : Str → Option Value} {base : Heap}
theorem digits_lt {l : List Nat} (h : NumText.AllDigits l) : NumText.digitsVal l < 10 ^ l.length := by
  have key : ∀ (l : List Nat) (a : Nat), NumText.AllDigits l → l.foldl (fun acc c => acc * 10 + (c - 48)) a < (a + 1) * 10 ^ l.length := by
    intro l
    induction l with
    | nil => intro a _; simp
    | cons c l ih =>
      intro a h
      have hc := h c (by simp)
      have h1 := ih (a * 10 + (c - 48)) (fun x hx => h x (List.mem_cons_of_mem _ hx))
      rw [List.foldl_cons, List.length_cons, Nat.pow_succ]
      refine Nat.lt_of_lt_of_le h1 ?_
      have h2 : a * 10 + (c - 48) + 1 ≤ (a + 1) * 10 := by omega
      calc _ ≤ ((a + 1) * 10) * 10 ^ l.length := Nat.mul_le_mul_right _ h2
        _ = _ := by rw [Nat.mul_assoc, Nat.mul_comm 10]
  have := key l 0 h
  simpa [NumText.digitsVal] using this
theorem whole_short (w : Str) : shortD (wholeOf w) = true := by
  unfold wholeOf
  split
  · rename_i h
    unfold wholeB at h
    simp only [Bool.and_eq_true] at h
    obtain ⟨⟨⟨h1, h2⟩, h3⟩, h4⟩ := h
    have h2 := of_decide_eq_true h2
    have hd := digits_lt (digs_all h3)
    have hp : 10 ^ (figsOf w.cps.toList).length ≤ 10 ^ 60 := Nat.pow_le_pow_right (by decide) (by omega)
    have hv : (valOf w.cps.toList).natAbs = NumText.digitsVal (figsOf w.cps.toList) := by
      unfold valOf figsOf
      split <;> simp
    have e : ((10 ^ 60 : Nat) : Int) = (10 : Int) ^ 60 := by norm_cast
    show decide ((if valOf w.cps.toList < 0 then -valOf w.cps.toList else valOf w.cps.toList) < 10 ^ 60) = true
    apply decide_eq_true
    split <;> omega
  · rfl
theorem entry_short (w : Str) (c : Nat) : shortD (entryOf w c) = true := by
  unfold entryOf
  split
  · unfold rangesOf
    split <;> rfl
  split
  · rfl
  split
  · split
    · rfl
    · exact whole_short w
  split <;> rfl
theorem rangesOf_ok {m : Sto} {w : Str} (h : w.length ≤ 10000) : Ok m (rangesOf w) := by
  unfold rangesOf
  split
  · rename_i rs e
    have hl := rangesPs_len e
    have hb := (split_bound (x := w) (y := ",") (by decide +kernel) h).1
    refine .lst (fun d hd => ?_) (by rw [List.length_map]; omega)
    obtain ⟨r, _, rfl⟩ := List.mem_map.mp hd
    refine .tup (fun e he => ?_) (by simp)
    simp at he
    rcases he with rfl | rfl | rfl <;> exact .sc trivial (fun _ => nofun) (fun _ => nofun) (fun _ => nofun)
  · exact .sc trivial (fun _ => nofun) (fun _ => nofun) (fun _ => nofun)
theorem ok_str {m : Sto} {z : Str} (h : z.length ≤ sizeLine) : Ok m (.str z) := .sc trivial (fun _ => nofun) (fun _ => nofun) (fun _ e => by cases e; exact h)
theorem ok_int {m : Sto} {i : Int} : Ok m (.int i) := .sc trivial (fun _ => nofun) (fun _ => nofun) (fun _ => nofun)
theorem ok_non {m : Sto} : Ok m .non := .sc trivial (fun _ => nofun) (fun _ => nofun) (fun _ => nofun)
theorem entryOf_ok {m : Sto} {w : Str} {c : Nat} (h : w.length ≤ 10000) : Ok m (entryOf w c) := by
  have hz : w.length ≤ sizeLine := Nat.le_trans h (by decide)
  unfold entryOf
  split
  · exact rangesOf_ok h
  split
  · exact ok_non
  split
  · split
    · exact ok_str hz
    · unfold wholeOf
      split
      · exact ok_int
      · exact ok_non
  split
  · exact ok_str (by decide +kernel)
  · exact ok_str hz
theorem entryOf_noadr {w : Str} {c : Nat} (p : Addr) : entryOf w c ≠ .adr p := by
  unfold entryOf rangesOf wholeOf
  repeat' split
  all_goals nofun
/-- the entries read from words -/
def entriesOf (ws : List Str) (f : Str) : List Da := (ws.zip (105 :: f.cps.toList)).map fun q => entryOf q.1 q.2
def deedOf (z : Str) : Da := match Txt.split z " " with
  | w :: ws => match formOf w with
    | some f => if ws.length = f.cps.toList.length + 1 ∧ okD w (entriesOf ws f) f = true ∧ deedText w (entriesOf ws f) f = z then .tup (.str w :: entriesOf ws f) else .non
    | none => .non
  | [] => .non
def enc3 (q : Str × Nat) : Da := .tup [.str q.1, .str (sign q.2)]
def enc3' : Str × Nat → Da := enc3
theorem zip_signs3 (es : List Str) (l : List Nat) : zipD (es.map Da.str) (l.map fun c => Da.str (sign c)) = (es.zip l).map enc3 := by
  unfold zipD
  induction es generalizing l with
  | nil => rfl
  | cons e es ih => cases l with
    | nil => rfl
    | cons c l =>
      have := ih l
      simp only [List.map_cons, List.zip_cons_cons, List.map_map] at this ⊢
      rw [this]
      rfl
/-- a deed that was read: its list is in the store -/
def outT (d : Da) (m : Sto) (R : Rk) : Prop := match d with
  | .tup [a, b, c, .lst l] => ∀ q, m q = none → R (.tup [a, b, c, .adr q]) (m.put q (.lst l))
  | d => R d m
theorem outT_mono {d : Da} {m : Sto} {R R' : Rk} (f : ∀ d m', R d m' → R' d m') (h : outT d m R) : outT d m R' := by
  unfold outT at h ⊢
  split at h
  · exact fun q hq => f _ _ (h q hq)
  · exact f _ _ h
theorem outT_no {d : Da} {m : Sto} {R : Rk} (n : ∀ a b c l, d ≠ .tup [a, b, c, .lst l]) (h : outT d m R) : R d m := by
  unfold outT at h
  split at h
  · exact absurd rfl (n _ _ _ _)
  · exact h
theorem form_map {w f : Str} (h : formOf w = some f) (hr : 114 ∈ f.cps.toList) : w = "map" ∧ f = "ir" := by
  have key : ∀ l : List (Str × Str), (∀ q ∈ l, 114 ∈ q.2.cps.toList → q.1 = "map" ∧ q.2 = "ir") → l.lookup w = some f → w = "map" ∧ f = "ir" := by
    intro l
    induction l with
    | nil => intro _ h; cases h
    | cons q l ih =>
      intro hl h
      simp only [List.lookup] at h
      cases e : w == q.1 with
      | true =>
        rw [e] at h
        cases h
        have e2 : w = q.1 := by simpa using e
        rw [e2]
        exact hl q (by simp) hr
      | false => rw [e] at h; exact ih (fun x hx => hl x (List.mem_cons_of_mem _ hx)) h
  exact key forms (by decide +kernel) h
theorem entry_nolst {w : Str} {c : Nat} (h : c ≠ 114) : ∀ l, entryOf w c ≠ .lst l := fun l => by
  unfold entryOf
  rw [if_neg h]
  split
  · exact nofun
  split
  · split
    · exact nofun
    · exact whole_nolst w l
  split <;> exact nofun
def sp_deed_of : Fs := g1 fun a m R X => ∃ w : Str, (a = .str w ∧ w.length ≤ 9000) ∧ outT (deedOf w) m R
theorem mo_deed_of : FMono sp_deed_of := gm1 fun a m R R' X X' hr hx ⟨w, h1, h3⟩ => ⟨w, h1, outT_mono hr h3⟩
abbrev fn_deed_of (K : PySem.W.Frag) : Fn := ⟨sp_deed_of, mo_deed_of⟩
@[irreducible] def S_deed_of_5 (T : Top w K mg) : SSt K :=
    (sSeq (sIf (stOr (stNot (sTru (sCall (fn_is_deed K) (sCons (sVar 3) sNil)))) (stAnd (sTest (sOp oIn (sStr "r") (sVar 2))) (stNot (sTru (sCall (fn_are_ranges K) (sCons (sOp oIx (sVar 3) (sInt 3)) sNil))))))
    (sRet sNon)
    sPass)
    (sRet (sIfe (sTest (sOp oEq (sCall (fn_deed_text K) (sCons (sVar 3) sNil)) (sVar 0))) (sVar 3) sNon)))
def S_deed_of (T : Top w K mg) : SSt K :=
    (sSeq (sSet 1 (sM1 mSplit (sVar 0) (sStr " ")))
    (sSeq (sIf (sTest (sOp (oNotInT (He.ga K "FORMS") (ktab_FORMS K)) (sOp oIx (sVar 1) (sInt 0)) (sAdr (He.ga K "FORMS"))))
    (sRet sNon)
    sPass)
    (sSeq (sSet 2 (sOp oAdd (sStr "i") (sOp (oIxT (He.ga K "FORMS") (ktab_FORMS K)) (sAdr (He.ga K "FORMS")) (sOp oIx (sVar 1) (sInt 0)))))
    (sSeq (sIf (sTest (sOp oNe (sCB cLen (sCons (sVar 1) sNil)) (sOp oAdd (sInt 1) (sCB cLen (sCons (sVar 2) sNil)))))
    (sRet sNon)
    sPass)
    (sSeq (sSet 3 (sOp oAdd (sTup (sCons (sOp oIx (sVar 1) (sInt 0)) sNil)) (sCB cTuple (sCons (sLc (iZip (sCons (sSl (sVar 1) (poSo (sInt 1)) poNo) (sCons (sVar 2) sNil))) (tgTup [4, 5]) sYes (sCall (fn_entry_of K) (sCons (sVar 4) (sCons (sVar 5) sNil))) [4, 5]) sNil))))
    (S_deed_of_5 T))))))
/-- the end of it -/
theorem deed_fin (T : Top w K mg) {z v f : Str} {ws : List Str} {es : List Da} {x1 x2 : Option Da} {m m1 : Sto} {R : Rk} {X : Xk} (hf : formOf v = some f) (hes : es.map (rsv m1) = entriesOf ws f) (ok : DeedOk m1 (.tup (.str v :: es))) (hl : (entriesOf ws f).length = f.cps.toList.length + 1) (hsub : Sub m m1)
    (hsh : (entriesOf ws f).all shortD = true) (h1 : okD v (entriesOf ws f) f = true → deedText v (entriesOf ws f) f = z → R (.tup (.str v :: es)) m1) (h2 : ¬ (okD v (entriesOf ws f) f = true ∧ deedText v (entriesOf ws f) f = z) → R .non m) :
    (S_deed_of_5 T).w [some (.str z), x1, some (.str (("i" : Str) ++ f)), some (.tup (.str v :: es)), x2, none] m1 (fun _ m' => ∃ m2, Sub m2 m' ∧ R .non m2) (fun d m' => ∃ m2, Sub m2 m' ∧ R d m2) (fun x m' => ∃ m2, Sub m2 m' ∧ X x m2) noN noN := by
  have er : rsvT m1 (.tup (.str v :: es)) = .tup (.str v :: entriesOf ws f) := by
    show Da.tup (.str v :: es.map (rsv m1)) = _
    rw [hes]
  have hd0 : deedD (.tup (.str v :: es)) = deedD (.tup (.str v :: entriesOf ws f)) := by
    have := deedD_rsv (m := m1) (.tup (.str v :: es))
    rw [er] at this
    exact this.symm
  have fin : okD v (entriesOf ws f) f = true → iteB (eqS (deedText v (entriesOf ws f) f) z) (∃ m2, Sub m2 m1 ∧ R (.tup (.str v :: es)) m2) (∃ m2, Sub m2 m1 ∧ R .non m2) := fun hk => by
    by_cases c : deedText v (entriesOf ws f) f = z
    · rw [c, eqS_self]
      exact ⟨_, Sub.refl _, h1 hk c⟩
    · rw [eqS_ne c]
      exact ⟨m, hsub, h2 fun q => c q.2⟩
  unfold S_deed_of_5
  walk_at "go"
  refine ⟨⟨ok.ok, ok.len⟩, ?_⟩
  walk_at "go"
  cases hd : deedD (.tup (.str v :: es)) with
  | false =>
    walk_at "go"
    exact ⟨m, hsub, h2 fun q => by have := q.1; unfold okD at this; rw [← hd0, hd] at this; cases this⟩
  | true =>
    walk_at "go"
    rw [show ("r" : Str) = sign 114 by decide +kernel, inS_sign, i_form]
    have em : decide (114 ∈ 105 :: f.cps.toList) = decide (114 ∈ f.cps.toList) := by
      rw [Bool.eq_iff_iff, decide_eq_true_iff, decide_eq_true_iff]
      simp
    rw [em]
    by_cases c : 114 ∈ f.cps.toList
    · rw [decide_eq_true c]
      obtain ⟨rfl, rfl⟩ := form_map hf c
      have el3 : (entriesOf ws ("ir" : Str)).length = 3 := by rw [hl]; decide +kernel
      have el : es.length = 3 := by
        have := congrArg List.length hes
        rw [List.length_map] at this
        omega
      match es, el with
      | [e0, e1, e2], _ =>
        walk_at "go"
        refine ⟨⟨(ok.ok.tu e2 (by simp)).ty, fun ds e => ok.ls _ ds e2 rfl (by simp) e⟩, ?_⟩
        rw [areD_rsv]
        have eo : okD "map" (entriesOf ws "ir") "ir" = areB (rsv m1 e2) := by
          unfold okD
          rw [← hd0, hd, hsh, decide_eq_true c, ← hes]
          rfl
        walk_at "go"
        cases ca : areB (rsv m1 e2) with
        | true =>
          walk_at "go"
          refine ⟨ok, ?_⟩
          rw [er, deedT_eq hf, if_pos (by rw [eo, ca])]
          exact fin (by rw [eo, ca])
        | false =>
          walk_at "go"
          exact ⟨m, hsub, h2 fun q => by have := q.1; rw [eo, ca] at this; cases this⟩
    · rw [decide_eq_false c]
      walk_at "go"
      have hk : okD v (entriesOf ws f) f = true := by
        unfold okD
        rw [← hd0, hd, hsh, decide_eq_false c]
        rfl
      refine ⟨ok, ?_⟩
      rw [er, deedT_eq hf, if_pos hk]
      exact fin hk
theorem Ok.noadr {m m' : Sto} {w : Str} {c : Nat} (h : w.length ≤ 10000) : Ok m' (entryOf w c) := entryOf_ok h
theorem rd_deed_of (T : Top w K mg) {a : Da} {m : Sto} {R : Rk} {X : Xk} (h : (fn_deed_of K).F [a] m R X) : (S_deed_of T).w (dn n_deed_of [a]) m (fun _ m' => ∃ m2, Sub m2 m' ∧ R .non m2) (fun d m' => ∃ m2, Sub m2 m' ∧ R d m2) (fun x m' => ∃ m2, Sub m2 m' ∧ X x m2) noN noN := by
  obtain ⟨z, ⟨rfl, hl⟩, h⟩ := h
  have e1 : 1 ≤ (" " : Str).length := by decide +kernel
  obtain ⟨b1, b2⟩ := split_bound e1 hl
  have bp := PyProof.Rows.split_pos z " "
  unfold deedOf at h
  walk_at "go"
  refine ⟨Nat.le_trans (Nat.add_le_add_right hl 2) (by decide), ?_⟩
  walk_at "go"
  generalize hsp : Txt.split z " " = words at b1 b2 bp h ⊢
  cases words with
  | nil => simp at bp
  | cons v ws =>
    dsimp only at h
    walk_at "go"
    rw [look_forms]
    cases hf : formOf v with
    | none =>
      rw [hf] at h
      walk_at "go"
      exact ⟨_, Sub.refl _, h⟩
    | some f =>
      rw [hf] at h
      dsimp only at h
      have hf3 : f.cps.toList.length ≤ 3 := form_len hf
      have hif : (("i" : Str) ++ f).length = f.cps.toList.length + 1 := by
        show (("i" : Str) ++ f).cps.toList.length = _
        rw [i_form]; rfl
      have hifz : (("i" : Str) ++ f).length ≤ sizeLine := by rw [hif]; exact Nat.le_trans (Nat.add_le_add_right hf3 1) (by decide)
      walk_at "go"
      refine ⟨_, .str f, by rw [look_forms, hf]; rfl, rfl, ?_⟩
      walk_at "go"
      have ei : ("i" : Str).length = 1 := by decide +kernel
      refine ⟨by rw [ei]; exact Nat.le_trans (Nat.add_le_add_left hf3 1) (by decide), ?_⟩
      walk_at "go"
      refine ⟨hifz, ?_⟩
      walk_at "go"
      have el : ((((v :: ws).map Da.str).length : Nat) : Int) = 1 + ((("i" : Str) ++ f).length : Int) ↔ ws.length = f.cps.toList.length + 1 := by
        rw [List.length_map, hif, List.length_cons]
        omega
      by_cases c1 : ws.length = f.cps.toList.length + 1
      · rw [show decide (((((v :: ws).map Da.str).length : Nat) : Int) = 1 + ((("i" : Str) ++ f).length : Int)) = true from decide_eq_true (el.mpr c1)]
        have hz4 : (ws.zip (105 :: f.cps.toList)).length ≤ 4 := by
          have h4 : (105 :: f.cps.toList).length ≤ 4 := by simp only [List.length_cons]; omega
          rw [List.length_zip]
          exact Nat.le_trans (Nat.min_le_right _ _) h4
        have hw9 : ∀ p ∈ ws, p.length ≤ 10000 := fun p hp => by have := b2 p (by simp [hp]); omega
        have hles : (entriesOf ws f).length = f.cps.toList.length + 1 := by
          unfold entriesOf
          rw [List.length_map, List.length_zip, List.length_cons, c1, Nat.min_self]
        have hme : ∀ e ∈ entriesOf ws f, ∃ p c, p ∈ ws ∧ e = entryOf p c := fun e he => by
          unfold entriesOf at he
          obtain ⟨q, hq, rfl⟩ := List.mem_map.mp he
          exact ⟨q.1, q.2, (List.of_mem_zip hq).1, rfl⟩
        have hsh : (entriesOf ws f).all shortD = true := by
          rw [List.all_eq_true]
          intro e he
          obtain ⟨p, c, hp, rfl⟩ := hme e he
          exact entry_short p c
        have hwz : v.length ≤ sizeLine := Nat.le_trans (b2 v (by simp)) (by decide)
        have ez : zipD (ws.map Da.str) ((105 :: f.cps.toList).map fun c => Da.str (sign c)) = (ws.zip (105 :: f.cps.toList)).map enc3 := zip_signs3 _ _
        have ec : cutD ((v :: ws).map Da.str) (some 1) none = ws.map Da.str := cutD_from (i := 1) (by simp)
        walk_at "go"
        rw [signsD_def, i_form, ec, ez]
        refine ⟨by rw [List.length_map]; omega, ?_⟩
        by_cases c : 114 ∈ f.cps.toList
        · obtain ⟨rfl, rfl⟩ := form_map hf c
          have e3 : ("ir" : Str).cps.toList = [105, 114] := by decide +kernel
          rw [e3] at c1 hles ⊢
          match ws, c1 with
          | [p0, p1, p2], _ =>
            have hp0 := hw9 p0 (by simp)
            have hp1 := hw9 p1 (by simp)
            have hp2 := hw9 p2 (by simp)
            have ee : entriesOf [p0, p1, p2] "ir" = [entryOf p0 105, entryOf p1 105, entryOf p2 114] := by unfold entriesOf; rw [e3]; rfl
            walk_at "go"
            refine ⟨p0, 105, ⟨rfl, rfl, hp0⟩, outE_no (entry_nolst (by decide)) ?_⟩
            walk_at "go"
            refine ⟨p1, 105, ⟨rfl, rfl, hp1⟩, outE_no (entry_nolst (by decide)) ?_⟩
            walk_at "go"
            refine ⟨p2, 114, ⟨rfl, rfl, hp2⟩, ?_⟩
            have en : entryOf p2 114 = rangesOf p2 := rfl
            have hn0 : ∀ m', rsv m' (entryOf p0 105) = entryOf p0 105 := fun m' => rsv_no (by
              cases q : entryOf p0 105 with
              | lst l => exact absurd q (entry_nolst (by decide) l)
              | adr a => exact absurd q (entryOf_noadr a)
              | _ => rfl)
            have hn1 : ∀ m', rsv m' (entryOf p1 105) = entryOf p1 105 := fun m' => rsv_no (by
              cases q : entryOf p1 105 with
              | lst l => exact absurd q (entry_nolst (by decide) l)
              | adr a => exact absurd q (entryOf_noadr a)
              | _ => rfl)
            have lno : ∀ m' w c l, c ≠ 114 → listOf m' (entryOf w c) ≠ some l := fun m' w c l hc => by
              cases q : entryOf w c with
              | lst l => exact absurd q (entry_nolst hc l)
              | adr a => exact absurd q (entryOf_noadr a)
              | _ => exact nofun
            rw [ee] at h
            cases hr : rangesPs (Txt.split p2 ",") with
            | none =>
              have en2 : entryOf p2 114 = .non := by rw [en]; unfold rangesOf; rw [hr]
              rw [en2] at h ⊢
              walk_at "go"
              refine deed_fin T (ws := [p0, p1, p2]) (m := m) hf (by rw [ee, en2]; simp [hn0, hn1]; rfl) ⟨?_, ?_, ?_⟩ (by rw [hles, e3]) (Sub.refl _) hsh ?_ ?_
              · refine .tup (fun d hd => ?_) (by simp)
                simp at hd
                rcases hd with rfl | rfl | rfl | rfl
                · exact ok_str hwz
                · exact entryOf_ok hp0
                · exact entryOf_ok hp1
                · exact ok_non
              · rintro ds e; cases e; simp
              · rintro ds l d e hd hl
                cases e
                simp at hd
                rcases hd with rfl | rfl | rfl | rfl
                · cases hl
                · exact absurd hl (lno _ _ _ _ (by decide))
                · exact absurd hl (lno _ _ _ _ (by decide))
                · cases hl
              · intro k1 k2
                rw [ee, en2] at k1 k2
                rw [if_pos ⟨rfl, k1, k2⟩] at h
                exact outT_no (by intro a b c l q; cases q) h
              · intro k
                rw [ee, en2] at k
                rw [if_neg (fun q => k q.2)] at h
                exact h
            | some rs =>
              have en2 : entryOf p2 114 = .lst (rs.map rg) := by rw [en]; unfold rangesOf; rw [hr]
              have hrl : rs.length ≤ 100000 := by
                rw [rangesPs_len hr]
                have := (split_bound (x := p2) (y := ",") (by decide +kernel) hp2).1
                omega
              rw [en2] at h ⊢
              intro q hq
              walk_at "go"
              have hlq : listOf (m.put q (.lst (rs.map rg))) (.adr q) = some (rs.map rg) := by simp only [listOf, Sto.put_same]
              refine deed_fin T (ws := [p0, p1, p2]) (m := m) hf (by rw [ee, en2]; simp [hn0, hn1, rsv_lst hlq]) ⟨?_, ?_, ?_⟩ (by rw [hles, e3]) (sub_put hq) hsh ?_ ?_
              · refine .tup (fun d hd => ?_) (by simp)
                simp at hd
                rcases hd with rfl | rfl | rfl | rfl
                · exact ok_str hwz
                · exact entryOf_ok hp0
                · exact entryOf_ok hp1
                · exact .sc ⟨_, Sto.put_same, rfl⟩ (fun _ => nofun) (fun _ => nofun) (fun _ => nofun)
              · rintro ds e; cases e; simp
              · rintro ds l d e hd hl
                cases e
                simp at hd
                rcases hd with rfl | rfl | rfl | rfl
                · cases hl
                · exact absurd hl (lno _ _ _ _ (by decide))
                · exact absurd hl (lno _ _ _ _ (by decide))
                · rw [hlq] at hl
                  cases hl
                  exact ok_rgs hrl
              · intro k1 k2
                rw [ee, en2] at k1 k2
                rw [if_pos ⟨rfl, k1, k2⟩] at h
                exact h q hq
              · intro k
                rw [ee, en2] at k
                rw [if_neg (fun q => k q.2)] at h
                exact h
        · have hnl : ∀ q ∈ ws.zip (105 :: f.cps.toList), q.2 ≠ 114 := fun q hq z => by
            have := (List.of_mem_zip hq).2
            rw [z] at this
            rcases List.mem_cons.mp this with e | e
            · cases e
            · exact c e
          refine lc_map (mk := fun q => entryOf q.1 q.2) _ (fun q hq k0 k1 hk => ?_) ?_
          · obtain ⟨qe, qc⟩ := q
            walk_at "go"
            exact ⟨qe, qc, ⟨rfl, rfl, hw9 qe (List.of_mem_zip hq).1⟩, outE_no (entry_nolst (hnl _ hq)) hk⟩
          walk_at "go"
          have ees : (ws.zip (105 :: f.cps.toList)).map (fun q => entryOf q.1 q.2) = entriesOf ws f := rfl
          rw [ees]
          refine ⟨by simp only [List.length_cons, List.length_nil]; omega, ?_⟩
          walk_at "go"
          have nolst : ∀ d ∈ entriesOf ws f, listOf m d = none := fun d hd => by
            unfold entriesOf at hd
            obtain ⟨q, hq, rfl⟩ := List.mem_map.mp hd
            cases e : entryOf q.1 q.2 with
            | lst l => exact absurd e (entry_nolst (hnl q hq) l)
            | adr a => exact absurd e (entryOf_noadr a)
            | _ => rfl
          refine deed_fin T (ws := ws) (es := entriesOf ws f) (m := m) hf ?_ ⟨?_, ?_, ?_⟩ hles (Sub.refl _) hsh ?_ ?_
          · rw [List.map_congr_left (f := rsv m) (g := fun d => d) (fun d hd => rsv_no (nolst d hd)), List.map_id']
          · refine .tup (fun d hd => ?_) (by simp only [List.length_cons]; omega)
            rcases List.mem_cons.mp hd with rfl | hd
            · exact ok_str hwz
            · obtain ⟨p, c, hp, rfl⟩ := hme d hd
              exact entryOf_ok (hw9 p hp)
          · rintro ds e; cases e; simp only [List.length_cons]; omega
          · rintro ds l d e hd hl
            cases e
            rcases List.mem_cons.mp hd with rfl | hd
            · cases hl
            · rw [nolst d hd] at hl; cases hl
          · intro k1 k2
            rw [if_pos ⟨c1, k1, k2⟩] at h
            refine outT_no (fun a b c l e => ?_) h
            have e2 := (List.cons.inj (Da.tup.inj e)).2
            have hm : Da.lst l ∈ entriesOf ws f := by rw [e2]; simp
            have := nolst _ hm
            cases this
          · intro k
            rw [if_neg (fun q => k q.2)] at h
            exact h
      · rw [show decide (((((v :: ws).map Da.str).length : Nat) : Int) = 1 + ((("i" : Str) ++ f).length : Int)) = false from decide_eq_false (fun z => c1 (el.mp z))]
        rw [if_neg (fun z => c1 z.1)] at h
        walk_at "go"
        exact ⟨_, Sub.refl _, h⟩
theorem ok_deed_of (T : Top w K mg) : FnAt R.prog w K mg base 10 (He.ga K "deed_of") p_deed_of (spW K (fn_deed_of K).F) := by
  have hl : ∀ ds m R X, (fn_deed_of K).F ds m R X → ds.length = 1 := fun ds m R X h => by unfold fn_deed_of at h; dsimp only at h; unfold sp_deed_of at h; exact gl1 _ _ _ _ h
  refine fnAt_of (k := 9) T.d_deed_of sc_deed_of (fun vs H Q E q => spW_len (F := (fn_deed_of K).F) hl q) (fun _ _ _ _ _ _ us hl => match us, hl with | [_], _ => rfl) fun cdv A outer s H vs Q E hr q => ⟨_, (pss_cons (ps_set (i := 1) sc_deed_of.nd rfl (Or.inl rfl) (pe_split (pv 0) pe_str))
    (pss_cons (ps_if (pt_cmpR (op_notinK T.k_FORMS) (pe_ix ix_seq (pv 1) pe_int (fun _ _ => rfl)) (pe_glob (v := .ref (He.ga _ "FORMS")) (by rfl) T.gl_FORMS rfl) (by rfl))
    (pss_one (ps_ret pe_non))
    pss_nil)
    (pss_cons (ps_set (i := 2) sc_deed_of.nd rfl (Or.inl rfl) (pe_op op_addU pe_str (pe_ix (ix_K T.k_FORMS) (pe_glob (v := .ref (He.ga _ "FORMS")) (by rfl) T.gl_FORMS rfl) (pe_ix ix_seq (pv 1) pe_int (fun _ _ => rfl)) (fun _ _ => rfl))))
    (pss_cons (ps_if (pt_cmpR (op_neU hr.units) (pe_callB (callr_or call_len_seq call_len_str) (by rfl) T.fr_len (by decide +kernel) (pa_cons (pv 1) pa_nil)) (pe_op op_addU pe_int (pe_callB (callr_or call_len_seq call_len_str) (by rfl) T.fr_len (by decide +kernel) (pa_cons (pv 2) pa_nil))) (nomark _))
    (pss_one (ps_ret pe_non))
    pss_nil)
    (pss_cons (ps_set (i := 3) sc_deed_of.nd rfl (Or.inl rfl) (pe_op op_addU (pe_tup (pa_cons (pe_ix ix_seq (pv 1) pe_int (fun _ _ => rfl)) pa_nil)) (pe_callTy call_tuple_of (by rfl) T.fr_tuple (by decide +kernel) (pa_cons (pe_lc (own := [("word", 4), ("kind", 5)]) (g := ((tgTup [4, 5]) : STg K).t) (te := ((sCall (fn_entry_of K) (sCons (sVar 4) (sCons (sVar 5) sNil))) : SE K).t E0) (tt := (sYes : STe K).t E0) (by rfl) sc_deed_of.nd (pi_zip2 (by rfl) T.fr_zip (pa_cons (pe_slice sl_U (pv 1) (po_some pe_int) po_none) (pa_cons (pv 2) pa_nil))) (blkOk_by (own := [("word", 4), ("kind", 5)]) (N := n_deed_of) (sc := defScope s_deed_of) (by decide +kernel)) (fun _ _ _ _ _ => (pg_tup (n := 2) (by rfl) (pgs_cons (pg_name (i := 4) sc_deed_of.nd rfl (Or.inl rfl)) (pgs_cons (pg_name (i := 5) sc_deed_of.nd rfl (Or.inl rfl)) pgs_nil)))) (fun _ _ _ _ _ => pts_nil) (fun _ _ _ _ _ => by exact pe_eq (pe_call (ok_entry_of (base := base) T).ok (hr.mono (by decide)) (by rfl) T.gl_entry_of (ok_entry_of (base := base) T).kp (ok_entry_of (base := base) T).bd .nil passL (pa_cons (pv 4) (pa_cons (pv 5) pa_nil))) (by (try dsimp only [cxOf, L2.Cx.blk]) <;> exact rfl))) pa_nil))))
    (pss_cons (ps_if (PW.pt (pw_or (pt_not (pt_truth (pe_call (ok_is_deed (base := base) T).ok (hr.mono (by decide)) (by rfl) T.gl_is_deed (ok_is_deed (base := base) T).kp (ok_is_deed (base := base) T).bd .nil (passes_call (takes_of rfl rfl rfl rfl) (fun _ _ _ _ h => h)) (pa_cons (pv 3) pa_nil)) (by intro _; rfl))) (pw_or1 (PW.pt (pw_and (pt_cmpR op_inU pe_str (pv 2) (by rfl)) (pw_and1 (pt_not (pt_truth (pe_call (ok_are_ranges (base := base) T).ok (hr.mono (by decide)) (by rfl) T.gl_are_ranges (ok_are_ranges (base := base) T).kp (ok_are_ranges (base := base) T).bd .nil (passes_call (takes_of rfl rfl rfl rfl) (fun _ _ _ _ h => h)) (pa_cons (pe_ix ix_seq (pv 3) pe_int (fun _ _ => rfl)) pa_nil)) (by intro _; rfl)))))))))
    (pss_one (ps_ret pe_non))
    pss_nil)
    (pss_one (ps_ret (pe_ifExp (pt_cmpR (op_eqU hr.units) (pe_call (ok_deed_text (base := base) T).ok (hr.mono (by decide)) (by rfl) T.gl_deed_text (ok_deed_text (base := base) T).kp (ok_deed_text (base := base) T).bd .nil (passes_call (takes_of rfl rfl rfl rfl) (fun _ _ _ _ h => h)) (pa_cons (pv 3) pa_nil)) (pv 0) (nomark _)) (pv 3) pe_non))))))))), spW_leq (N := n_deed_of) (S_deed_of T) (by kernel_rfl) (fun ds m R X h => by rw [hl ds m R X h]; decide) (fun ds m R X h => ?_) q⟩
  have h2 := h
  unfold fn_deed_of at h2; dsimp only at h2; unfold sp_deed_of at h2
  obtain ⟨a, rfl, _⟩ := g1_of h2
  exact rd_deed_of T h

end
end G

set_option maxHeartbeats 4000000
namespace G
open PySem PySem.Spec PyProof.Rows L2

local macro_rules | `(tactic| walk_at "go") => `(tactic| ((conv => whnf); repeat ((first | refine isi_of (by first | assumption | exact trivial) ?_ | rw [Sto.put_same] | refine And.intro (by first | exact rfl | exact trivial | exact Nat.le_of_ble_eq_true rfl) ?_); (conv => whnf))))
local macro_rules | `(tactic| walk_at "wk") => `(tactic| ((repeat (walk_at "go"; first | refine optK_of (by first | assumption | exact Sto.put_same) ?_ | refine And.intro (by show (0 : Int) < _; decide) ?_ | refine And.intro (And.intro (by show (0 : Int) < _; decide) (by decide)) ?_ | refine And.intro (show CPow _ _ from ⟨by decide, by decide, by decide⟩) ?_)); try walk_at "go"))

section
variable {w : World} {K : PySem.W.Frag} {mg : Str → Option Value} {base : Heap}
/-! read_deed, where what is no text raises NoText -/
def sNoText (T : Top w K mg) : SSt K := sRaiseL0 "NoText" (lineB_ok (exB_line T.more)).1 (lineB_ok (exB_line T.more)).2.2.1
def sp_read_deed : Fs := g1 fun a m R X => (∃ z : Str, a = .str z ∧ z.length ≤ 9000 ∧ (isN (deedOf z) = false → outT (deedOf z) m R) ∧ (isN (deedOf z) = true → X ("NoText", some .non) m)) ∨ (okTy m a ∧ isTy5 m .str a = false) ∧ X ("NoText", some .non) m
theorem mo_read_deed : FMono sp_read_deed := gm1 fun a m R R' X X' hr hx h => by
  rcases h with ⟨z, h1, h2, h3, h4⟩ | ⟨h1, h2⟩
  · exact .inl ⟨z, h1, h2, fun e => outT_mono hr (h3 e), fun e => hx _ _ (h4 e)⟩
  · exact .inr ⟨h1, hx _ _ h2⟩
abbrev fn_read_deed (K : PySem.W.Frag) : Fn := ⟨sp_read_deed, mo_read_deed⟩
def S_read_deed (T : Top w K mg) : SSt K :=
    (sSeq (sSet 1 (sIfe (sTru (sIsi .str (sVar 0))) (sCall (fn_deed_of K) (sCons (sVar 0) sNil)) sNon))
    (sSeq (sIf (sTest (sOp oIsN (sVar 1) sNon))
    (sNoText T)
    sPass)
    (sRet (sVar 1))))
theorem rd_read_deed (T : Top w K mg) {a : Da} {m : Sto} {R : Rk} {X : Xk} (h : (fn_read_deed K).F [a] m R X) : (S_read_deed T).w (dn n_read_deed [a]) m (fun _ m' => R .non m') R X noN noN := by
  rcases h with h | ⟨⟨h1, h2⟩, h⟩
  rotate_left
  · walk_at "go"
    rw [h2]
    walk_at "go"
    exact h
  obtain ⟨z, rfl, hl, h3, h4⟩ := h
  walk_at "go"
  refine ⟨z, ⟨rfl, hl⟩, ?_⟩
  cases hd : isN (deedOf z) with
  | false =>
    have h := h3 hd
    have key : ∀ d, isN d = false → outT d m R → outT d m (fun d' m' => isN d' = false ∧ R d' m') := fun d hd h => by
      unfold outT at h ⊢
      split at h
      · exact fun q hq => ⟨rfl, h q hq⟩
      · exact ⟨hd, h⟩
    refine outT_mono (fun d' m' h => ?_) (key _ hd h)
    obtain ⟨h1, h⟩ := h
    walk_at "go"
    rw [h1]
    walk_at "go"
    exact h
  | true =>
    have h := h4 hd
    have e : deedOf z = .non := by
      cases e : deedOf z <;> rw [e] at hd <;> first | rfl | cases hd
    rw [e]
    show _
    unfold outT
    walk_at "go"
    exact h
theorem ok_read_deed (T : Top w K mg) : FnAt R.prog w K mg base 11 (He.ga K "read_deed") p_read_deed (spW K (fn_read_deed K).F) := by
  have hl : ∀ ds m R X, (fn_read_deed K).F ds m R X → ds.length = 1 := fun ds m R X h => by unfold fn_read_deed at h; dsimp only at h; unfold sp_read_deed at h; exact gl1 _ _ _ _ h
  refine fnAt_of (k := 10) T.d_read_deed sc_read_deed (fun vs H Q E q => spW_len (F := (fn_read_deed K).F) hl q) (fun _ _ _ _ _ _ us hl => match us, hl with | [_], _ => rfl) fun cdv A outer s H vs Q E hr q => ⟨_, (pss_cons (ps_set (i := 1) sc_read_deed.nd rfl (Or.inl rfl) (pe_ifExp (pt_truth (pe_callB call_isi (by rfl) T.fr_isinstance (by decide +kernel) (pa_cons (pv 0) (pa_cons (pe_bltn (v := .ty "str") (by rfl) T.fr_str (by decide +kernel) rfl) pa_nil))) (by intro _; rfl)) (pe_call (ok_deed_of (base := base) T).ok (hr.mono (by decide)) (by rfl) T.gl_deed_of (ok_deed_of (base := base) T).kp (ok_deed_of (base := base) T).bd .nil (passes_call (takes_of rfl rfl rfl rfl) (fun _ _ _ _ h => h)) (pa_cons (pv 0) pa_nil)) pe_non))
    (pss_cons (ps_if (pt_cmpR op_isN (pv 1) pe_non (nomark _))
    (pss_one (ps_raise rfl (takes_of rfl rfl rfl rfl) (raise_NoText0 T rfl rfl rfl rfl (hr.mono (by decide)) (by exact rfl) (passes_call (takes_of rfl rfl rfl rfl) (fun _ _ _ _ h => h.elim)))))
    pss_nil)
    (pss_one (ps_ret (pv 1))))), spW_eq (N := n_read_deed) (S_read_deed T) (by kernel_rfl) (fun ds m R X h => by rw [hl ds m R X h]; decide) (fun ds m R X h => ?_) q⟩
  have h2 := h
  unfold fn_read_deed at h2; dsimp only at h2; unfold sp_read_deed at h2
  obtain ⟨a, rfl, _⟩ := g1_of h2
  exact rd_read_deed T h

end
end G

set_option maxHeartbeats 4000000
namespace G
open PySem PySem.Spec PyProof.Rows L2

local macro_rules | `(tactic| walk_at "go") => `(tactic| ((conv => whnf); repeat ((first | refine isi_of (by first | assumption | exact trivial) ?_ | rw [Sto.put_same] | refine And.intro (by first | exact rfl | exact trivial | exact Nat.le_of_ble_eq_true rfl) ?_); (conv => whnf))))
local macro_rules | `(tactic| walk_at "wk") => `(tactic| ((repeat (walk_at "go"; first | refine optK_of (by first | assumption | exact Sto.put_same) ?_ | refine And.intro (by show (0 : Int) < _; decide) ?_ | refine And.intro (And.intro (by show (0 : Int) < _; decide) (by decide)) ?_ | refine And.intro (show CPow _ _ from ⟨by decide, by decide, by decide⟩) ?_)); try walk_at "go"))

section
variable {w : World} {K : PySem.W.Frag} {mg : Str → Option Value} {base : Heap}
/-! the law's draws -/
def sp__law_cell_at : Fs := g2 fun a b m R X => ∃ ns : List Int, (a = .scr (ns.map .int) ∧ b = .int 0) ∧ ∀ n : Int, R (.int n) m
theorem mo__law_cell_at : FMono sp__law_cell_at := gm2 fun a b m R R' X X' hr hx ⟨ns, h1, h2⟩ => ⟨ns, h1, fun n => hr _ _ (h2 n)⟩
abbrev fn__law_cell_at (K : PySem.W.Frag) : Fn := ⟨sp__law_cell_at, mo__law_cell_at⟩
def S__law_cell_at (T : Top w K mg) : SSt K :=
    (sRet (sIfe (sTest (sOp oLt (sVar 1) (sCB cLen (sCons (sVar 0) sNil)))) (sOp oIx (sVar 0) (sVar 1)) (sInt 0)))
theorem rd__law_cell_at (T : Top w K mg) {a b : Da} {m : Sto} {R : Rk} {X : Xk} (h : (fn__law_cell_at K).F [a, b] m R X) : (S__law_cell_at T).w (dn n__law_cell_at [a, b]) m (fun _ m' => R .non m') R X noN noN := by
  obtain ⟨ns, ⟨rfl, rfl⟩, h⟩ := h
  cases ns with
  | nil =>
    walk_at "go"
    exact h 0
  | cons n ns =>
    walk_at "go"
    rw [decide_eq_true (by rw [List.length_map, List.length_cons]; omega)]
    walk_at "go"
    exact h n
theorem ok__law_cell_at (T : Top w K mg) : FnAt R.prog w K mg base 1 (He.ga K "_law_cell_at") p__law_cell_at (spW K (fn__law_cell_at K).F) := by
  have hl : ∀ ds m R X, (fn__law_cell_at K).F ds m R X → ds.length = 2 := fun ds m R X h => by unfold fn__law_cell_at at h; dsimp only at h; unfold sp__law_cell_at at h; exact gl2 _ _ _ _ h
  refine fnAt_of (k := 0) T.d__law_cell_at sc__law_cell_at (fun vs H Q E q => spW_len (F := (fn__law_cell_at K).F) hl q) (fun _ _ _ _ _ _ us hl => match us, hl with | [_, _], _ => rfl) fun cdv A outer s H vs Q E hr q => ⟨_, (pss_one (ps_ret (pe_ifExp (pt_cmpR op_lt (pv 1) (pe_callB (callr_or call_len_seq call_len_str) (by rfl) T.fr_len (by decide +kernel) (pa_cons (pv 0) pa_nil)) (nomark _)) (pe_ix ix_seq (pv 0) (pv 1) (fun _ _ => rfl)) pe_int))), spW_eq (N := n__law_cell_at) (S__law_cell_at T) (by kernel_rfl) (fun ds m R X h => by rw [hl ds m R X h]; decide) (fun ds m R X h => ?_) q⟩
  have h2 := h
  unfold fn__law_cell_at at h2; dsimp only at h2; unfold sp__law_cell_at at h2
  obtain ⟨a, b, rfl, _⟩ := g2_of h2
  exact rd__law_cell_at T h
/-- the state of the draws -/
def StOk (l : List Da) : Prop := (∃ n, l = [.int n]) ∨ ∃ n a c, l = [.int n, .int a, .int c]
def sp__law_digit : Fs := g2 fun a b m R X => ∃ p l k, (a = .adr p ∧ b = .int k ∧ 0 < k ∧ k < 2 ^ 62 ∧ m p = some (.lst l) ∧ StOk l) ∧ ∀ r l', 0 ≤ r → r < k → StOk l' → R (.int r) (m.put p (.lst l'))
theorem mo__law_digit : FMono sp__law_digit := gm2 fun a b m R R' X X' hr hx ⟨p, l, k, h1, h2⟩ => ⟨p, l, k, h1, fun r l' a b c => hr _ _ (h2 r l' a b c)⟩
abbrev fn__law_digit (K : PySem.W.Frag) : Fn := ⟨sp__law_digit, mo__law_digit⟩
@[irreducible] def S__law_digit_1 (T : Top w K mg) : SSt K :=
    (sSeq (sIf (sTest (sOp oGt (sOp oIx (sVar 0) (sInt 0)) (sInt 0)))
    (sSeq (sSet 2 (sOp oMod (sCB cInt (sCons (sOp oIx (sVar 0) (sInt 0)) sNil)) (sVar 1)))
    (sSeq (sSetI (sVar 0) (sInt 0) (sOp oFdiv (sOp oIx (sVar 0) (sInt 0)) (sVar 1)))
    (sRet (sVar 2))))
    sPass)
    (sSeq (sSetI (sVar 0) (sInt 2) (sOp oAdd (sOp oIx (sVar 0) (sInt 2)) (sInt 1)))
    (sSeq (sSet 3 (sOp oMod (sCB cInt (sCons (sOp oMul (sOp oAdd (sOp oAdd (sOp oIx (sVar 0) (sInt 1)) (sOp oMul (sInt 7919) (sOp oIx (sVar 0) (sInt 2)))) (sInt 1)) (sInt 48271)) sNil)) (sInt 2147483647)))
    (sSeq (sSet 3 (sOp oMod (sCB cInt (sCons (sOp oMul (sVar 3) (sOp oAdd (sOp oFdiv (sVar 3) (sInt 1009)) (sInt 69621))) sNil)) (sInt 2147483647)))
    (sRet (sOp oMod (sCB cInt (sCons (sOp oMod (sCB cInt (sCons (sOp oMul (sVar 3) (sOp oAdd (sOp oFdiv (sVar 3) (sInt 2003)) (sInt 40692))) sNil)) (sInt 2147483399)) sNil)) (sVar 1)))))))
def S__law_digit (T : Top w K mg) : SSt K :=
    (sSeq (sIf (sTest (sOp oEq (sCB cLen (sCons (sVar 0) sNil)) (sInt 1)))
    (sSeq (sDrop (sExt (sVar 0) (sLst (sCons (sOp oMod (sCB cInt (sCons (sOp oIx (sVar 0) (sInt 0)) sNil)) (sInt 2147483647)) (sCons (sInt 0) sNil)))))
    (sSetI (sVar 0) (sInt 0) (sOp oMul (sOp oIx (sVar 0) (sInt 0)) (sCB cInt (sCons (sOp oGe (sOp oIx (sVar 0) (sInt 0)) (sOp oPow (sInt 10) (sInt 18))) sNil)))))
    sPass)
    (S__law_digit_1 T))
theorem mul_r {i j : Int} (h : -2 ^ 64 < j ∧ j < 2 ^ 64) : CMul i j ∨ CMulW i j := .inl (.inr h)
theorem mul_l {i j : Int} (h : -2 ^ 64 < i ∧ i < 2 ^ 64) : CMul i j ∨ CMulW i j := .inl (.inl h)
theorem log2_9000 {k : Int} (h : k < 2 ^ 62) (h0 : 0 < k) : k.natAbs.log2 < 9000 := by
  have h1 : k.natAbs.log2 < 62 := (Nat.log2_lt (by omega)).mpr (by omega)
  omega
theorem digit_fin (T : Top w K mg) {p : Addr} {k n i j : Int} {m : Sto} {R : Rk} {X : Xk} (hk : 0 < k) (hk2 : k < 2 ^ 62) (hm : m p = some (.lst [.int n, .int i, .int j])) (h : ∀ r l', 0 ≤ r → r < k → StOk l' → R (.int r) (m.put p (.lst l'))) : (S__law_digit_1 T).w [some (.adr p), some (.int k), none, none] m (fun _ m' => R .non m') R X noN noN := by
  unfold S__law_digit_1
  have kd : ∀ n, CDivW n k := fun n => ⟨hk, log2_9000 hk2 hk⟩
  walk_at "wk"
  by_cases c : 0 < n
  · rw [decide_eq_true c]
    walk_at "wk"
    refine ⟨hk, ?_⟩
    walk_at "wk"
    refine ⟨kd n, ?_⟩
    walk_at "wk"
    exact h _ _ (Int.emod_nonneg _ (by omega)) (Int.emod_lt_of_pos _ hk) (.inr ⟨_, _, _, rfl⟩)
  · rw [decide_eq_false c]
    walk_at "wk"
    refine ⟨mul_l (by decide), ?_⟩
    walk_at "wk"
    refine ⟨mul_r (by decide), ?_⟩
    walk_at "wk"
    refine ⟨mul_l (by omega), ?_⟩
    walk_at "wk"
    refine ⟨mul_l (by omega), ?_⟩
    walk_at "wk"
    refine ⟨hk, ?_⟩
    walk_at "wk"
    exact h _ _ (Int.emod_nonneg _ (by omega)) (Int.emod_lt_of_pos _ hk) (.inr ⟨_, _, _, rfl⟩)
theorem put_put' {m : Sto} {p : Addr} {c c' : Cell} : (m.put p c).put p c' = m.put p c' := put_put
theorem rd__law_digit (T : Top w K mg) {a b : Da} {m : Sto} {R : Rk} {X : Xk} (h : (fn__law_digit K).F [a, b] m R X) : (S__law_digit T).w (dn n__law_digit [a, b]) m (fun _ m' => R .non m') R X noN noN := by
  obtain ⟨p, l, k, ⟨rfl, rfl, hk, hk2, hm, hs⟩, h⟩ := h
  rcases hs with ⟨n, rfl⟩ | ⟨n, i, j, rfl⟩
  · walk_at "wk"
    refine ⟨mul_r (by split <;> decide), ?_⟩
    walk_at "wk"
    refine digit_fin T hk hk2 Sto.put_same fun r l' a b c => ?_
    rw [put_put, put_put]
    exact h r l' a b c
  · walk_at "wk"
    exact digit_fin T hk hk2 hm h
theorem ok__law_digit (T : Top w K mg) : FnAt R.prog w K mg base 1 (He.ga K "_law_digit") p__law_digit (spW K (fn__law_digit K).F) := by
  have hl : ∀ ds m R X, (fn__law_digit K).F ds m R X → ds.length = 2 := fun ds m R X h => by unfold fn__law_digit at h; dsimp only at h; unfold sp__law_digit at h; exact gl2 _ _ _ _ h
  refine fnAt_of (k := 0) T.d__law_digit sc__law_digit (fun vs H Q E q => spW_len (F := (fn__law_digit K).F) hl q) (fun _ _ _ _ _ _ us hl => match us, hl with | [_, _], _ => rfl) fun cdv A outer s H vs Q E hr q => ⟨_, (pss_cons (ps_if (pt_cmpR (op_eqU hr.units) (pe_callB (callr_or call_len_seq call_len_str) (by rfl) T.fr_len (by decide +kernel) (pa_cons (pv 0) pa_nil)) pe_int (nomark _))
    (pss_cons (ps_expr (pe_bm PySem.F.plainAttrs_list PySem.F.slot_list_extend PySem.F.type_list_extend mt_extend (pv 0) (pa_cons (pe_lst (pa_cons (pe_op op_mod (pe_callTy call_int1 (by rfl) T.fr_int (by decide +kernel) (pa_cons (pe_ix ix_seq (pv 0) pe_int (fun _ _ => rfl)) pa_nil)) pe_int) (pa_cons pe_int pa_nil))) pa_nil)))
    (pss_one (ps_asg (pe_op op_mulU (pe_ix ix_seq (pv 0) pe_int (fun _ _ => rfl)) (pe_callTy call_int1 (by rfl) T.fr_int (by decide +kernel) (pa_cons (pe_cmpR op_ge (pe_ix ix_seq (pv 0) pe_int (fun _ _ => rfl)) (pe_op op_pow pe_int pe_int) (nomark _)) pa_nil))) (pg_sub (pv 0) pe_int set_list))))
    pss_nil)
    (pss_cons (ps_if (pt_cmpR op_gt (pe_ix ix_seq (pv 0) pe_int (fun _ _ => rfl)) pe_int (nomark _))
    (pss_cons (ps_set (i := 2) sc__law_digit.nd rfl (Or.inl rfl) (pe_op op_mod (pe_callTy call_int1 (by rfl) T.fr_int (by decide +kernel) (pa_cons (pe_ix ix_seq (pv 0) pe_int (fun _ _ => rfl)) pa_nil)) (pv 1)))
    (pss_cons (ps_asg (pe_op op_fdivW (pe_ix ix_seq (pv 0) pe_int (fun _ _ => rfl)) (pv 1)) (pg_sub (pv 0) pe_int set_list))
    (pss_one (ps_ret (pv 2)))))
    pss_nil)
    (pss_cons (ps_asg (pe_op op_addU (pe_ix ix_seq (pv 0) pe_int (fun _ _ => rfl)) pe_int) (pg_sub (pv 0) pe_int set_list))
    (pss_cons (ps_set (i := 3) sc__law_digit.nd rfl (Or.inl rfl) (pe_op op_mod (pe_callTy call_int1 (by rfl) T.fr_int (by decide +kernel) (pa_cons (pe_op op_mulU (pe_op op_addU (pe_op op_addU (pe_ix ix_seq (pv 0) pe_int (fun _ _ => rfl)) (pe_op op_mulU pe_int (pe_ix ix_seq (pv 0) pe_int (fun _ _ => rfl)))) pe_int) pe_int) pa_nil)) pe_int))
    (pss_cons (ps_set (i := 3) sc__law_digit.nd rfl (Or.inl rfl) (pe_op op_mod (pe_callTy call_int1 (by rfl) T.fr_int (by decide +kernel) (pa_cons (pe_op op_mulU (pv 3) (pe_op op_addU (pe_op op_fdivW (pv 3) pe_int) pe_int)) pa_nil)) pe_int))
    (pss_one (ps_ret (pe_op op_mod (pe_callTy call_int1 (by rfl) T.fr_int (by decide +kernel) (pa_cons (pe_op op_mod (pe_callTy call_int1 (by rfl) T.fr_int (by decide +kernel) (pa_cons (pe_op op_mulU (pv 3) (pe_op op_addU (pe_op op_fdivW (pv 3) pe_int) pe_int)) pa_nil)) pe_int) pa_nil)) (pv 1))))))))), spW_eq (N := n__law_digit) (S__law_digit T) (by kernel_rfl) (fun ds m R X h => by rw [hl ds m R X h]; decide) (fun ds m R X h => ?_) q⟩
  have h2 := h
  unfold fn__law_digit at h2; dsimp only at h2; unfold sp__law_digit at h2
  obtain ⟨a, b, rfl, _⟩ := g2_of h2
  exact rd__law_digit T h
/-- one of some -/
def sp__law_one : Fs := g2 fun a b m R X => ∃ p l ds, (a = .adr p ∧ b = .lst ds ∧ ds ≠ [] ∧ ds.length ≤ 100000 ∧ m p = some (.lst l) ∧ StOk l) ∧ ∀ d l', d ∈ ds → StOk l' → R d (m.put p (.lst l'))
theorem mo__law_one : FMono sp__law_one := gm2 fun a b m R R' X X' hr hx ⟨p, l, ds, h1, h2⟩ => ⟨p, l, ds, h1, fun r l' a b => hr _ _ (h2 r l' a b)⟩
abbrev fn__law_one (K : PySem.W.Frag) : Fn := ⟨sp__law_one, mo__law_one⟩
def S__law_one (T : Top w K mg) : SSt K :=
    (sRet (sOp oIx (sVar 1) (sCall (fn__law_digit K) (sCons (sVar 0) (sCons (sCB cLen (sCons (sVar 1) sNil)) sNil)))))
theorem pos_len {ds : List Da} (h : ds ≠ []) : 0 < ds.length := List.length_pos_iff.mpr h
theorem rd__law_one (T : Top w K mg) {a b : Da} {m : Sto} {R : Rk} {X : Xk} (h : (fn__law_one K).F [a, b] m R X) : (S__law_one T).w (dn n__law_one [a, b]) m (fun _ m' => R .non m') R X noN noN := by
  obtain ⟨p, l, ds, ⟨rfl, rfl, hn, hl, hm, hs⟩, h⟩ := h
  have hp := pos_len hn
  walk_at "wk"
  refine ⟨p, l, ds.length, ⟨rfl, rfl, by omega, by omega, hm, hs⟩, fun r l' r0 r1 hs' => ?_⟩
  walk_at "wk"
  obtain ⟨j, rfl⟩ := Int.eq_ofNat_of_zero_le r0
  refine atK_nat (List.getElem?_eq_getElem (by omega)) ?_
  walk_at "wk"
  exact h _ _ (List.getElem_mem _) hs'
theorem ok__law_one (T : Top w K mg) : FnAt R.prog w K mg base 2 (He.ga K "_law_one") p__law_one (spW K (fn__law_one K).F) := by
  have hl : ∀ ds m R X, (fn__law_one K).F ds m R X → ds.length = 2 := fun ds m R X h => by unfold fn__law_one at h; dsimp only at h; unfold sp__law_one at h; exact gl2 _ _ _ _ h
  refine fnAt_of (k := 1) T.d__law_one sc__law_one (fun vs H Q E q => spW_len (F := (fn__law_one K).F) hl q) (fun _ _ _ _ _ _ us hl => match us, hl with | [_, _], _ => rfl) fun cdv A outer s H vs Q E hr q => ⟨_, (pss_one (ps_ret (pe_ix ix_seq (pv 1) (pe_call (ok__law_digit (base := base) T).ok (hr.mono (by decide)) (by rfl) T.gl__law_digit (ok__law_digit (base := base) T).kp (ok__law_digit (base := base) T).bd .nil (passes_call (takes_of rfl rfl rfl rfl) (fun _ _ _ _ h => h)) (pa_cons (pv 0) (pa_cons (pe_callB (callr_or call_len_seq call_len_str) (by rfl) T.fr_len (by decide +kernel) (pa_cons (pv 1) pa_nil)) pa_nil))) (fun _ _ => rfl)))), spW_eq (N := n__law_one) (S__law_one T) (by kernel_rfl) (fun ds m R X h => by rw [hl ds m R X h]; decide) (fun ds m R X h => ?_) q⟩
  have h2 := h
  unfold fn__law_one at h2; dsimp only at h2; unfold sp__law_one at h2
  obtain ⟨a, b, rfl, _⟩ := g2_of h2
  exact rd__law_one T h
/-- a drawn integer -/
def sp__law_whole : Fs := g1 fun a m R X => ∃ p l, (a = .adr p ∧ m p = some (.lst l) ∧ StOk l) ∧ ∀ i l', i.natAbs < 10 ^ 60 → StOk l' → R (.int i) (m.put p (.lst l'))
theorem mo__law_whole : FMono sp__law_whole := gm1 fun a m R R' X X' hr hx ⟨p, l, h1, h2⟩ => ⟨p, l, h1, fun r l' a b => hr _ _ (h2 r l' a b)⟩
abbrev fn__law_whole (K : PySem.W.Frag) : Fn := ⟨sp__law_whole, mo__law_whole⟩
def S__law_whole (T : Top w K mg) : SSt K :=
    (sSeq (sSet 1 (sLst (sCons (sInt 0) (sCons (sInt 1) (sCons (sInt 7) (sCons (sInt 10) (sCons (sOp oSub (sInt 0) (sInt 1)) (sCons (sOp oSub (sInt 0) (sInt 10)) (sCons (sInt 4294967294) (sCons (sOp oSub (sOp oPow (sInt 10) (sInt 60)) (sInt 1)) (sCons (sOp oSub (sInt 1) (sOp oPow (sInt 10) (sInt 60))) (sCons (sCall (fn__law_digit K) (sCons (sVar 0) (sCons (sOp oPow (sInt 10) (sInt 6)) sNil))) sNil))))))))))))
    (sRet (sCall (fn__law_one K) (sCons (sVar 0) (sCons (sVar 1) sNil)))))
theorem rd__law_whole (T : Top w K mg) {a : Da} {m : Sto} {R : Rk} {X : Xk} (h : (fn__law_whole K).F [a] m R X) : (S__law_whole T).w (dn n__law_whole [a]) m (fun _ m' => R .non m') R X noN noN := by
  obtain ⟨p, l, ⟨rfl, hm, hs⟩, h⟩ := h
  walk_at "wk"
  refine ⟨p, l, _, ⟨rfl, rfl, by decide, by decide, hm, hs⟩, fun r l' r0 r1 hs' => ?_⟩
  have r1 : r < 10 ^ 6 := r1
  walk_at "wk"
  refine ⟨p, l', _, ⟨rfl, rfl, by simp, Nat.le_of_ble_eq_true rfl, Sto.put_same, hs'⟩, fun d l2 hd hs2 => ?_⟩
  rw [put_put]
  have key : ∃ i : Int, d = .int i ∧ i.natAbs < 10 ^ 60 := by
    simp only [List.mem_cons, List.not_mem_nil, or_false] at hd
    have h6 : (10 : Nat) ^ 6 < 10 ^ 60 := by decide
    have r2 : r.natAbs < 10 ^ 6 := by omega
    rcases hd with rfl | rfl | rfl | rfl | rfl | rfl | rfl | rfl | rfl | rfl <;> refine ⟨_, rfl, ?_⟩ <;> first | decide | exact Nat.lt_trans r2 h6
  obtain ⟨i, rfl, hi⟩ := key
  exact h i l2 hi hs2
theorem ok__law_whole (T : Top w K mg) : FnAt R.prog w K mg base 3 (He.ga K "_law_whole") p__law_whole (spW K (fn__law_whole K).F) := by
  have hl : ∀ ds m R X, (fn__law_whole K).F ds m R X → ds.length = 1 := fun ds m R X h => by unfold fn__law_whole at h; dsimp only at h; unfold sp__law_whole at h; exact gl1 _ _ _ _ h
  refine fnAt_of (k := 2) T.d__law_whole sc__law_whole (fun vs H Q E q => spW_len (F := (fn__law_whole K).F) hl q) (fun _ _ _ _ _ _ us hl => match us, hl with | [_], _ => rfl) fun cdv A outer s H vs Q E hr q => ⟨_, (pss_cons (ps_set (i := 1) sc__law_whole.nd rfl (Or.inl rfl) (pe_lst (pa_cons pe_int (pa_cons pe_int (pa_cons pe_int (pa_cons pe_int (pa_cons (pe_op op_sub pe_int pe_int) (pa_cons (pe_op op_sub pe_int pe_int) (pa_cons pe_int (pa_cons (pe_op op_sub (pe_op op_pow pe_int pe_int) pe_int) (pa_cons (pe_op op_sub pe_int (pe_op op_pow pe_int pe_int)) (pa_cons (pe_call (ok__law_digit (base := base) T).ok (hr.mono (by decide)) (by rfl) T.gl__law_digit (ok__law_digit (base := base) T).kp (ok__law_digit (base := base) T).bd .nil (passes_call (takes_of rfl rfl rfl rfl) (fun _ _ _ _ h => h)) (pa_cons (pv 0) (pa_cons (pe_op op_pow pe_int pe_int) pa_nil))) pa_nil))))))))))))
    (pss_one (ps_ret (pe_call (ok__law_one (base := base) T).ok (hr.mono (by decide)) (by rfl) T.gl__law_one (ok__law_one (base := base) T).kp (ok__law_one (base := base) T).bd .nil (passes_call (takes_of rfl rfl rfl rfl) (fun _ _ _ _ h => h)) (pa_cons (pv 0) (pa_cons (pv 1) pa_nil)))))), spW_eq (N := n__law_whole) (S__law_whole T) (by kernel_rfl) (fun ds m R X h => by rw [hl ds m R X h]; decide) (fun ds m R X h => ?_) q⟩
  have h2 := h
  unfold fn__law_whole at h2; dsimp only at h2; unfold sp__law_whole at h2
  obtain ⟨a, rfl, _⟩ := g1_of h2
  exact rd__law_whole T h
/-- comprehensions by what holds behind the items taken -/
theorem lc_invO {f : Da → Sto → (Sto → Prop) → (Da → Sto → Prop) → Prop} {o : Option (Sto → Prop)} {α : Type} {enc : α → Da} {k : List Da → Sto → Prop} (W : List α → List Da → Sto → Prop) (ho : ∀ p acc m, W p acc m → oYes o m)
    (hf : ∀ d m k0 k0' k1 k1', (∀ m', k0 m' → k0' m') → (∀ d' m', k1 d' m' → k1' d' m') → f d m k0 k1 → f d m k0' k1') : ∀ (l pre : List α) (acc0 : List Da),
    (∀ p a q acc m, pre ++ l = p ++ a :: q → W p acc m → f (enc a) m (fun m' => W (p ++ [a]) acc m') (fun d m' => W (p ++ [a]) (acc ++ [d]) m')) → (∀ acc m, W (pre ++ l) acc m → k acc m) → ∀ m, W pre acc0 m → lcW f o (l.map enc) m fun r m' => k (acc0 ++ r) m'
  | [], pre, acc0, _, h, m, hw => ho _ _ _ hw _ (by show k (acc0 ++ []) m; rw [List.append_nil]; exact h _ _ (by rw [List.append_nil]; exact hw))
  | a :: l, pre, acc0, hs, h, m, hw => by
    have tl : ∀ acc m', W (pre ++ [a]) acc m' → lcW f o (l.map enc) m' fun r m2 => k (acc ++ r) m2 := fun acc m' hw' => lc_invO W ho hf l (pre ++ [a]) acc (fun p b q acc m e => hs p b q acc m (by simpa using e)) (fun acc m hw => h acc m (by simpa using hw)) m' hw'
    refine ho _ _ _ hw _ (hf _ _ _ _ _ _ (fun m' h => tl _ _ h) (fun d m' h => ?_) (hs pre a l acc0 m rfl hw))
    have := tl _ _ h
    simpa only [List.append_assoc, List.singleton_append] using this
theorem lc_inv {f : Da → Sto → (Sto → Prop) → (Da → Sto → Prop) → Prop} {α : Type} {enc : α → Da} {k : List Da → Sto → Prop} (W : List α → List Da → Sto → Prop)
    (hf : ∀ d m k0 k0' k1 k1', (∀ m', k0 m' → k0' m') → (∀ d' m', k1 d' m' → k1' d' m') → f d m k0 k1 → f d m k0' k1') (l : List α)
    (hs : ∀ p a q acc m, l = p ++ a :: q → W p acc m → f (enc a) m (fun m' => W (p ++ [a]) acc m') (fun d m' => W (p ++ [a]) (acc ++ [d]) m')) (h : ∀ acc m, W l acc m → k acc m) (m : Sto) (h0 : W [] [] m) : lcW f none (l.map enc) m k := by
  have := lc_invO (o := none) W (fun _ _ _ _ => oYes_none) hf l [] [] hs h m h0
  simpa using this
theorem put_self {m : Sto} {p : Addr} {c : Cell} (h : m p = some c) : m.put p c = m := by
  funext a
  by_cases e : a = p
  · rw [e, Sto.put_same, h]
  · rw [Sto.put_ne e]
theorem sub_filter {l sel : List Nat} (h : sel.Sublist l) (nd : l.Nodup) : l.filter (fun c => decide (c ∈ sel)) = sel := by
  induction h with
  | slnil => rfl
  | @cons s l a h ih =>
    rw [List.nodup_cons] at nd
    rw [List.filter_cons, if_neg (by simpa using fun z => nd.1 (h.subset z))]
    exact ih nd.2
  | @cons_cons s l a h ih =>
    rw [List.nodup_cons] at nd
    rw [List.filter_cons, if_pos (by simp)]
    congr 1
    rw [List.filter_congr (q := fun c => decide (c ∈ s))]
    · exact ih nd.2
    · intro c hc
      have : c ≠ a := fun z => nd.1 (z ▸ hc)
      simp [this]
/-- drawn bits -/
def sp__law_bits : Fs := g1 fun a m R X => ∃ p l, (a = .adr p ∧ m p = some (.lst l) ∧ StOk l) ∧ ∀ z l', bitsD (.str z) = true → StOk l' → R (.str z) (m.put p (.lst l'))
theorem mo__law_bits : FMono sp__law_bits := gm1 fun a m R R' X X' hr hx ⟨p, l, h1, h2⟩ => ⟨p, l, h1, fun r l' a b => hr _ _ (h2 r l' a b)⟩
abbrev fn__law_bits (K : PySem.W.Frag) : Fn := ⟨sp__law_bits, mo__law_bits⟩
def S__law_bits (T : Top w K mg) : SSt K :=
    (sRet (sM1 mJoin (sStr "") (sLc (iStr (sStr "rwxRWXS")) (tgName 1) (sTest (sOp oEq (sCall (fn__law_digit K) (sCons (sVar 0) (sCons (sInt 2) sNil))) (sInt 1))) (sVar 1) [1])))
theorem rd__law_bits (T : Top w K mg) {a : Da} {m : Sto} {R : Rk} {X : Xk} (h : (fn__law_bits K).F [a] m R X) : (S__law_bits T).w (dn n__law_bits [a]) m (fun _ m' => R .non m') R X noN noN := by
  obtain ⟨p, l, ⟨rfl, hm, hs⟩, h⟩ := h
  walk_at "wk"
  rw [signsD_def]
  refine ⟨by rw [List.length_map]; decide +kernel, ?_⟩
  refine lc_inv (enc := fun c => Da.str (sign c)) (fun pre acc m' => ∃ sel l', sel.Sublist pre ∧ acc = sel.map (fun c => Da.str (sign c)) ∧ StOk l' ∧ m' = m.put p (.lst l')) lcT_mono _ ?_ ?_ m ⟨[], l, .slnil, rfl, hs, (put_self hm).symm⟩
  · rintro pre c post acc m' hsp ⟨sel, l', hsel, rfl, hs', rfl⟩
    walk_at "wk"
    refine ⟨p, l', 2, ⟨rfl, rfl, by decide, by decide, Sto.put_same, hs'⟩, fun r l2 r0 r1 hs2 => ?_⟩
    rw [put_put]
    walk_at "wk"
    by_cases c1 : r = 1
    · rw [decide_eq_true c1]
      walk_at "wk"
      exact ⟨sel ++ [c], l2, hsel.append (List.Sublist.refl _), by rw [List.map_append]; rfl, hs2, rfl⟩
    · rw [decide_eq_false c1]
      walk_at "wk"
      exact ⟨sel, l2, hsel.trans (List.sublist_append_left _ _), rfl, hs2, rfl⟩
  · rintro acc m' ⟨sel, l', hsel, rfl, hs', rfl⟩
    walk_at "wk"
    refine optK_of (strsO_map _ _) ⟨?_, ?_⟩
    · have h7 : sel.length ≤ 7 := hsel.length_le
      rw [signs_sum, List.length_map]
      show _ + _ * 0 ≤ _
      omega
    · walk_at "wk"
      rw [join_signs]
      refine h _ _ ?_ hs'
      show eqS _ _ = true
      have e : marksOf ⟨sel.toArray⟩ = ⟨sel.toArray⟩ := by
        unfold marksOf
        rw [sub_filter hsel (by decide +kernel)]
      rw [e, eqS_self]
theorem ok__law_bits (T : Top w K mg) : FnAt R.prog w K mg base 2 (He.ga K "_law_bits") p__law_bits (spW K (fn__law_bits K).F) := by
  have hl : ∀ ds m R X, (fn__law_bits K).F ds m R X → ds.length = 1 := fun ds m R X h => by unfold fn__law_bits at h; dsimp only at h; unfold sp__law_bits at h; exact gl1 _ _ _ _ h
  refine fnAt_of (k := 1) T.d__law_bits sc__law_bits (fun vs H Q E q => spW_len (F := (fn__law_bits K).F) hl q) (fun _ _ _ _ _ _ us hl => match us, hl with | [_], _ => rfl) fun cdv A outer s H vs Q E hr q => ⟨_, (pss_one (ps_ret (pe_join pe_str (pe_lc (own := [("_law_letter", 1)]) (g := ((tgName 1) : STg K).t) (te := ((sVar 1) : SE K).t E0) (tt := ((sTest (sOp oEq (sCall (fn__law_digit K) (sCons (sVar 0) (sCons (sInt 2) sNil))) (sInt 1))) : STe K).t E0) (by rfl) sc__law_bits.nd (pi_str pe_str) (blkOk_by (own := [("_law_letter", 1)]) (N := n__law_bits) (sc := defScope s__law_bits) (by decide +kernel)) (fun _ _ _ _ _ => (pg_name (i := 1) sc__law_bits.nd rfl (Or.inl rfl))) (fun _ _ _ _ _ => by exact pts_eq (pts_one (pt_cmpR (op_eqU hr.units) (pe_call (ok__law_digit (base := base) T).ok (hr.mono (by decide)) (by rfl) T.gl__law_digit (ok__law_digit (base := base) T).kp (ok__law_digit (base := base) T).bd .nil passL (pa_cons (pv 0) (pa_cons pe_int pa_nil))) pe_int (nomark _))) (by (try dsimp only [cxOf, L2.Cx.blk]) <;> exact rfl)) (fun _ _ _ _ _ => (pv 1)))))), spW_eq (N := n__law_bits) (S__law_bits T) (by kernel_rfl) (fun ds m R X h => by rw [hl ds m R X h]; decide) (fun ds m R X h => ?_) q⟩
  have h2 := h
  unfold fn__law_bits at h2; dsimp only at h2; unfold sp__law_bits at h2
  obtain ⟨a, rfl, _⟩ := g1_of h2
  exact rd__law_bits T h

end
end G

set_option maxHeartbeats 4000000
namespace G
open PySem PySem.Spec PyProof.Rows L2

local macro_rules | `(tactic| walk_at "go") => `(tactic| ((conv => whnf); repeat ((first | refine isi_of (by first | assumption | exact trivial) ?_ | rw [Sto.put_same] | refine And.intro (by first | exact rfl | exact trivial | exact Nat.le_of_ble_eq_true rfl) ?_); (conv => whnf))))
local macro_rules | `(tactic| walk_at "wk") => `(tactic| ((repeat (walk_at "go"; first | refine optK_of (by first | assumption | exact Sto.put_same) ?_ | refine And.intro (by show (0 : Int) < _; decide) ?_ | refine And.intro (And.intro (by show (0 : Int) < _; decide) (by decide)) ?_ | refine And.intro (show CPow _ _ from ⟨by decide, by decide, by decide⟩) ?_)); try walk_at "go"))

section
variable {w : World} {K : PySem.W.Frag} {mg : Str → Option Value} {base : Heap}
/-! the law's maps -/
/-- a before b; .. with a gap outside -/
def befR (a b : Rg) : Prop := a.1 + a.2.2 ≤ b.1 ∧ a.2.1 + a.2.2 ≤ b.2.1
def gapR (a b : Rg) : Prop := a.1 + a.2.2 ≤ b.1 ∧ a.2.1 + a.2.2 < b.2.1
def inB (i o : Int) (r : Rg) : Prop := 0 ≤ r.1 ∧ 0 ≤ r.2.1 ∧ 1 ≤ r.2.2 ∧ r.1 + r.2.2 ≤ i ∧ r.2.1 + r.2.2 ≤ o
/-- the ranges drawn, the rows of them, the places behind -/
structure Drw (all rows : List Rg) (i o : Int) : Prop where
  pw : all.Pairwise befR
  ok : ∀ r ∈ all, inB i o r
  rpw : rows.Pairwise gapR
  rok : ∀ r ∈ rows, inB i o r
  fo : all.foldl stepO [] = rows
  last : rows = [] ∨ ∃ pre f g n, rows = pre ++ [(f, g, n)] ∧ f + n = i ∧ g + n = o
  i0 : 0 ≤ i
  o0 : 0 ≤ o
theorem Drw.nil {i o : Int} (h1 : 0 ≤ i) (h2 : 0 ≤ o) : Drw [] [] i o := ⟨.nil, nofun, .nil, nofun, rfl, .inl rfl, h1, h2⟩
theorem inB.mono {i o i' o' : Int} {r : Rg} (h : inB i o r) (h1 : i ≤ i') (h2 : o ≤ o') : inB i' o' r := by
  unfold inB at h ⊢
  omega
theorem stepO_snoc {pre : List Rg} {f g n : Int} {r : Rg} : stepO (pre ++ [(f, g, n)]) r = if r.1 = f + n ∧ r.2.1 = g + n then pre ++ [(f, g, n + r.2.2)] else pre ++ [(f, g, n)] ++ [r] := by
  unfold stepO
  simp only [List.getLast?_append, List.getLast?_singleton, Option.some_or, List.dropLast_concat]
theorem Drw.app {all rows : List Rg} {i o i' o' c : Int} (h : Drw all rows i o) (hi : i ≤ i') (ho : rows = [] ∧ o ≤ o' ∨ o < o') (hc : 1 ≤ c) : Drw (all ++ [(i', o', c)]) (rows ++ [(i', o', c)]) (i' + c) (o' + c) := by
  have := h.i0
  have := h.o0
  have ho2 : o ≤ o' := by omega
  have hin : inB (i' + c) (o' + c) (i', o', c) := by unfold inB; dsimp only; omega
  refine ⟨?_, ?_, ?_, ?_, ?_, .inr ⟨rows, i', o', c, rfl, rfl, rfl⟩, by omega, by omega⟩
  · rw [List.pairwise_append]
    refine ⟨h.pw, List.pairwise_singleton _ _, fun a ha b hb => ?_⟩
    rw [List.mem_singleton.mp hb]
    have := h.ok a ha
    unfold inB at this
    unfold befR
    dsimp only
    omega
  · intro r hr
    rcases List.mem_append.mp hr with hr | hr
    · exact (h.ok r hr).mono (by omega) (by omega)
    · rw [List.mem_singleton.mp hr]; exact hin
  · rw [List.pairwise_append]
    refine ⟨h.rpw, List.pairwise_singleton _ _, fun a ha b hb => ?_⟩
    rw [List.mem_singleton.mp hb]
    have q := h.rok a ha
    have hne : rows ≠ [] := fun z => by rw [z] at ha; cases ha
    unfold inB at q
    unfold gapR
    dsimp only
    rcases ho with ⟨z, _⟩ | z
    · exact absurd z hne
    · omega
  · intro r hr
    rcases List.mem_append.mp hr with hr | hr
    · exact (h.rok r hr).mono (by omega) (by omega)
    · rw [List.mem_singleton.mp hr]; exact hin
  · rw [List.foldl_append, h.fo, List.foldl_cons, List.foldl_nil]
    rcases h.last with rfl | ⟨pre, f, g, n, rfl, e1, e2⟩
    · rfl
    · rw [stepO_snoc, if_neg]
      rintro ⟨_, z⟩
      dsimp only at z
      rcases ho with ⟨y, _⟩ | y
      · simp at y
      · omega
theorem Drw.mer {all pre : List Rg} {f g n i o c : Int} (h : Drw all (pre ++ [(f, g, n)]) i o) (hc : 1 ≤ c) : Drw (all ++ [(i, o, c)]) (pre ++ [(f, g, n + c)]) (i + c) (o + c) := by
  have := h.i0
  have := h.o0
  have hl : f + n = i ∧ g + n = o := by
    rcases h.last with z | ⟨pre', f', g', n', z, e1, e2⟩
    · simp at z
    · have z2 := (List.append_inj' z rfl).2
      have z3 := (List.cons.inj z2).1
      simp only [Prod.mk.injEq] at z3
      omega
  have hin : inB (i + c) (o + c) (i, o, c) := by unfold inB; dsimp only; omega
  have hfg := h.rok (f, g, n) (by simp)
  refine ⟨?_, ?_, ?_, ?_, ?_, .inr ⟨pre, f, g, n + c, rfl, by omega, by omega⟩, by omega, by omega⟩
  · rw [List.pairwise_append]
    refine ⟨h.pw, List.pairwise_singleton _ _, fun a ha b hb => ?_⟩
    rw [List.mem_singleton.mp hb]
    have := h.ok a ha
    unfold inB at this
    unfold befR
    dsimp only
    omega
  · intro r hr
    rcases List.mem_append.mp hr with hr | hr
    · exact (h.ok r hr).mono (by omega) (by omega)
    · rw [List.mem_singleton.mp hr]; exact hin
  · have q := h.rpw
    rw [List.pairwise_append] at q ⊢
    refine ⟨q.1, List.pairwise_singleton _ _, fun a ha b hb => ?_⟩
    rw [List.mem_singleton.mp hb]
    have := q.2.2 a ha (f, g, n) (by simp)
    unfold gapR at this ⊢
    exact this
  · intro r hr
    rcases List.mem_append.mp hr with hr | hr
    · exact (h.rok r (by simp [hr])).mono (by omega) (by omega)
    · rw [List.mem_singleton.mp hr]
      unfold inB at hfg ⊢
      dsimp only at hfg ⊢
      omega
  · rw [List.foldl_append, h.fo, List.foldl_cons, List.foldl_nil, stepO_snoc, if_pos]
    exact ⟨by dsimp only; omega, by dsimp only; omega⟩
theorem perm_sort {α : Type} {le : α → α → Bool} {l l' : List α} (tr : ∀ a b c, le a b = true → le b c = true → le a c = true) (to : ∀ a b, (le a b || le b a) = true) (an : ∀ a b, le a b = true → le b a = true → a = b)
    (p : l'.Perm l) (pw : l.Pairwise fun a b => le a b = true) : l'.mergeSort le = l :=
  List.Perm.eq_of_pairwise (le := fun a b => le a b = true) (fun a b _ _ => an a b) (List.pairwise_mergeSort tr to l') pw ((List.mergeSort_perm l' le).trans p)
theorem leR_sort {l l' : List Rg} (p : l'.Perm l) (pw : l.Pairwise fun a b => leR a b = true) : l'.mergeSort leR = l := by
  refine perm_sort (fun a b c => ?_) (fun a b => ?_) (fun a b => ?_) p pw
  · unfold leR; simp only [decide_eq_true_iff]; omega
  · unfold leR; simp only [Bool.or_eq_true, decide_eq_true_iff]; omega
  · unfold leR; simp only [decide_eq_true_iff]; intro h1 h2
    obtain ⟨a1, a2, a3⟩ := a
    obtain ⟨b1, b2, b3⟩ := b
    dsimp only at h1 h2
    have e1 : a1 = b1 := by omega
    have e2 : a2 = b2 := by omega
    have e3 : a3 = b3 := by omega
    rw [e1, e2, e3]
theorem leP_sort {l l' : List (Int × Int)} (p : l'.Perm l) (pw : l.Pairwise fun a b => leP a b = true) : l'.mergeSort leP = l := by
  refine perm_sort (fun a b c => ?_) (fun a b => ?_) (fun a b => ?_) p pw
  · unfold leP; simp only [decide_eq_true_iff]; omega
  · unfold leP; simp only [Bool.or_eq_true, decide_eq_true_iff]; omega
  · unfold leP; simp only [decide_eq_true_iff]; intro h1 h2
    obtain ⟨a1, a2⟩ := a
    obtain ⟨b1, b2⟩ := b
    dsimp only at h1 h2
    have e1 : a1 = b1 := by omega
    have e2 : a2 = b2 := by omega
    rw [e1, e2]
theorem apart_of {l : List (Int × Int)} (h : l.Pairwise fun a b => a.1 + a.2 ≤ b.1) : apartB l = true := by
  unfold apartB
  rw [List.all_eq_true]
  intro j hj
  have hj := List.mem_range.mp hj
  rw [List.pairwise_iff_getElem] at h
  have := h j (j + 1) (by omega) (by omega) (by omega)
  rw [List.getD_eq_getElem?_getD, List.getD_eq_getElem?_getD, List.getElem?_eq_getElem (by omega), List.getElem?_eq_getElem (by omega)]
  simp only [Option.getD_some, Bool.not_eq_true', decide_eq_false_iff_not]
  omega
theorem map_of_pw {l l' : List Rg} {i o : Int} (p : l'.Perm l) (pw : l.Pairwise befR) (ok : ∀ r ∈ l, inB i o r) (hi : i ≤ TOP) (ho : o ≤ TOP) (hl : l.length ≤ 2000) : mapR l' = true ∧ inOrder l' = l.foldl stepO [] := by
  have pos : ∀ r ∈ l, 1 ≤ r.2.2 := fun r hr => (ok r hr).2.2.1
  have pw1 : l.Pairwise fun a b => a ∈ l ∧ befR a b := by
    have := List.Pairwise.and_mem.mp pw
    exact this.imp fun h => ⟨h.1, h.2.2⟩
  have key : ∀ {a b : Rg}, a ∈ l ∧ befR a b → a.1 < b.1 ∧ a.2.1 < b.2.1 ∧ befR a b := fun {a b} h => by
    have := pos a h.1
    have h2 := h.2
    unfold befR at h2
    refine ⟨?_, ?_, h.2⟩ <;> omega
  constructor
  · unfold mapR
    rw [leP_sort (p.map ins) (by
      rw [List.pairwise_map]
      exact pw1.imp fun h => by
        have := key h
        unfold leP ins
        simp only [decide_eq_true_iff]
        omega), leP_sort (p.map outs) (by
      rw [List.pairwise_map]
      exact pw1.imp fun h => by
        have := key h
        unfold leP outs
        simp only [decide_eq_true_iff]
        omega)]
    simp only [Bool.and_eq_true]
    refine ⟨⟨decide_eq_true (by rw [p.length_eq]; exact hl), ?_⟩, apart_of ?_, apart_of ?_⟩
    · rw [List.all_eq_true]
      intro r hr
      have := ok r (p.mem_iff.mp hr)
      unfold inB at this
      unfold rgOk runI
      simp only [Bool.and_eq_true, decide_eq_true_iff]
      unfold TOP at *
      omega
    · rw [List.pairwise_map]
      exact pw.imp fun h => h.1
    · rw [List.pairwise_map]
      exact pw.imp fun h => h.2
  · unfold inOrder
    rw [leR_sort p (pw1.imp fun h => by
      have := key h
      unfold leR
      simp only [decide_eq_true_iff]
      omega)]
theorem fold_gap : ∀ (l acc : List Rg), (acc ++ l).Pairwise gapR → l.foldl stepO acc = acc ++ l
  | [], acc, _ => by simp
  | r :: l, acc, h => by
    have e : stepO acc r = acc ++ [r] := by
      rcases nil_or_snoc acc with rfl | ⟨pre, ⟨f, g, n⟩, rfl⟩
      · rfl
      · rw [stepO_snoc, if_neg]
        rintro ⟨_, z⟩
        rw [List.pairwise_append] at h
        have := h.2.2 (f, g, n) (by simp) r (by simp)
        unfold gapR at this
        dsimp only at this z
        omega
    rw [List.foldl_cons, e, fold_gap l (acc ++ [r]) (by simpa using h)]
    simp
/-- ranges drawn and their rows -/
def MapOk (tu rows : List Rg) : Prop := mapR tu = true ∧ inOrder tu = rows ∧ mapR rows = true ∧ inOrder rows = rows ∧ rows ≠ [] ∧ tu.length ≤ 6 ∧ rows.length ≤ 6 ∧ tu ≠ [] ∧ ∀ r ∈ tu ++ rows, inB TOP TOP r
theorem foldO_len (l acc : List Rg) : (l.foldl stepO acc).length ≤ acc.length + l.length := stepO_len l acc
theorem Drw.map {all rows tu : List Rg} {i o : Int} (h : Drw all rows i o) (p : tu.Perm all) (hn : all ≠ []) (hl : all.length ≤ 6) (hi : i ≤ TOP) (ho : o ≤ TOP) : MapOk tu rows := by
  obtain ⟨a1, a2⟩ := map_of_pw p h.pw h.ok hi ho (by omega)
  have hr : rows.length ≤ 6 := by
    have := foldO_len all []
    rw [h.fo] at this
    simp at this
    omega
  obtain ⟨b1, b2⟩ := map_of_pw (.refl rows) (h.rpw.imp fun h => ⟨h.1, by have := h.2; omega⟩) h.rok hi ho (by omega)
  have e : rows.foldl stepO [] = rows := by
    have := fold_gap rows [] (by simpa using h.rpw)
    simpa using this
  refine ⟨a1, by rw [a2, h.fo], b1, by rw [b2, e], fun z => ?_, by rw [p.length_eq]; exact hl, hr, fun z => ?_, fun r hr => ?_⟩
  · subst z
    have := h.fo
    rcases nil_or_snoc all with z | ⟨pre, x, rfl⟩
    · exact hn z
    · rw [List.foldl_append, List.foldl_cons, List.foldl_nil] at this
      generalize pre.foldl stepO [] = acc at this
      unfold stepO at this
      split at this
      · split at this <;> simp at this
      · simp at this
  · subst z
    exact hn (List.nil_perm.mp p)
  · rcases List.mem_append.mp hr with hr | hr
    · exact (h.ok r (p.mem_iff.mp hr)).mono hi ho
    · exact (h.rok r hr).mono hi ho
/-! drawing one -/
theorem sub_upd {m m' : Sto} {p : Addr} {c c2 : Cell} (h : Sub (m.put p c) m') : Sub (m.put p c2) (m'.put p c2) := fun a c' e => by
  by_cases z : a = p
  · subst z
    rw [Sto.put_same] at e ⊢
    exact e
  · rw [Sto.put_ne z] at e ⊢
    exact h a c' (by rw [Sto.put_ne z]; exact e)
theorem sub_oth {m m' : Sto} {q : Addr} {c : Cell} (h : Sub m m') (hq : m q = none) : Sub m (m'.put q c) := fun a c' e => by
  have z : a ≠ q := fun z => by rw [z, hq] at e; cases e
  rw [Sto.put_ne z]
  exact h a c' e
/-- the store while a map is drawn -/
structure MI (m : Sto) (p q1 q2 : Addr) (m' : Sto) (l : List Da) (ra rb : List Rg) : Prop where
  ok : StOk l
  sub : Sub (m.put p (.lst l)) m'
  p_ : m' p = some (.lst l)
  q1_ : m' q1 = some (.lst (ra.map rg))
  q2_ : m' q2 = some (.lst (rb.map rg))
structure MA (m : Sto) (p q1 q2 : Addr) : Prop where
  n1 : q1 ≠ p
  n2 : q2 ≠ p
  n12 : q2 ≠ q1
  e1 : m q1 = none
  e2 : m q2 = none
section
variable {m m' : Sto} {p q1 q2 : Addr} {l : List Da} {ra rb : List Rg}
theorem MI.dig (h : MI m p q1 q2 m' l ra rb) (A : MA m p q1 q2) {l2 : List Da} (o : StOk l2) : MI m p q1 q2 (m'.put p (.lst l2)) l2 ra rb :=
  ⟨o, sub_upd h.sub, Sto.put_same, by rw [Sto.put_ne A.n1]; exact h.q1_, by rw [Sto.put_ne A.n2]; exact h.q2_⟩
theorem MI.set1 (h : MI m p q1 q2 m' l ra rb) (A : MA m p q1 q2) {ra' : List Rg} : MI m p q1 q2 (m'.put q1 (.lst (ra'.map rg))) l ra' rb :=
  ⟨h.ok, sub_oth h.sub (by rw [Sto.put_ne A.n1]; exact A.e1), by rw [Sto.put_ne A.n1.symm]; exact h.p_, Sto.put_same, by rw [Sto.put_ne A.n12]; exact h.q2_⟩
theorem MI.set2 (h : MI m p q1 q2 m' l ra rb) (A : MA m p q1 q2) {rb' : List Rg} : MI m p q1 q2 (m'.put q2 (.lst (rb'.map rg))) l ra rb' :=
  ⟨h.ok, sub_oth h.sub (by rw [Sto.put_ne A.n2]; exact A.e2), by rw [Sto.put_ne A.n2.symm]; exact h.p_, by rw [Sto.put_ne A.n12.symm]; exact h.q1_, Sto.put_same⟩
theorem MI.app1 (h : MI m p q1 q2 m' l ra rb) (A : MA m p q1 q2) (x : Rg) : MI m p q1 q2 (m'.put q1 (.lst (ra.map rg ++ [rg x]))) l (ra ++ [x]) rb := by
  have := h.set1 A (ra' := ra ++ [x])
  rw [List.map_append] at this
  exact this
theorem MI.app2 (h : MI m p q1 q2 m' l ra rb) (A : MA m p q1 q2) (x : Rg) : MI m p q1 q2 (m'.put q2 (.lst (rb.map rg ++ [rg x]))) l ra (rb ++ [x]) := by
  have := h.set2 A (rb' := rb ++ [x])
  rw [List.map_append] at this
  exact this
end
def sp__law_map : Fs := g1 fun a m R X => ∃ p l, (a = .adr p ∧ m p = some (.lst l) ∧ StOk l) ∧ ∀ tu rows l', MapOk tu rows → StOk l' → R (.tup [.lst (tu.map rg), .lst (rows.map rg), .str (rangesText rows)]) (m.put p (.lst l'))
theorem mo__law_map : FMono sp__law_map := gm1 fun a m R R' X X' hr hx ⟨p, l, h1, h2⟩ => ⟨p, l, h1, fun t r l' a b => hr _ _ (h2 t r l' a b)⟩
abbrev fn__law_map (K : PySem.W.Frag) : Fn := ⟨sp__law_map, mo__law_map⟩
@[irreducible] def S__law_map_2 (T : Top w K mg) : SSt K :=
    (sSeq (sSet 8 (sLc (iRange1 (sCons (sCB cLen (sCons (sVar 1) sNil)) sNil)) (tgName 5) sYes (sPopAt (sVar 1) (sCall (fn__law_digit K) (sCons (sVar 0) (sCons (sCB cLen (sCons (sVar 1) sNil)) sNil)))) [5]))
    (sFrzS 2 (sRet (sTup (sCons (sVar 8) (sCons (sVar 2) (sCons (sM1 mJoin (sStr ",") (sLc (iList (sVar 2)) (tgName 10) sYes (sM1 mJoin (sStr ":") (sLc (iTup (sVar 10)) (tgName 9) sYes (sCB cStr (sCons (sVar 9) sNil)) [9])) [10])) sNil)))))))
@[irreducible] def S__law_map_1 (T : Top w K mg) : SSt K :=
    (sSeq (sFor (iRange1 (sCons (sOp oAdd (sInt 1) (sCall (fn__law_digit K) (sCons (sVar 0) (sCons (sInt 6) sNil)))) sNil)) (tgName 5)
    (sSeq (sPar 6 7 (sCons (sOp oAdd (sInt 1) (sCall (fn__law_digit K) (sCons (sVar 0) (sCons (sInt 9) sNil)))) (sCons (sCall (fn__law_digit K) (sCons (sVar 0) (sCons (sInt 2) sNil))) sNil)))
    (sSeq (sPar 3 4 (sCons (sOp oAdd (sVar 3) (sOp oMul (sVar 7) (sCall (fn__law_digit K) (sCons (sVar 0) (sCons (sInt 3) sNil))))) (sCons (sOp oAdd (sVar 4) (sVar 7)) sNil)))
    (sSeq (sIf (stAnd (sTest (sOp oNe (sVar 2) (sLst sNil))) (sTest (sOp oEq (sVar 7) (sInt 0))))
    (sSetI (sVar 2) (sNeg (sInt 1)) (sTup (sCons (sOp oIx (sOp oIx (sVar 2) (sNeg (sInt 1))) (sInt 0)) (sCons (sOp oIx (sOp oIx (sVar 2) (sNeg (sInt 1))) (sInt 1)) (sCons (sOp oAdd (sOp oIx (sOp oIx (sVar 2) (sNeg (sInt 1))) (sInt 2)) (sVar 6)) sNil)))))
    (sDrop (sApp (sVar 2) (sTup (sCons (sVar 3) (sCons (sVar 4) (sCons (sVar 6) sNil)))))))
    (sSeq (sDrop (sApp (sVar 1) (sTup (sCons (sVar 3) (sCons (sVar 4) (sCons (sVar 6) sNil))))))
    (sPar 3 4 (sCons (sOp oAdd (sVar 3) (sVar 6)) (sCons (sOp oAdd (sVar 4) (sVar 6)) sNil))))))))
    (S__law_map_2 T))
def S__law_map (T : Top w K mg) : SSt K :=
    (sSeq (sAsg (tgTup [1, 2, 3, 4]) (sTup (sCons (sLstM sNil) (sCons (sLstM sNil) (sCons (sCall (fn__law_digit K) (sCons (sVar 0) (sCons (sInt 50) sNil))) (sCons (sCall (fn__law_one K) (sCons (sVar 0) (sCons (sLst (sCons (sInt 0) (sCons (sInt 7) (sCons (sInt 4294967000) sNil)))) sNil))) sNil))))))
    (S__law_map_1 T))
theorem erase_perm {α : Type} : ∀ (l : List α) (j : Nat) (h : j < l.length), (l[j] :: l.eraseIdx j).Perm l
  | [], _, h => by cases h
  | a :: l, 0, _ => .refl _
  | a :: l, j + 1, h => by
    have := erase_perm l j (by simpa using h)
    exact (List.Perm.swap _ _ _).trans (this.cons a)
theorem map_erase {α β : Type} (f : α → β) : ∀ (l : List α) (j : Nat), (l.map f).eraseIdx j = (l.eraseIdx j).map f
  | [], _ => rfl
  | a :: l, 0 => rfl
  | a :: l, j + 1 => by
    show f a :: _ = f a :: _
    rw [map_erase f l j]
/-- the list of a map's rows is not empty, or is -/
theorem pys_rg (rs : List Rg) : pys (rs.map rg) = some (rs.map fun r => .tuple [.int r.1, .int r.2.1, .int r.2.2]) := by
  induction rs with
  | nil => rfl
  | cons r rs ih => simp only [List.map_cons, pys, ih]; rfl
theorem lay_rg : ∀ rs : List Rg, PyData.canLayAll0 (rs.map fun r => .tuple [.int r.1, .int r.2.1, .int r.2.2]) = true ∧ PyData.depthAll (rs.map fun r => .tuple [.int r.1, .int r.2.1, .int r.2.2]) ≤ 2
  | [] => ⟨rfl, by decide⟩
  | r :: rs => by
    obtain ⟨a, b⟩ := lay_rg rs
    refine ⟨?_, ?_⟩
    · simp [PyData.canLayAll0, PyData.canLay0, a]
    · simp only [List.map_cons, PyData.depthAll, PyData.depth]
      omega
theorem shaped_rg (rs : List Rg) : SeqAt.shaped (.list (rs.map fun r => .tuple [.int r.1, .int r.2.1, .int r.2.2])) = true := by
  obtain ⟨a, b⟩ := lay_rg rs
  unfold SeqAt.shaped
  simp only [PyData.canLay0, PyData.depth, a, Bool.true_and, decide_eq_true_iff]
  have h3 := Nat.add_le_add_right b 1
  exact decide_eq_true (Nat.le_trans h3 (show 2 + 1 ≤ 64 by decide))
theorem py_rows {m : Sto} {q : Addr} {rs : List Rg} (h : m q = some (.lst (rs.map rg))) : pyM m (.adr q) = some (.list (rs.map fun r => .tuple [.int r.1, .int r.2.1, .int r.2.2])) := by simp only [pyM, h, pys_rg, Option.map_some]
theorem eqv_nil (rs : List Rg) : PyData.eqv (.list (rs.map fun r => .tuple [.int r.1, .int r.2.1, .int r.2.2])) (.list []) = decide (rs = []) := by
  cases rs <;> rfl
theorem map_fin (T : Top w K mg) {p q1 q2 : Addr} {m m' : Sto} {l : List Da} {all rows : List Rg} {i o : Int} {R : Rk} {X : Xk} {x3 x4 x5 x6 x7 : Option Da} (A : MA m p q1 q2) (M : MI m p q1 q2 m' l all rows) (D : Drw all rows i o) (hn : all ≠ []) (hl : all.length ≤ 6) (hi : i ≤ TOP) (ho : o ≤ TOP)
    (h : ∀ tu rows l', MapOk tu rows → StOk l' → R (.tup [.lst (tu.map rg), .lst (rows.map rg), .str (rangesText rows)]) (m.put p (.lst l'))) :
    (S__law_map_2 T).w [some (.adr p), some (.adr q1), some (.adr q2), x3, x4, x5, x6, x7, none, none, none] m' (fun _ m' => ∃ m2, Sub m2 m' ∧ R .non m2) (fun d m' => ∃ m2, Sub m2 m' ∧ R d m2) (fun x m' => ∃ m2, Sub m2 m' ∧ X x m2) noN noN := by
  unfold S__law_map_2
  have z4 := M.q1_
  walk_at "wk"
  rw [List.length_map]
  refine ⟨⟨by omega, by omega⟩, ?_⟩
  walk_at "wk"
  rw [rngD_def]
  refine ⟨by rw [List.length_map, List.length_range]; omega, ?_⟩
  refine lc_inv (enc := fun k : Nat => Da.int (0 + (k : Int))) (fun pre acc m' => ∃ tk rest l', MI m p q1 q2 m' l' rest rows ∧ acc = tk.map rg ∧ (tk ++ rest).Perm all ∧ tk.length = pre.length) lcT_mono _ ?_ ?_ m' ⟨[], all, l, M, rfl, .refl _, rfl⟩
  · rintro pre k post acc m' hsp ⟨tk, rest, l', M, rfl, hp, hlen⟩
    have hpl := congrArg List.length hsp
    rw [List.length_append, List.length_cons, List.length_range] at hpl
    have hal := hp.length_eq
    rw [List.length_append] at hal
    have hr : 0 < rest.length := by omega
    have z5 := M.q1_
    walk_at "wk"
    refine ⟨p, l', _, ⟨rfl, rfl, by rw [List.length_map]; omega, by rw [List.length_map]; omega, M.p_, M.ok⟩, fun r l2 r0 r1 hs2 => ?_⟩
    rw [List.length_map] at r1
    have M := M.dig A hs2
    have z6 := M.q1_
    walk_at "wk"
    refine ⟨r0, by rw [List.length_map]; exact r1, by omega, ?_⟩
    obtain ⟨j, rfl⟩ := Int.eq_ofNat_of_zero_le r0
    have hj : j < rest.length := by omega
    refine optK_of (a := rg rest[j]) (by show (rest.map rg)[j]? = _; rw [List.getElem?_map, List.getElem?_eq_getElem hj]; rfl) ?_
    refine ⟨tk ++ [rest[j]], rest.eraseIdx j, l2, ?_, by rw [List.map_append]; rfl, ?_, by rw [List.length_append, List.length_append, hlen]; rfl⟩
    · have e : (rest.map rg).eraseIdx (Int.ofNat j).toNat = (rest.eraseIdx j).map rg := map_erase _ _ _
      show MI m p q1 q2 (Sto.put _ q1 (.lst ((rest.map rg).eraseIdx (Int.ofNat j).toNat))) _ _ _
      rw [e]
      exact M.set1 A
    · refine List.Perm.trans ?_ hp
      rw [List.append_assoc]
      refine List.Perm.append_left _ ?_
      exact erase_perm rest j hj
  · rintro acc m' ⟨tk, rest, l', M, rfl, hp, hlen⟩
    have hal := hp.length_eq
    rw [List.length_append] at hal
    rw [List.length_range] at hlen
    have hr : rest = [] := List.length_eq_zero_iff.mp (by omega)
    subst hr
    rw [List.append_nil] at hp
    have K := D.map hp hn hl hi ho
    have z7 := M.q2_
    have hok := (mapR_ok K.2.2.1).2
    have hrl := K.2.2.2.2.2.2.1
    walk_at "wk"
    refine ⟨by rw [List.length_map]; omega, lc_map (mk := fun r => .str (rgText r)) rows (fun r hr k0 k1 hk => ?_) ?_⟩
    · obtain ⟨⟨a1, a2⟩, ⟨b1, b2⟩, c1, c2⟩ := ok_ints (hok r hr)
      have h10 : (10 : Int) ^ 10 = 10000000000 := by decide
      have h40 : (2 : Nat) ^ 40 = 1099511627776 := by decide
      have o1 : r.1.natAbs.log2 < 1920 := okI_of (k := 40) (by omega) (by decide) (by decide)
      have o2 : r.2.1.natAbs.log2 < 1920 := okI_of (k := 40) (by omega) (by decide) (by decide)
      have o3 : r.2.2.natAbs.log2 < 1920 := okI_of (k := 40) (by omega) (by decide) (by decide)
      have h1 := num_len (k := 10) (by decide) a1 (by omega)
      have h2 := num_len (k := 10) (by decide) b1 (by omega)
      have h3 := num_len (i := r.2.2) (k := 10) (by decide) (by omega) (by omega)
      walk_at "wk"
      refine ⟨o1, ?_⟩
      walk_at "wk"
      refine ⟨o2, ?_⟩
      walk_at "wk"
      refine ⟨o3, ?_⟩
      walk_at "wk"
      refine ⟨?_, hk⟩
      have e : (":" : Str).length = 1 := by decide +kernel
      rw [e]
      simp
      omega
    walk_at "wk"
    refine optK_of (strsO_map _ _) ⟨?_, ?_⟩
    · have e : ("," : Str).length = 1 := by decide +kernel
      have h1 := sum_le (f := fun r : Rg => (rgText r).length) (k := 33) (l := rows) (fun r hr => rgText_len (hok r hr))
      rw [e, List.map_map, List.length_map]
      have e2 : (rows.map ((fun x : Str => x.length) ∘ rgText)).sum = (rows.map fun r => (rgText r).length).sum := rfl
      rw [e2]
      omega
    · walk_at "wk"
      refine ⟨_, ?_, h tk rows l' K M.ok⟩
      intro a c hc
      have := M.sub a c hc
      have ne : a ≠ q2 := fun z => by rw [z, Sto.put_ne A.n2, A.e2] at hc; cases hc
      rw [Sto.del_ne ne]
      exact this
theorem rd__law_map (T : Top w K mg) {a : Da} {m : Sto} {R : Rk} {X : Xk} (h : (fn__law_map K).F [a] m R X) : (S__law_map T).w (dn n__law_map [a]) m (fun _ m' => ∃ m2, Sub m2 m' ∧ R .non m2) (fun d m' => ∃ m2, Sub m2 m' ∧ R d m2) (fun x m' => ∃ m2, Sub m2 m' ∧ X x m2) noN noN := by
  obtain ⟨p, l, ⟨rfl, hm, hs⟩, h⟩ := h
  walk_at "wk"
  intro q1 hq1
  walk_at "wk"
  intro q2 hq2
  have A : MA m p q1 q2 := by
    have n1 : q1 ≠ p := fun z => by rw [z, hm] at hq1; cases hq1
    have n12 : q2 ≠ q1 := fun z => by rw [z, Sto.put_same] at hq2; cases hq2
    rw [Sto.put_ne n12] at hq2
    have n2 : q2 ≠ p := fun z => by
      rw [z, hm] at hq2
      cases hq2
    exact ⟨n1, n2, n12, hq1, hq2⟩
  have M : MI m p q1 q2 ((m.put q1 (.lst [])).put q2 (.lst [])) l [] [] := by
    refine ⟨hs, ?_, by rw [Sto.put_ne A.n2.symm, Sto.put_ne A.n1.symm]; exact hm, by rw [Sto.put_ne A.n12.symm, Sto.put_same]; rfl, Sto.put_same⟩
    rw [put_self hm]
    exact sub_oth (sub_put A.e1) A.e2
  generalize (m.put q1 (.lst [])).put q2 (.lst []) = m0 at M ⊢
  walk_at "wk"
  refine ⟨p, l, 50, ⟨rfl, rfl, by decide, by decide, M.p_, hs⟩, fun i l1 i0 i1 hs1 => ?_⟩
  have M := M.dig A hs1
  walk_at "wk"
  refine ⟨p, l1, _, ⟨rfl, rfl, by simp, Nat.le_of_ble_eq_true rfl, M.p_, hs1⟩, fun d l2 hd hs2 => ?_⟩
  have M := M.dig A hs2
  have key : ∃ o : Int, d = .int o ∧ 0 ≤ o ∧ o ≤ 4294967000 := by
    simp only [List.mem_cons, List.not_mem_nil, or_false] at hd
    rcases hd with rfl | rfl | rfl <;> exact ⟨_, rfl, by decide, by decide⟩
  obtain ⟨o, rfl, o0, o1⟩ := key
  generalize (m0.put p (.lst l1)).put p (.lst l2) = m1 at M ⊢
  walk_at "wk"
  unfold S__law_map_1
  walk_at "wk"
  refine ⟨p, l2, 6, ⟨rfl, rfl, by decide, by decide, M.p_, hs2⟩, fun n l3 n0 n1 hs3 => ?_⟩
  have M := M.dig A hs3
  generalize m1.put p (.lst l3) = m2 at M ⊢
  walk_at "wk"
  refine ⟨⟨by omega, by omega⟩, ?_⟩
  walk_at "wk"
  rw [rngD_def]
  refine for_inv (enc := fun k : Nat => Da.int (0 + (k : Int))) (fun pre δ' m' => ∃ all rows i o l' x5 x6 x7, MI m p q1 q2 m' l' all rows ∧ Drw all rows i o ∧ all.length = pre.length ∧ i ≤ 49 + 11 * pre.length ∧ o ≤ 4294967000 + 10 * pre.length ∧ δ' = [some (.adr p), some (.adr q1), some (.adr q2), some (.int i), some (.int o), x5, x6, x7, none, none, none]) forT_mono _ [] ?_ ?_ _ _ ⟨[], [], i, o, l3, _, _, _, M, .nil i0 o0, rfl, by simp; omega, by simp; omega, rfl⟩
  · rintro pre k post δ' m' hsp ⟨all, rows, i, o, l', x5, x6, x7, M, D, hal, hi, ho, rfl⟩
    walk_at "wk"
    refine ⟨p, l', 9, ⟨rfl, rfl, by decide, by decide, M.p_, M.ok⟩, fun c l4 c0 c1 hs4 => ?_⟩
    have M := M.dig A hs4
    walk_at "wk"
    refine ⟨p, l4, 2, ⟨rfl, rfl, by decide, by decide, M.p_, M.ok⟩, fun far l5 f0 f1 hs5 => ?_⟩
    have M := M.dig A hs5
    walk_at "wk"
    refine ⟨p, l5, 3, ⟨rfl, rfl, by decide, by decide, M.p_, M.ok⟩, fun t l6 t0 t1 hs6 => ?_⟩
    have M := M.dig A hs6
    walk_at "wk"
    refine ⟨mul_l (by omega), ?_⟩
    have hpl := congrArg List.length hsp
    rw [List.nil_append, List.length_append, List.length_cons, List.length_range] at hpl
    have hall : all.length ≤ 6 := by omega
    have hrl : rows.length ≤ all.length := by
      have := foldO_len all []
      rw [D.fo] at this
      simpa using this
    have y1 := M.q1_
    have y2 := M.q2_
    have hf : far = 0 ∨ far = 1 := by omega
    walk_at "wk"
    refine ⟨_, .list [], py_rows y2, rfl, shaped_rg _, by decide, ?_⟩
    rw [eqv_nil]
    rcases nil_or_snoc rows with rfl | ⟨pr, ⟨f, g, n'⟩, rfl⟩
    · rw [decide_eq_true rfl]
      have M2 := M.app2 A (i + far * t, o + far, 1 + c)
      have y3 := M2.q1_
      walk_at "wk"
      refine ⟨by rw [List.length_map]; omega, ?_⟩
      walk_at "wk"
      have ht : 0 ≤ far * t ∧ far * t ≤ 2 := by rcases hf with rfl | rfl <;> omega
      have D2 := D.app (i' := i + far * t) (o' := o + far) (c := 1 + c) (by omega) (.inl ⟨rfl, by omega⟩) (by omega)
      refine ⟨_, _, _, _, _, _, _, _, M2.app1 A (i + far * t, o + far, 1 + c), D2, ?_, ?_, ?_, rfl⟩
      · rw [List.length_append, List.length_append, hal]; rfl
      · rw [List.length_append, List.length_singleton]; omega
      · rw [List.length_append, List.length_singleton]; omega
    · rw [decide_eq_false (by simp)]
      have e0 : ((pr ++ [(f, g, n')]).map rg).reverse[0]? = some (rg (f, g, n')) := by simp
      rcases hf with rfl | rfl
      · walk_at "wk"
        have es : ((pr ++ [(f, g, n')]).map rg).set (((pr ++ [(f, g, n')]).map rg).length - 1 - 0) (Da.tup [Da.int (f, g, n').fst, Da.int (f, g, n').snd.fst, Da.int ((f, g, n').snd.snd + (1 + c))]) = (pr ++ [(f, g, n' + (1 + c))]).map rg := by
          rw [List.map_append, List.length_append, List.map_append]
          simp
        have M2 := M.set2 A (rb' := pr ++ [(f, g, n' + (1 + c))])
        have y3 := M2.q1_
        refine iteB_of (b := Nat.ble 1 ((pr ++ [(f, g, n')]).map rg).length) ?_
        rw [if_pos (Nat.ble_eq_true_of_le (by rw [List.length_map, List.length_append]; simp))]
        rw [es]
        walk_at "wk"
        refine ⟨by rw [List.length_map]; omega, ?_⟩
        walk_at "wk"
        have D2 : Drw (all ++ [(i + 0 * t, o + 0, 1 + c)]) (pr ++ [(f, g, n' + (1 + c))]) (i + 0 * t + (1 + c)) (o + 0 + (1 + c)) := by
          rw [show i + 0 * t = i by omega, show o + 0 = o by omega]
          exact D.mer (by omega)
        refine ⟨_, _, _, _, _, _, _, _, M2.app1 A (i + 0 * t, o + 0, 1 + c), D2, ?_, ?_, ?_, rfl⟩
        · rw [List.length_append, List.length_append, hal]; rfl
        · rw [List.length_append, List.length_singleton]; omega
        · rw [List.length_append, List.length_singleton]; omega
      · have M2 := M.app2 A (i + 1 * t, o + 1, 1 + c)
        have y3 := M2.q1_
        walk_at "wk"
        refine ⟨by rw [List.length_map]; omega, ?_⟩
        walk_at "wk"
        refine ⟨by rw [List.length_map]; omega, ?_⟩
        walk_at "wk"
        have D2 := D.app (i' := i + 1 * t) (o' := o + 1) (c := 1 + c) (by omega) (.inr (by omega)) (by omega)
        refine ⟨_, _, _, _, _, _, _, _, M2.app1 A (i + 1 * t, o + 1, 1 + c), D2, ?_, ?_, ?_, rfl⟩
        · rw [List.length_append, List.length_append, hal]; rfl
        · rw [List.length_append, List.length_singleton]; omega
        · rw [List.length_append, List.length_singleton]; omega
  · rintro δ' m' ⟨all, rows, i, o, l', x5, x6, x7, M, D, hal, hi, ho, rfl⟩
    simp only [List.nil_append, List.length_range] at hal hi ho
    exact map_fin T A M D (fun z => by subst z; simp at hal; omega) (by omega) (by unfold TOP; omega) (by unfold TOP; omega) h
theorem ok__law_map (T : Top w K mg) : FnAt R.prog w K mg base 3 (He.ga K "_law_map") p__law_map (spW K (fn__law_map K).F) := by
  have hl : ∀ ds m R X, (fn__law_map K).F ds m R X → ds.length = 1 := fun ds m R X h => by unfold fn__law_map at h; dsimp only at h; unfold sp__law_map at h; exact gl1 _ _ _ _ h
  refine fnAt_of (k := 2) T.d__law_map sc__law_map (fun vs H Q E q => spW_len (F := (fn__law_map K).F) hl q) (fun _ _ _ _ _ _ us hl => match us, hl with | [_], _ => rfl) fun cdv A outer s H vs Q E hr q => ⟨_, (pss_cons (ps_asg (pe_tup (pa_cons (pe_lst pa_nil) (pa_cons (pe_lst pa_nil) (pa_cons (pe_call (ok__law_digit (base := base) T).ok (hr.mono (by decide)) (by rfl) T.gl__law_digit (ok__law_digit (base := base) T).kp (ok__law_digit (base := base) T).bd .nil (passes_call (takes_of rfl rfl rfl rfl) (fun _ _ _ _ h => h)) (pa_cons (pv 0) (pa_cons pe_int pa_nil))) (pa_cons (pe_call (ok__law_one (base := base) T).ok (hr.mono (by decide)) (by rfl) T.gl__law_one (ok__law_one (base := base) T).kp (ok__law_one (base := base) T).bd .nil (passes_call (takes_of rfl rfl rfl rfl) (fun _ _ _ _ h => h)) (pa_cons (pv 0) (pa_cons (pe_lst (pa_cons pe_int (pa_cons pe_int (pa_cons pe_int pa_nil)))) pa_nil))) pa_nil))))) (pg_tup (n := 4) (by rfl) (pgs_cons (pg_name (i := 1) sc__law_map.nd rfl (Or.inr rfl)) (pgs_cons (pg_name (i := 2) sc__law_map.nd rfl (Or.inl rfl)) (pgs_cons (pg_name (i := 3) sc__law_map.nd rfl (Or.inl rfl)) (pgs_cons (pg_name (i := 4) sc__law_map.nd rfl (Or.inl rfl)) pgs_nil))))))
    (pss_cons (ps_for (passes_of rfl) (by rfl) (pi_range1 (by rfl) T.fr_range (pa_cons (pe_op op_addU pe_int (pe_call (ok__law_digit (base := base) T).ok (hr.mono (by decide)) (by rfl) T.gl__law_digit (ok__law_digit (base := base) T).kp (ok__law_digit (base := base) T).bd .nil (passes_call (takes_of rfl rfl rfl rfl) (fun _ _ _ _ h => h)) (pa_cons (pv 0) (pa_cons pe_int pa_nil)))) pa_nil)) (pg_name (i := 5) sc__law_map.nd rfl (Or.inl rfl))
    (pss_cons (ps_par (i := 6) (j := 7) (by rfl) sc__law_map.nd rfl rfl (by decide) rfl rfl (pa_cons (pe_op op_addU pe_int (pe_call (ok__law_digit (base := base) T).ok (hr.mono (by decide)) (by rfl) T.gl__law_digit (ok__law_digit (base := base) T).kp (ok__law_digit (base := base) T).bd .nil (passes_call (takes_of rfl rfl rfl rfl) (fun _ _ _ _ h => h)) (pa_cons (pv 0) (pa_cons pe_int pa_nil)))) (pa_cons (pe_call (ok__law_digit (base := base) T).ok (hr.mono (by decide)) (by rfl) T.gl__law_digit (ok__law_digit (base := base) T).kp (ok__law_digit (base := base) T).bd .nil (passes_call (takes_of rfl rfl rfl rfl) (fun _ _ _ _ h => h)) (pa_cons (pv 0) (pa_cons pe_int pa_nil))) pa_nil)) (by rfl))
    (pss_cons (ps_par (i := 3) (j := 4) (by rfl) sc__law_map.nd rfl rfl (by decide) rfl rfl (pa_cons (pe_op op_addU (pv 3) (pe_op op_mulU (pv 7) (pe_call (ok__law_digit (base := base) T).ok (hr.mono (by decide)) (by rfl) T.gl__law_digit (ok__law_digit (base := base) T).kp (ok__law_digit (base := base) T).bd .nil (passes_call (takes_of rfl rfl rfl rfl) (fun _ _ _ _ h => h)) (pa_cons (pv 0) (pa_cons pe_int pa_nil))))) (pa_cons (pe_op op_addU (pv 4) (pv 7)) pa_nil)) (by rfl))
    (pss_cons (ps_if (PW.pt (pw_and (pt_cmpR (op_neU hr.units) (pv 2) (pe_lst pa_nil) (nomark _)) (pw_and1 (pt_cmpR (op_eqU hr.units) (pv 7) pe_int (nomark _)))))
    (pss_one (ps_asg (pe_tup (pa_cons (pe_ix ix_seq (pe_ix ix_seq (pv 2) (pe_un un_neg pe_int) (fun _ _ => rfl)) pe_int (fun _ _ => rfl)) (pa_cons (pe_ix ix_seq (pe_ix ix_seq (pv 2) (pe_un un_neg pe_int) (fun _ _ => rfl)) pe_int (fun _ _ => rfl)) (pa_cons (pe_op op_addU (pe_ix ix_seq (pe_ix ix_seq (pv 2) (pe_un un_neg pe_int) (fun _ _ => rfl)) pe_int (fun _ _ => rfl)) (pv 6)) pa_nil)))) (pg_sub (pv 2) (pe_un un_neg pe_int) set_list)))
    (pss_one (ps_expr (pe_bm PySem.F.plainAttrs_list PySem.F.slot_list_append PySem.F.type_list_append mt_append (pv 2) (pa_cons (pe_tup (pa_cons (pv 3) (pa_cons (pv 4) (pa_cons (pv 6) pa_nil)))) pa_nil)))))
    (pss_cons (ps_expr (pe_bm PySem.F.plainAttrs_list PySem.F.slot_list_append PySem.F.type_list_append mt_append (pv 1) (pa_cons (pe_tup (pa_cons (pv 3) (pa_cons (pv 4) (pa_cons (pv 6) pa_nil)))) pa_nil)))
    (pss_one (ps_par (i := 3) (j := 4) (by rfl) sc__law_map.nd rfl rfl (by decide) rfl rfl (pa_cons (pe_op op_addU (pv 3) (pv 6)) (pa_cons (pe_op op_addU (pv 4) (pv 6)) pa_nil)) (by rfl))))))))
    (pss_cons (ps_setLc (i := 8) (own := [("_law_turn", 5)]) (g := ((tgName 5) : STg K).t) (te := ((sPopAt (sVar 1) (sCall (fn__law_digit K) (sCons (sVar 0) (sCons (sCB cLen (sCons (sVar 1) sNil)) sNil)))) : SE K).t E0) (tt := (sYes : STe K).t E0) (by rfl) sc__law_map.nd rfl rfl (sw_true rfl rfl rfl (by decide +kernel)) (pi_range1 (by rfl) T.fr_range (pa_cons (pe_callB (callr_or call_len_seq call_len_str) (by rfl) T.fr_len (by decide +kernel) (pa_cons (pv 1) pa_nil)) pa_nil)) (blkOk_by (own := [("_law_turn", 5)]) (N := n__law_map) (sc := defScope s__law_map) (by decide +kernel)) (fun _ _ _ _ _ => (pg_name (i := 5) sc__law_map.nd rfl (Or.inl rfl))) (fun _ _ _ _ _ => pts_nil) (fun _ _ _ _ _ => by exact pe_eq (pe_bm PySem.F.plainAttrs_list PySem.F.slot_list_pop PySem.F.type_list_pop mt_popAt (pv 1) (pa_cons (pe_call (ok__law_digit (base := base) T).ok (hr.mono (by decide)) (by rfl) T.gl__law_digit (ok__law_digit (base := base) T).kp (ok__law_digit (base := base) T).bd .nil passL (pa_cons (pv 0) (pa_cons (pe_callB (callr_or call_len_seq call_len_str) (by rfl) T.fr_len (by decide +kernel) (pa_cons (pv 1) pa_nil)) pa_nil))) pa_nil)) (by (try dsimp only [cxOf, L2.Cx.blk]) <;> exact rfl)))
    (pss_one (ps_ret (pe_tup (pa_cons (pv 8) (pa_cons (pv 2) (pa_cons (pe_join pe_str (pe_lc (own := [("_law_row", 10)]) (g := ((tgName 10) : STg K).t) (te := ((sM1 mJoin (sStr ":") (sLc (iTup (sVar 10)) (tgName 9) sYes (sCB cStr (sCons (sVar 9) sNil)) [9])) : SE K).t E0) (tt := (sYes : STe K).t E0) (by rfl) sc__law_map.nd (pi_list (pv 2)) (blkOk_by (own := [("_law_row", 10)]) (N := n__law_map) (sc := defScope s__law_map) (by decide +kernel)) (fun _ _ _ _ _ => (pg_name (i := 10) sc__law_map.nd rfl (Or.inl rfl))) (fun _ _ _ _ _ => pts_nil) (fun _ _ _ _ _ => by exact pe_eq (pe_join pe_str (pe_lc (own := [("_law_number", 9)]) (g := ((tgName 9) : STg K).t) (te := ((sCB cStr (sCons (sVar 9) sNil)) : SE K).t E0) (tt := (sYes : STe K).t E0) (by rfl) sc__law_map.nd (pi_tup (pv 10)) (blkOk_by (own := [("_law_number", 9)]) (N := n__law_map) (by exact rfl)) (fun _ _ _ _ _ => (pg_name (i := 9) sc__law_map.nd rfl (Or.inl rfl))) (fun _ _ _ _ _ => pts_nil) (fun _ _ _ _ _ => by exact pe_eq (pe_callTy (callr_or call_str_int SkE.call_str_str) (by rfl) T.fr_str (by decide +kernel) (pa_cons (pv 9) pa_nil)) (by (try dsimp only [cxOf, L2.Cx.blk]) <;> exact rfl)))) (by (try dsimp only [cxOf, L2.Cx.blk]) <;> exact rfl)))) pa_nil))))))))), spW_leq (N := n__law_map) (S__law_map T) (by kernel_rfl) (fun ds m R X h => by rw [hl ds m R X h]; decide) (fun ds m R X h => ?_) q⟩
  have h2 := h
  unfold fn__law_map at h2; dsimp only at h2; unfold sp__law_map at h2
  obtain ⟨a, rfl, _⟩ := g1_of h2
  exact rd__law_map T h

end
end G

set_option maxHeartbeats 4000000
namespace G
open PySem PySem.Spec PyProof.Rows L2

local macro_rules | `(tactic| walk_at "go") => `(tactic| ((conv => whnf); repeat ((first | refine isi_of (by first | assumption | exact trivial) ?_ | rw [Sto.put_same] | refine And.intro (by first | exact rfl | exact trivial | exact Nat.le_of_ble_eq_true rfl) ?_); (conv => whnf))))
local macro_rules | `(tactic| walk_at "wk") => `(tactic| ((repeat (walk_at "go"; first | refine optK_of (by first | assumption | exact Sto.put_same) ?_ | refine And.intro (by show (0 : Int) < _; decide) ?_ | refine And.intro (And.intro (by show (0 : Int) < _; decide) (by decide)) ?_ | refine And.intro (show CPow _ _ from ⟨by decide, by decide, by decide⟩) ?_)); try walk_at "go"))

section
variable {w : World} {K : PySem.W.Frag} {mg : Str → Option Value} {base : Heap}
/-! the law's deeds -/
def names6 : List Str := ["a", "z", "none", "abcdefgh", "set", "rwx"]
def wordsA : List Str := ["fork", "drop", "end", "set", "exec", "unshare", "join", "map"]
def wordsB : List Str := ["create", "remove", "bits", "own", "read", "write"]
def wordsC : List Str := ["create", "remove", "bits", "own", "read", "write", "map", "set"]
def wordsL : List Str := wordsA ++ wordsB
def EntOk (c : Nat) (e : Da) : Prop := (c = 105 ∧ ∃ i : Int, i.natAbs < 10 ^ 60 ∧ e = .int i) ∨ (c = 117 ∧ (e = .non ∨ ∃ i : Int, i.natAbs < 10 ^ 60 ∧ e = .int i)) ∨ (c = 110 ∧ ∃ z, z ∈ names6 ∧ e = .str z) ∨ (c = 98 ∧ ∃ z, bitsD (.str z) = true ∧ e = .str z)
def Ents : List Nat → List Da → Prop
  | [], [] => True
  | c :: cs, e :: es => EntOk c e ∧ Ents cs es
  | _, _ => False
theorem Ents.app : ∀ {cs : List Nat} {es : List Da} {cs2 : List Nat} {es2 : List Da}, Ents cs es → Ents cs2 es2 → Ents (cs ++ cs2) (es ++ es2)
  | [], [], _, _, _, h => h
  | c :: cs, e :: es, _, _, ⟨a, b⟩, h => ⟨a, Ents.app b h⟩
  | [], _ :: _, _, _, h, _ => h.elim
  | _ :: _, [], _, _, h, _ => h.elim
theorem Ents.len : ∀ {cs : List Nat} {es : List Da}, Ents cs es → es.length = cs.length
  | [], [], _ => rfl
  | c :: cs, e :: es, ⟨_, b⟩ => by simp [Ents.len b]
  | [], _ :: _, h => h.elim
  | _ :: _, [], h => h.elim
theorem Ents.one {c : Nat} {e : Da} (h : EntOk c e) : Ents [c] [e] := ⟨h, trivial⟩
def kd3 (v : Str) : List Nat := if inV (.str v) [.str "end", .str "join"] = true then [105] else []
def kd4 (v : Str) : List Nat := if eqS v "set" = true then [117, 117, 117] else []
def kd5 (v : Str) : List Nat := if inV (.str v) [.str "exec", .str "create", .str "remove", .str "bits", .str "own", .str "read", .str "write"] = true then [110] else []
def kd6 (v : Str) : List Nat := if inV (.str v) [.str "create", .str "bits"] = true then [98] else []
def kd7 (v : Str) : List Nat := if eqS v "own" = true then [117] else []
def ksOf (v : Str) : List Nat := [105] ++ kd3 v ++ kd4 v ++ kd5 v ++ kd6 v ++ kd7 v
theorem ks_map : ksOf "map" = [105] := by decide +kernel
theorem ks_form : (wordsL.all fun v => v == ("map" : Str) || (formOf v).any fun f => ksOf v == 105 :: f.cps.toList) = true := by decide +kernel
/-- a drawn deed, and the deed due -/
def LawD (v f : Str) (es es' : List Da) : Prop := (formOf v = some f ∧ v ∈ wordsL ∧ Ents (105 :: f.cps.toList) es ∧ es' = es) ∨
  (v = "map" ∧ f = "ir" ∧ ∃ (i j : Int) (tu rows : List Rg), i.natAbs < 10 ^ 60 ∧ j.natAbs < 10 ^ 60 ∧ MapOk tu rows ∧ es = [.int i, .int j, .lst (tu.map rg)] ∧ es' = [.int i, .int j, .lst (rows.map rg)])
def sp__law_deed : Fs := g1 fun a m R X => ∃ p l, (a = .adr p ∧ m p = some (.lst l) ∧ StOk l) ∧ ∀ v f es es' l', LawD v f es es' → StOk l' → R (.tup [.tup (.str v :: es), .tup (.str v :: es'), .str (deedText v es' f)]) (m.put p (.lst l'))
theorem mo__law_deed : FMono sp__law_deed := gm1 fun a m R R' X X' hr hx ⟨p, l, h1, h2⟩ => ⟨p, l, h1, fun v f es es' l' a b => hr _ _ (h2 v f es es' l' a b)⟩
abbrev fn__law_deed (K : PySem.W.Frag) : Fn := ⟨sp__law_deed, mo__law_deed⟩
@[irreducible] def S__law_deed_9 (T : Top w K mg) : SSt K :=
    (sSeq (sSet 9 (sLc (iTup (sVar 3)) (tgName 11) sYes (sIfe (sTest (sOp oIsN (sVar 11) sNon)) (sStr "none") (sIfe (sTest (sOp oEq (sVar 11) (sStr ""))) (sStr "-") (sCB cStr (sCons (sVar 11) sNil)))) [11]))
    (sRet (sTup (sCons (sVar 3) (sCons (sVar 3) (sCons (sM1 mJoin (sStr " ") (sVar 9)) sNil))))))
@[irreducible] def S__law_deed_8 (T : Top w K mg) : SSt K :=
    (sSeq (sIf (sTest (sOp oEq (sVar 2) (sStr "map")))
    (sSeq (sAsg (tgTup [4, 5, 6]) (sCall (fn__law_map K) (sCons (sVar 0) sNil)))
    (sSeq (sSet 7 (sCall (fn__law_whole K) (sCons (sVar 0) sNil)))
    (sSeq (sSet 8 (sM1 mJoin (sStr " ") (sLst (sCons (sVar 2) (sCons (sCB cStr (sCons (sOp oIx (sVar 3) (sInt 1)) sNil)) (sCons (sCB cStr (sCons (sVar 7) sNil)) sNil))))))
    (sRet (sTup (sCons (sOp oAdd (sVar 3) (sTup (sCons (sVar 7) (sCons (sVar 4) sNil)))) (sCons (sOp oAdd (sVar 3) (sTup (sCons (sVar 7) (sCons (sVar 5) sNil)))) (sCons (sOp oAdd (sOp oAdd (sVar 8) (sStr " ")) (sVar 6)) sNil))))))))
    sPass)
    (S__law_deed_9 T))
@[irreducible] def S__law_deed_7 (T : Top w K mg) : SSt K :=
    (sSeq (sIf (sTest (sOp oEq (sVar 2) (sStr "own")))
    (sSet 3 (sOp oAdd (sVar 3) (sTup (sCons (sCall (fn__law_one K) (sCons (sVar 0) (sCons (sLst (sCons sNon (sCons (sCall (fn__law_whole K) (sCons (sVar 0) sNil)) sNil))) sNil))) sNil))))
    sPass)
    (S__law_deed_8 T))
@[irreducible] def S__law_deed_6 (T : Top w K mg) : SSt K :=
    (sSeq (sIf (sTest (sOp oIn (sVar 2) (sTup (sCons (sStr "create") (sCons (sStr "bits") sNil)))))
    (sSet 3 (sOp oAdd (sVar 3) (sTup (sCons (sCall (fn__law_one K) (sCons (sVar 0) (sCons (sLst (sCons (sStr "") (sCons (sCall (fn__law_bits K) (sCons (sVar 0) sNil)) (sCons (sStr "rwxRWXS") sNil)))) sNil))) sNil))))
    sPass)
    (S__law_deed_7 T))
@[irreducible] def S__law_deed_5 (T : Top w K mg) : SSt K :=
    (sSeq (sIf (sTest (sOp oIn (sVar 2) (sTup (sCons (sStr "exec") (sCons (sStr "create") (sCons (sStr "remove") (sCons (sStr "bits") (sCons (sStr "own") (sCons (sStr "read") (sCons (sStr "write") sNil))))))))))
    (sSet 3 (sOp oAdd (sVar 3) (sTup (sCons (sCall (fn__law_one K) (sCons (sVar 0) (sCons (sLst (sCons (sStr "a") (sCons (sStr "z") (sCons (sStr "none") (sCons (sStr "abcdefgh") (sCons (sStr "set") (sCons (sStr "rwx") sNil))))))) sNil))) sNil))))
    sPass)
    (S__law_deed_6 T))
@[irreducible] def S__law_deed_4 (T : Top w K mg) : SSt K :=
    (sSeq (sIf (sTest (sOp oEq (sVar 2) (sStr "set")))
    (sSet 3 (sOp oAdd (sVar 3) (sCB cTuple (sCons (sLc (iRange1 (sCons (sInt 3) sNil)) (tgName 10) sYes (sCall (fn__law_one K) (sCons (sVar 0) (sCons (sLst (sCons sNon (sCons (sCall (fn__law_whole K) (sCons (sVar 0) sNil)) sNil))) sNil))) [10]) sNil))))
    sPass)
    (S__law_deed_5 T))
@[irreducible] def S__law_deed_3 (T : Top w K mg) : SSt K :=
    (sSeq (sIf (sTest (sOp oIn (sVar 2) (sTup (sCons (sStr "end") (sCons (sStr "join") sNil)))))
    (sSet 3 (sOp oAdd (sVar 3) (sTup (sCons (sCall (fn__law_whole K) (sCons (sVar 0) sNil)) sNil))))
    sPass)
    (S__law_deed_4 T))
def S__law_deed (T : Top w K mg) : SSt K :=
    (sSeq (sSet 1 (sLst (sCons (sStr "fork") (sCons (sStr "drop") (sCons (sStr "end") (sCons (sStr "set") (sCons (sStr "exec") (sCons (sStr "unshare") (sCons (sStr "join") (sCons (sStr "map") (sCons (sStr "create") (sCons (sStr "remove") (sCons (sStr "bits") (sCons (sStr "own") (sCons (sStr "read") sNil)))))))))))))))
    (sSeq (sSet 2 (sCall (fn__law_one K) (sCons (sVar 0) (sCons (sOp oAdd (sVar 1) (sLst (sCons (sStr "write") (sCons (sStr "map") (sCons (sStr "set") sNil))))) sNil))))
    (sSeq (sSet 3 (sTup (sCons (sVar 2) (sCons (sCall (fn__law_whole K) (sCons (sVar 0) sNil)) sNil))))
    (S__law_deed_3 T))))
section
variable {p : Addr} {v : Str} {es : List Da} {m : Sto} {l : List Da} {R : Rk} {X : Xk} {x1 : Option Da} {cs : List Nat}
abbrev EnvD (p : Addr) (x1 : Option Da) (v : Str) (es : List Da) : Sd := [some (.adr p), x1, some (.str v), some (.tup (.str v :: es)), none, none, none, none, none, none, none, none]
abbrev Fin (p : Addr) (m : Sto) (v : Str) (R : Rk) : Prop := ∀ f es es' l', LawD v f es es' → StOk l' → R (.tup [.tup (.str v :: es), .tup (.str v :: es'), .str (deedText v es' f)]) (m.put p (.lst l'))
/-- the text of an entry -/
def wordD : Da → Str
  | .non => "none"
  | .int i => num i
  | .str z => if z = "" then "-" else z
  | _ => ""
theorem num_ok {i : Int} (h : i.natAbs < 10 ^ 60) : okI i ∧ (num i).length ≤ 61 := by
  refine ⟨okI_of (k := 200) (Nat.lt_trans h (by decide)) (by decide) (by decide), num_short (by decide) h⟩
theorem name_len {z : Str} (h : z ∈ names6) : z ≠ "" ∧ z.length ≤ 8 := by
  have : ∀ z ∈ names6, z ≠ "" ∧ z.length ≤ 8 := by decide +kernel
  exact this z h
theorem word_len {z : Str} (h : z ∈ wordsL) : z ≠ "" ∧ z.length ≤ 8 := by
  have : ∀ z ∈ wordsL, z ≠ "" ∧ z.length ≤ 8 := by decide +kernel
  exact this z h
theorem bits_len {z : Str} (h : bitsD (.str z) = true) : z.length ≤ 7 := by
  have h : eqS z (marksOf z) = true := h
  rw [eqS_def, decide_eq_true_iff] at h
  rw [h]
  exact Nat.le_trans (List.length_filter_le _ _) (by decide +kernel)
/-- what is written of an entry -/
theorem ent_word {c : Nat} {e : Da} (h : EntOk c e) : wordD e = entryText e c ∧ (wordD e).length ≤ 61 ∧ ((∃ i, e = .int i ∧ okI i) ∨ e = .non ∨ ∃ z, e = .str z ∧ z.length ≤ 8) := by
  rcases h with ⟨rfl, i, hi, rfl⟩ | ⟨rfl, rfl | ⟨i, hi, rfl⟩⟩ | ⟨rfl, z, hz, rfl⟩ | ⟨rfl, z, hz, rfl⟩
  · exact ⟨rfl, (num_ok hi).2, .inl ⟨i, rfl, (num_ok hi).1⟩⟩
  · exact ⟨rfl, by decide +kernel, .inr (.inl rfl)⟩
  · exact ⟨rfl, (num_ok hi).2, .inl ⟨i, rfl, (num_ok hi).1⟩⟩
  · obtain ⟨a, b⟩ := name_len hz
    refine ⟨rfl, ?_, .inr (.inr ⟨z, rfl, b⟩)⟩
    show (if z = "" then ("-" : Str) else z).length ≤ _
    rw [if_neg a]; omega
  · have b := bits_len hz
    refine ⟨rfl, ?_, .inr (.inr ⟨z, rfl, by omega⟩)⟩
    show (if z = "" then ("-" : Str) else z).length ≤ _
    split
    · decide +kernel
    · omega
theorem Ents.words : ∀ {cs : List Nat} {es : List Da}, Ents cs es → es.map wordD = (es.zip cs).map (fun q => entryText q.1 q.2) ∧ ∀ e ∈ es, (wordD e).length ≤ 61 ∧ ((∃ i, e = .int i ∧ okI i) ∨ e = .non ∨ ∃ z, e = .str z ∧ z.length ≤ 8)
  | [], [], _ => ⟨rfl, nofun⟩
  | c :: cs, e :: es, ⟨a, b⟩ => by
    obtain ⟨h1, h2⟩ := Ents.words b
    obtain ⟨g1, g2, g3⟩ := ent_word a
    refine ⟨by simp only [List.map_cons, List.zip_cons_cons, h1, g1], fun e' he => ?_⟩
    rcases List.mem_cons.mp he with rfl | he
    · exact ⟨g2, g3⟩
    · exact h2 e' he
  | [], _ :: _, h => h.elim
  | _ :: _, [], h => h.elim
theorem ld9 (T : Top w K mg) (hv : v ∈ wordsL) (hm : v ≠ "map") (hs : StOk l) (he : Ents (ksOf v) es) (h : Fin p m v R) : (S__law_deed_9 T).w (EnvD p x1 v es) (m.put p (.lst l)) (fun _ m' => R .non m') R X noN noN := by
  unfold S__law_deed_9
  have hf := List.all_eq_true.mp ks_form v hv
  rw [show (v == ("map" : Str)) = false from beq_eq_false_iff_ne.mpr hm, Bool.false_or, Option.any_eq_true] at hf
  obtain ⟨f, hf, hk⟩ := hf
  have hk : ksOf v = 105 :: f.cps.toList := by simpa using hk
  rw [hk] at he
  have hl := he.len
  have hf3 : f.cps.toList.length ≤ 3 := form_len hf
  rw [List.length_cons] at hl
  obtain ⟨w1, w2⟩ := he.words
  obtain ⟨v1, v2⟩ := word_len hv
  have hwl : ∀ e ∈ (Da.str v :: es), (∃ i, e = .int i ∧ okI i) ∨ e = .non ∨ ∃ z, e = .str z ∧ z.length ≤ 8 := fun e he => by
    rcases List.mem_cons.mp he with rfl | he
    · exact .inr (.inr ⟨v, rfl, v2⟩)
    · exact (w2 e he).2
  walk_at "wk"
  refine ⟨by rw [List.length_cons]; omega, ?_⟩
  refine lc_map0 oYes_none (mk := fun d => .str (wordD d)) _ (fun d hd k0 k1 hk => ?_) ?_
  · rcases hwl d hd with ⟨i, rfl, hi⟩ | rfl | ⟨z, rfl, hz⟩
    · walk_at "wk"
      refine ⟨.int i, .str "", rfl, rfl, rfl, by decide +kernel, ?_⟩
      walk_at "wk"
      exact ⟨hi, hk⟩
    · walk_at "wk"
      exact hk
    · walk_at "wk"
      by_cases c : z = ""
      · subst c
        rw [eqS_self]
        walk_at "wk"
        exact hk
      · rw [eqS_ne c]
        walk_at "wk"
        have hk : k1 (.str (if z = "" then "-" else z)) _ := hk
        rw [if_neg c] at hk
        exact hk
  · walk_at "wk"
    refine optK_of (strsO_map _ _) ⟨?_, ?_⟩
    · have h1 := sum_le (f := fun e : Da => (wordD e).length) (k := 61) (l := Da.str v :: es) (fun e he => by
        rcases List.mem_cons.mp he with rfl | he
        · show (if v = "" then ("-" : Str) else v).length ≤ _
          rw [if_neg v1]; omega
        · exact (w2 e he).1)
      have e : (" " : Str).length = 1 := by decide +kernel
      rw [e, List.map_map, List.length_map]
      have e2 : ((Da.str v :: es).map ((fun x : Str => x.length) ∘ wordD)).sum = ((Da.str v :: es).map fun e => (wordD e).length).sum := rfl
      rw [e2]
      rw [List.length_cons] at h1 ⊢
      omega
    · walk_at "wk"
      have e : Txt.join " " ((Da.str v :: es).map wordD) = deedText v es f := by
        unfold deedText deedWords
        rw [List.map_cons, w1]
        show Txt.join " " ((if v = "" then ("-" : Str) else v) :: _) = _
        rw [if_neg v1]
      rw [e]
      exact h f es es l (.inl ⟨hf, hv, he, rfl⟩) hs
theorem map_text {i j : Int} {tu rows : List Rg} (hm : MapOk tu rows) : Txt.join " " [("map" : Str), num i, num j] ++ " " ++ rangesText rows = deedText "map" [.int i, .int j, .lst (rows.map rg)] "ir" := by
  have e1 : ("ir" : Str).cps.toList = [105, 114] := by decide +kernel
  have e2 : entryText (.lst (rows.map rg)) 114 = rangesText rows := by
    show (match rgsOf (rows.map rg) with
      | some rs => if (114 : Nat) = 114 then rangesText (inOrder rs) else ""
      | none => "") = _
    rw [rgsOf_map]
    show (if (114 : Nat) = 114 then rangesText (inOrder rows) else "") = _
    rw [if_pos rfl, hm.2.2.2.1]
  have e3 : deedWords "map" [.int i, .int j, .lst (rows.map rg)] "ir" = [("map" : Str), num i, num j, rangesText rows] := by
    unfold deedWords
    rw [e1]
    show _ :: [num i, num j, entryText (.lst (rows.map rg)) 114] = _
    rw [e2]
  unfold deedText
  rw [e3]
  apply TL.ext_tl
  rw [TL.tl_append, TL.tl_append, TL.join_eq, TL.join_eq, TL.tl_join, TL.tl_join]
  simp [TL.joinL, List.append_assoc]
theorem ld8 (T : Top w K mg) (hv : v ∈ wordsL) (hs : StOk l) (he : Ents (ksOf v) es) (h : Fin p m v R) : (S__law_deed_8 T).w (EnvD p x1 v es) (m.put p (.lst l)) (fun _ m' => R .non m') R X noN noN := by
  unfold S__law_deed_8
  walk_at "wk"
  by_cases c : v = "map"
  · subst c
    rw [eqS_self]
    rw [ks_map] at he
    have e1 : ∃ i : Int, i.natAbs < 10 ^ 60 ∧ es = [.int i] := by
      match es, he with
      | [e], ⟨h1, _⟩ =>
        rcases h1 with ⟨_, i, hi, rfl⟩ | ⟨z, _⟩ | ⟨z, _⟩ | ⟨z, _⟩
        · exact ⟨i, hi, rfl⟩
        · cases z
        · cases z
        · cases z
    obtain ⟨i, hi, rfl⟩ := e1
    obtain ⟨oi, li⟩ := num_ok hi
    walk_at "wk"
    refine ⟨p, l, ⟨rfl, Sto.put_same, hs⟩, fun tu rows l2 hm hs2 => ?_⟩
    rw [put_put]
    walk_at "wk"
    refine ⟨p, l2, ⟨rfl, Sto.put_same, hs2⟩, fun j l3 hj hs3 => ?_⟩
    obtain ⟨oj, lj⟩ := num_ok hj
    rw [put_put]
    have hmo := (mapR_ok hm.2.2.1).2
    have hml := hm.2.2.2.2.2.2.1
    have hrt := rangesText_len hmo hml
    have h1 : (" " : Str).length = 1 := by decide +kernel
    have h3 : ("map" : Str).length = 3 := by decide +kernel
    have hj3 := join_len " " [("map" : Str), num i, num j]
    rw [h1] at hj3
    simp at hj3
    walk_at "wk"
    refine ⟨oi, ?_⟩
    walk_at "wk"
    refine ⟨oj, ?_⟩
    walk_at "wk"
    refine ⟨by rw [h1]; simp; omega, ?_⟩
    walk_at "wk"
    refine ⟨Nat.le_trans (m := 1000) (by show (Txt.join " " [("map" : Str), num i, num j]).length + (" " : Str).length ≤ 1000; rw [h1]; omega) (by decide), ?_⟩
    walk_at "wk"
    refine ⟨Nat.le_trans (m := 1000) (by show (Txt.join " " [("map" : Str), num i, num j] ++ (" " : Str)).length + (rangesText rows).length ≤ 1000; rw [Str.length_append, h1]; omega) (by decide), ?_⟩
    walk_at "wk"
    show R (.tup [.tup [.str "map", .int i, .int j, .lst (tu.map rg)], .tup [.str "map", .int i, .int j, .lst (rows.map rg)], .str (Txt.join " " [("map" : Str), num i, num j] ++ " " ++ rangesText rows)]) _
    rw [map_text hm]
    exact h "ir" _ _ l3 (.inr ⟨rfl, rfl, i, j, tu, rows, hi, hj, hm, rfl, rfl⟩) hs3
  · rw [eqS_ne c]
    walk_at "wk"
    exact ld9 T hv c hs he h
theorem ld7 (T : Top w K mg) (hv : v ∈ wordsL) (hs : StOk l) (he : Ents ([105] ++ kd3 v ++ kd4 v ++ kd5 v ++ kd6 v) es) (hl : es.length ≤ 7) (h : Fin p m v R) : (S__law_deed_7 T).w (EnvD p x1 v es) (m.put p (.lst l)) (fun _ m' => R .non m') R X noN noN := by
  unfold S__law_deed_7
  walk_at "wk"
  cases hb : eqS v "own" with
  | false =>
    walk_at "wk"
    exact ld8 T hv hs (by unfold ksOf kd7; rw [hb]; simpa using he) h
  | true =>
    walk_at "wk"
    refine ⟨p, l, ⟨rfl, Sto.put_same, hs⟩, fun i l2 hi hs2 => ?_⟩
    rw [put_put]
    walk_at "wk"
    refine ⟨p, l2, _, ⟨rfl, rfl, by simp, Nat.le_of_ble_eq_true rfl, Sto.put_same, hs2⟩, fun d l3 hd hs3 => ?_⟩
    rw [put_put]
    walk_at "wk"
    refine ⟨by simp only [List.length_cons, List.length_nil]; omega, ?_⟩
    walk_at "wk"
    refine ld8 T hv hs3 (by
      have : ksOf v = [105] ++ kd3 v ++ kd4 v ++ kd5 v ++ kd6 v ++ [117] := by unfold ksOf kd7; rw [hb]; rfl
      rw [this]
      refine he.app (.one (.inr (.inl ⟨rfl, ?_⟩)))
      simp only [List.mem_cons, List.not_mem_nil, or_false] at hd
      rcases hd with rfl | rfl
      · exact .inl rfl
      · exact .inr ⟨i, hi, rfl⟩) h
theorem ld6 (T : Top w K mg) (hv : v ∈ wordsL) (hs : StOk l) (he : Ents ([105] ++ kd3 v ++ kd4 v ++ kd5 v) es) (hl : es.length ≤ 6) (h : Fin p m v R) : (S__law_deed_6 T).w (EnvD p x1 v es) (m.put p (.lst l)) (fun _ m' => R .non m') R X noN noN := by
  unfold S__law_deed_6
  walk_at "wk"
  cases hb : inV (.str v) [.str "create", .str "bits"] with
  | false =>
    walk_at "wk"
    exact ld7 T hv hs (by unfold kd6; rw [hb]; simpa using he) (by omega) h
  | true =>
    walk_at "wk"
    refine ⟨p, l, ⟨rfl, Sto.put_same, hs⟩, fun z l2 hz hs2 => ?_⟩
    rw [put_put]
    walk_at "wk"
    refine ⟨p, l2, _, ⟨rfl, rfl, by simp, Nat.le_of_ble_eq_true rfl, Sto.put_same, hs2⟩, fun d l3 hd hs3 => ?_⟩
    rw [put_put]
    walk_at "wk"
    refine ⟨by simp only [List.length_cons, List.length_nil]; omega, ?_⟩
    walk_at "wk"
    refine ld7 T hv hs3 (by
      unfold kd6
      rw [hb]
      refine he.app (.one (.inr (.inr (.inr ⟨rfl, ?_⟩))))
      simp only [List.mem_cons, List.not_mem_nil, or_false] at hd
      rcases hd with rfl | rfl | rfl
      · exact ⟨_, by decide +kernel, rfl⟩
      · exact ⟨_, hz, rfl⟩
      · exact ⟨_, by decide +kernel, rfl⟩) (by show (es ++ [d]).length ≤ _; rw [List.length_append, List.length_singleton]; omega) h
theorem ld5 (T : Top w K mg) (hv : v ∈ wordsL) (hs : StOk l) (he : Ents ([105] ++ kd3 v ++ kd4 v) es) (hl : es.length ≤ 5) (h : Fin p m v R) : (S__law_deed_5 T).w (EnvD p x1 v es) (m.put p (.lst l)) (fun _ m' => R .non m') R X noN noN := by
  unfold S__law_deed_5
  walk_at "wk"
  cases hb : inV (.str v) [.str "exec", .str "create", .str "remove", .str "bits", .str "own", .str "read", .str "write"] with
  | false =>
    walk_at "wk"
    exact ld6 T hv hs (by unfold kd5; rw [hb]; simpa using he) (by omega) h
  | true =>
    walk_at "wk"
    refine ⟨p, l, _, ⟨rfl, rfl, by simp, Nat.le_of_ble_eq_true rfl, Sto.put_same, hs⟩, fun d l3 hd hs3 => ?_⟩
    rw [put_put]
    walk_at "wk"
    refine ⟨by simp only [List.length_cons, List.length_nil]; omega, ?_⟩
    walk_at "wk"
    refine ld6 T hv hs3 (by
      unfold kd5
      rw [hb]
      refine he.app (.one (.inr (.inr (.inl ⟨rfl, ?_⟩))))
      have hd : d ∈ names6.map Da.str := hd
      obtain ⟨z, hz, rfl⟩ := List.mem_map.mp hd
      exact ⟨z, hz, rfl⟩) (by show (es ++ [d]).length ≤ _; rw [List.length_append, List.length_singleton]; omega) h
theorem ld4 (T : Top w K mg) (hv : v ∈ wordsL) (hs : StOk l) (he : Ents ([105] ++ kd3 v) es) (hl : es.length ≤ 2) (h : Fin p m v R) : (S__law_deed_4 T).w (EnvD p x1 v es) (m.put p (.lst l)) (fun _ m' => R .non m') R X noN noN := by
  unfold S__law_deed_4
  walk_at "wk"
  cases hb : eqS v "set" with
  | false =>
    walk_at "wk"
    exact ld5 T hv hs (by unfold kd4; rw [hb]; simpa using he) (by omega) h
  | true =>
    walk_at "wk"
    refine ⟨by decide, ?_⟩
    walk_at "wk"
    rw [rngD_def]
    refine ⟨by rw [List.length_map]; decide, ?_⟩
    refine lc_inv (enc := fun k : Nat => Da.int (0 + (k : Int))) (fun pre acc m' => ∃ l', m' = m.put p (.lst l') ∧ StOk l' ∧ Ents (pre.map fun _ => 117) acc) lcT_mono _ ?_ ?_ _ ⟨l, rfl, hs, trivial⟩
    · rintro pre k post acc m' hsp ⟨l1, rfl, hs1, ha⟩
      walk_at "wk"
      refine ⟨p, l1, ⟨rfl, Sto.put_same, hs1⟩, fun i l2 hi hs2 => ?_⟩
      rw [put_put]
      walk_at "wk"
      refine ⟨p, l2, _, ⟨rfl, rfl, by simp, Nat.le_of_ble_eq_true rfl, Sto.put_same, hs2⟩, fun d l3 hd hs3 => ?_⟩
      rw [put_put]
      walk_at "wk"
      refine ⟨l3, rfl, hs3, ?_⟩
      rw [List.map_append]
      refine ha.app (.one (.inr (.inl ⟨rfl, ?_⟩)))
      simp only [List.mem_cons, List.not_mem_nil, or_false] at hd
      rcases hd with rfl | rfl
      · exact .inl rfl
      · exact .inr ⟨i, hi, rfl⟩
    · rintro acc m' ⟨l1, rfl, hs1, ha⟩
      have hal := ha.len
      rw [List.length_map, List.length_range] at hal
      walk_at "wk"
      refine ⟨by simp only [List.length_cons, List.length_nil]; rw [hal]; omega, ?_⟩
      walk_at "wk"
      refine ld5 T hv hs1 (by
        unfold kd4
        rw [hb]
        exact he.app ha) (by show (es ++ acc).length ≤ _; rw [List.length_append, hal]; omega) h
theorem ld3 (T : Top w K mg) (hv : v ∈ wordsL) (hs : StOk l) (he : Ents [105] es) (h : Fin p m v R) : (S__law_deed_3 T).w (EnvD p x1 v es) (m.put p (.lst l)) (fun _ m' => R .non m') R X noN noN := by
  unfold S__law_deed_3
  have hl := he.len
  simp only [List.length_cons, List.length_nil] at hl
  walk_at "wk"
  cases hb : inV (.str v) [.str "end", .str "join"] with
  | false =>
    walk_at "wk"
    exact ld4 T hv hs (by unfold kd3; rw [hb]; simpa using he) (by omega) h
  | true =>
    walk_at "wk"
    refine ⟨p, l, ⟨rfl, Sto.put_same, hs⟩, fun i l2 hi hs2 => ?_⟩
    rw [put_put]
    walk_at "wk"
    refine ⟨by simp only [List.length_cons, List.length_nil]; omega, ?_⟩
    walk_at "wk"
    refine ld4 T hv hs2 (by
      unfold kd3
      rw [hb]
      exact he.app (.one (.inl ⟨rfl, i, hi, rfl⟩))) (by show (es ++ [Da.int i]).length ≤ _; rw [List.length_append, List.length_singleton]; omega) h
end
theorem rd__law_deed (T : Top w K mg) {a : Da} {m : Sto} {R : Rk} {X : Xk} (h : (fn__law_deed K).F [a] m R X) : (S__law_deed T).w (dn n__law_deed [a]) m (fun _ m' => R .non m') R X noN noN := by
  obtain ⟨p, l, ⟨rfl, hm, hs⟩, h⟩ := h
  walk_at "wk"
  refine ⟨p, l, _, ⟨rfl, rfl, by simp, Nat.le_of_ble_eq_true rfl, hm, hs⟩, fun d l2 hd hs2 => ?_⟩
  have hd2 : d ∈ wordsL.map Da.str := by
    have e : ∀ x ∈ wordsA ++ wordsC, x ∈ wordsL := by decide +kernel
    have hd : d ∈ (wordsA ++ wordsC).map Da.str := hd
    obtain ⟨z, hz, rfl⟩ := List.mem_map.mp hd
    exact List.mem_map.mpr ⟨z, e z hz, rfl⟩
  obtain ⟨v, hv, rfl⟩ := List.mem_map.mp hd2
  walk_at "wk"
  refine ⟨p, l2, ⟨rfl, Sto.put_same, hs2⟩, fun i l3 hi hs3 => ?_⟩
  rw [put_put]
  walk_at "wk"
  exact ld3 T hv hs3 (.one (.inl ⟨rfl, i, hi, rfl⟩)) fun f es es' l' => h v f es es' l'
theorem ok__law_deed (T : Top w K mg) : FnAt R.prog w K mg base 4 (He.ga K "_law_deed") p__law_deed (spW K (fn__law_deed K).F) := by
  have hl : ∀ ds m R X, (fn__law_deed K).F ds m R X → ds.length = 1 := fun ds m R X h => by unfold fn__law_deed at h; dsimp only at h; unfold sp__law_deed at h; exact gl1 _ _ _ _ h
  refine fnAt_of (k := 3) T.d__law_deed sc__law_deed (fun vs H Q E q => spW_len (F := (fn__law_deed K).F) hl q) (fun _ _ _ _ _ _ us hl => match us, hl with | [_], _ => rfl) fun cdv A outer s H vs Q E hr q => ⟨_, (pss_cons (ps_set (i := 1) sc__law_deed.nd rfl (Or.inl rfl) (pe_lst (pa_cons pe_str (pa_cons pe_str (pa_cons pe_str (pa_cons pe_str (pa_cons pe_str (pa_cons pe_str (pa_cons pe_str (pa_cons pe_str (pa_cons pe_str (pa_cons pe_str (pa_cons pe_str (pa_cons pe_str (pa_cons pe_str pa_nil)))))))))))))))
    (pss_cons (ps_set (i := 2) sc__law_deed.nd rfl (Or.inl rfl) (pe_call (ok__law_one (base := base) T).ok (hr.mono (by decide)) (by rfl) T.gl__law_one (ok__law_one (base := base) T).kp (ok__law_one (base := base) T).bd .nil (passes_call (takes_of rfl rfl rfl rfl) (fun _ _ _ _ h => h)) (pa_cons (pv 0) (pa_cons (pe_op op_addU (pv 1) (pe_lst (pa_cons pe_str (pa_cons pe_str (pa_cons pe_str pa_nil))))) pa_nil))))
    (pss_cons (ps_set (i := 3) sc__law_deed.nd rfl (Or.inl rfl) (pe_tup (pa_cons (pv 2) (pa_cons (pe_call (ok__law_whole (base := base) T).ok (hr.mono (by decide)) (by rfl) T.gl__law_whole (ok__law_whole (base := base) T).kp (ok__law_whole (base := base) T).bd .nil (passes_call (takes_of rfl rfl rfl rfl) (fun _ _ _ _ h => h)) (pa_cons (pv 0) pa_nil)) pa_nil))))
    (pss_cons (ps_if (pt_cmpR op_inU (pv 2) (pe_tup (pa_cons pe_str (pa_cons pe_str pa_nil))) (by rfl))
    (pss_one (ps_set (i := 3) sc__law_deed.nd rfl (Or.inl rfl) (pe_op op_addU (pv 3) (pe_tup (pa_cons (pe_call (ok__law_whole (base := base) T).ok (hr.mono (by decide)) (by rfl) T.gl__law_whole (ok__law_whole (base := base) T).kp (ok__law_whole (base := base) T).bd .nil (passes_call (takes_of rfl rfl rfl rfl) (fun _ _ _ _ h => h)) (pa_cons (pv 0) pa_nil)) pa_nil)))))
    pss_nil)
    (pss_cons (ps_if (pt_cmpR (op_eqU hr.units) (pv 2) pe_str (nomark _))
    (pss_one (ps_set (i := 3) sc__law_deed.nd rfl (Or.inl rfl) (pe_op op_addU (pv 3) (pe_callTy call_tuple_of (by rfl) T.fr_tuple (by decide +kernel) (pa_cons (pe_lc (own := [("_law_k", 10)]) (g := ((tgName 10) : STg K).t) (te := ((sCall (fn__law_one K) (sCons (sVar 0) (sCons (sLst (sCons sNon (sCons (sCall (fn__law_whole K) (sCons (sVar 0) sNil)) sNil))) sNil))) : SE K).t E0) (tt := (sYes : STe K).t E0) (by rfl) sc__law_deed.nd (pi_range1 (by rfl) T.fr_range (pa_cons pe_int pa_nil)) (blkOk_by (own := [("_law_k", 10)]) (N := n__law_deed) (sc := defScope s__law_deed) (by decide +kernel)) (fun _ _ _ _ _ => (pg_name (i := 10) sc__law_deed.nd rfl (Or.inl rfl))) (fun _ _ _ _ _ => pts_nil) (fun _ _ _ _ _ => by exact pe_eq (pe_call (ok__law_one (base := base) T).ok (hr.mono (by decide)) (by rfl) T.gl__law_one (ok__law_one (base := base) T).kp (ok__law_one (base := base) T).bd .nil passL (pa_cons (pv 0) (pa_cons (pe_lst (pa_cons pe_non (pa_cons (pe_call (ok__law_whole (base := base) T).ok (hr.mono (by decide)) (by rfl) T.gl__law_whole (ok__law_whole (base := base) T).kp (ok__law_whole (base := base) T).bd .nil passL (pa_cons (pv 0) pa_nil)) pa_nil))) pa_nil))) (by (try dsimp only [cxOf, L2.Cx.blk]) <;> exact rfl))) pa_nil)))))
    pss_nil)
    (pss_cons (ps_if (pt_cmpR op_inU (pv 2) (pe_tup (pa_cons pe_str (pa_cons pe_str (pa_cons pe_str (pa_cons pe_str (pa_cons pe_str (pa_cons pe_str (pa_cons pe_str pa_nil)))))))) (by rfl))
    (pss_one (ps_set (i := 3) sc__law_deed.nd rfl (Or.inl rfl) (pe_op op_addU (pv 3) (pe_tup (pa_cons (pe_call (ok__law_one (base := base) T).ok (hr.mono (by decide)) (by rfl) T.gl__law_one (ok__law_one (base := base) T).kp (ok__law_one (base := base) T).bd .nil (passes_call (takes_of rfl rfl rfl rfl) (fun _ _ _ _ h => h)) (pa_cons (pv 0) (pa_cons (pe_lst (pa_cons pe_str (pa_cons pe_str (pa_cons pe_str (pa_cons pe_str (pa_cons pe_str (pa_cons pe_str pa_nil))))))) pa_nil))) pa_nil)))))
    pss_nil)
    (pss_cons (ps_if (pt_cmpR op_inU (pv 2) (pe_tup (pa_cons pe_str (pa_cons pe_str pa_nil))) (by rfl))
    (pss_one (ps_set (i := 3) sc__law_deed.nd rfl (Or.inl rfl) (pe_op op_addU (pv 3) (pe_tup (pa_cons (pe_call (ok__law_one (base := base) T).ok (hr.mono (by decide)) (by rfl) T.gl__law_one (ok__law_one (base := base) T).kp (ok__law_one (base := base) T).bd .nil (passes_call (takes_of rfl rfl rfl rfl) (fun _ _ _ _ h => h)) (pa_cons (pv 0) (pa_cons (pe_lst (pa_cons pe_str (pa_cons (pe_call (ok__law_bits (base := base) T).ok (hr.mono (by decide)) (by rfl) T.gl__law_bits (ok__law_bits (base := base) T).kp (ok__law_bits (base := base) T).bd .nil (passes_call (takes_of rfl rfl rfl rfl) (fun _ _ _ _ h => h)) (pa_cons (pv 0) pa_nil)) (pa_cons pe_str pa_nil)))) pa_nil))) pa_nil)))))
    pss_nil)
    (pss_cons (ps_if (pt_cmpR (op_eqU hr.units) (pv 2) pe_str (nomark _))
    (pss_one (ps_set (i := 3) sc__law_deed.nd rfl (Or.inl rfl) (pe_op op_addU (pv 3) (pe_tup (pa_cons (pe_call (ok__law_one (base := base) T).ok (hr.mono (by decide)) (by rfl) T.gl__law_one (ok__law_one (base := base) T).kp (ok__law_one (base := base) T).bd .nil (passes_call (takes_of rfl rfl rfl rfl) (fun _ _ _ _ h => h)) (pa_cons (pv 0) (pa_cons (pe_lst (pa_cons pe_non (pa_cons (pe_call (ok__law_whole (base := base) T).ok (hr.mono (by decide)) (by rfl) T.gl__law_whole (ok__law_whole (base := base) T).kp (ok__law_whole (base := base) T).bd .nil (passes_call (takes_of rfl rfl rfl rfl) (fun _ _ _ _ h => h)) (pa_cons (pv 0) pa_nil)) pa_nil))) pa_nil))) pa_nil)))))
    pss_nil)
    (pss_cons (ps_if (pt_cmpR (op_eqU hr.units) (pv 2) pe_str (nomark _))
    (pss_cons (ps_asg (pe_call (ok__law_map (base := base) T).ok (hr.mono (by decide)) (by rfl) T.gl__law_map (ok__law_map (base := base) T).kp (ok__law_map (base := base) T).bd .nil (passes_call (takes_of rfl rfl rfl rfl) (fun _ _ _ _ h => h)) (pa_cons (pv 0) pa_nil)) (pg_tup (n := 3) (by rfl) (pgs_cons (pg_name (i := 4) sc__law_deed.nd rfl (Or.inl rfl)) (pgs_cons (pg_name (i := 5) sc__law_deed.nd rfl (Or.inl rfl)) (pgs_cons (pg_name (i := 6) sc__law_deed.nd rfl (Or.inl rfl)) pgs_nil)))))
    (pss_cons (ps_set (i := 7) sc__law_deed.nd rfl (Or.inl rfl) (pe_call (ok__law_whole (base := base) T).ok (hr.mono (by decide)) (by rfl) T.gl__law_whole (ok__law_whole (base := base) T).kp (ok__law_whole (base := base) T).bd .nil (passes_call (takes_of rfl rfl rfl rfl) (fun _ _ _ _ h => h)) (pa_cons (pv 0) pa_nil)))
    (pss_cons (ps_set (i := 8) sc__law_deed.nd rfl (Or.inl rfl) (pe_join pe_str (pe_lst (pa_cons (pv 2) (pa_cons (pe_callTy (callr_or call_str_int SkE.call_str_str) (by rfl) T.fr_str (by decide +kernel) (pa_cons (pe_ix ix_seq (pv 3) pe_int (fun _ _ => rfl)) pa_nil)) (pa_cons (pe_callTy (callr_or call_str_int SkE.call_str_str) (by rfl) T.fr_str (by decide +kernel) (pa_cons (pv 7) pa_nil)) pa_nil))))))
    (pss_one (ps_ret (pe_tup (pa_cons (pe_op op_addU (pv 3) (pe_tup (pa_cons (pv 7) (pa_cons (pv 4) pa_nil)))) (pa_cons (pe_op op_addU (pv 3) (pe_tup (pa_cons (pv 7) (pa_cons (pv 5) pa_nil)))) (pa_cons (pe_op op_addU (pe_op op_addU (pv 8) pe_str) (pv 6)) pa_nil)))))))))
    pss_nil)
    (pss_cons (ps_setLc (i := 9) (own := [("_law_entry", 11)]) (g := ((tgName 11) : STg K).t) (te := ((sIfe (sTest (sOp oIsN (sVar 11) sNon)) (sStr "none") (sIfe (sTest (sOp oEq (sVar 11) (sStr ""))) (sStr "-") (sCB cStr (sCons (sVar 11) sNil)))) : SE K).t E0) (tt := (sYes : STe K).t E0) (by rfl) sc__law_deed.nd rfl rfl (sw_true rfl rfl rfl (by decide +kernel)) (pi_tup (pv 3)) (blkOk_by (own := [("_law_entry", 11)]) (N := n__law_deed) (sc := defScope s__law_deed) (by decide +kernel)) (fun _ _ _ _ _ => (pg_name (i := 11) sc__law_deed.nd rfl (Or.inl rfl))) (fun _ _ _ _ _ => pts_nil) (fun _ _ _ _ _ => by exact pe_eq (pe_ifExp (pt_cmpR op_isN (pv 11) pe_non (nomark _)) pe_str (pe_ifExp (pt_cmpR (op_eqU hr.units) (pv 11) pe_str (nomark _)) pe_str (pe_callTy (callr_or call_str_int SkE.call_str_str) (by rfl) T.fr_str (by decide +kernel) (pa_cons (pv 11) pa_nil)))) (by (try dsimp only [cxOf, L2.Cx.blk]) <;> exact rfl)))
    (pss_one (ps_ret (pe_tup (pa_cons (pv 3) (pa_cons (pv 3) (pa_cons (pe_join pe_str (pv 9)) pa_nil)))))))))))))))), spW_eq (N := n__law_deed) (S__law_deed T) (by kernel_rfl) (fun ds m R X h => by rw [hl ds m R X h]; decide) (fun ds m R X h => ?_) q⟩
  have h2 := h
  unfold fn__law_deed at h2; dsimp only at h2; unfold sp__law_deed at h2
  obtain ⟨a, rfl, _⟩ := g1_of h2
  exact rd__law_deed T h

end
end G

set_option maxHeartbeats 4000000
namespace G
open PySem PySem.Spec PyProof.Rows L2

local macro_rules | `(tactic| walk_at "go") => `(tactic| ((conv => whnf); repeat ((first | refine isi_of (by first | assumption | exact trivial) ?_ | rw [Sto.put_same] | refine And.intro (by first | exact rfl | exact trivial | exact Nat.le_of_ble_eq_true rfl) ?_); (conv => whnf))))
local macro_rules | `(tactic| walk_at "wk") => `(tactic| ((repeat (walk_at "go"; first | refine optK_of (by first | assumption | exact Sto.put_same) ?_ | refine And.intro (by show (0 : Int) < _; decide) ?_ | refine And.intro (And.intro (by show (0 : Int) < _; decide) (by decide)) ?_ | refine And.intro (show CPow _ _ from ⟨by decide, by decide, by decide⟩) ?_)); try walk_at "go"))

section
variable {w : World} {K : PySem.W.Frag} {mg : Str → Option Value} {base : Heap}
/-! a text with one sign otherwise -/
def sUpper (a : SE K) : SE K where
  t := fun E => tM0 (fun x xs H Q => ∃ a, x = .str a ∧ xs = [] ∧ a.length ≤ 5592405 ∧ Q (.str (Txt.upper a)) H) (a.t E)
  w := fun δ m Φ Ψ => a.w δ m (fun d m1 => strK d fun z => z.length ≤ 5592405 ∧ Φ (.str (Txt.upper z)) m1) Ψ
  ok := fun {E δ m Φ Ψ} h σ H I s l Q kq kx => a.ok h σ H I s l _ (fun v H1 I1 d m1 g p f => by
    obtain ⟨z, rfl, f⟩ := strK_ok f
    cases p
    exact ⟨⟨z, rfl⟩, z, rfl, rfl, f.1, kq _ _ _ _ m1 g (.str _) f.2⟩) kx
  mono := fun f g h => a.mono (fun d m1 h => strK_mono (fun z h => ⟨h.1, f _ _ h.2⟩) h) g h
theorem cut_map (ys : List Str) (lo hi : Option Int) : cutD (ys.map Da.str) lo hi = (cutD ys lo hi).map Da.str := by
  unfold cutD
  rw [List.length_map, ← List.map_drop, ← List.map_take]
def wt (ys : List Str) : Nat := (ys.map (·.length)).sum + ys.length
theorem wt_take : ∀ (ys : List Str) (n : Nat), wt (ys.take n) ≤ wt ys
  | [], n => by simp
  | y :: ys, 0 => Nat.zero_le _
  | y :: ys, n + 1 => by
    have := wt_take ys n
    unfold wt at this ⊢
    simp only [List.take_succ_cons, List.map_cons, List.sum_cons, List.length_cons]
    omega
theorem wt_drop : ∀ (ys : List Str) (n : Nat), wt (ys.drop n) ≤ wt ys
  | [], n => by simp
  | y :: ys, 0 => Nat.le_refl _
  | y :: ys, n + 1 => by
    have := wt_drop ys n
    unfold wt at this ⊢
    simp only [List.drop_succ_cons, List.map_cons, List.sum_cons, List.length_cons]
    omega
theorem wt_cut (ys : List Str) (lo hi : Option Int) : wt (cutD ys lo hi) ≤ wt ys := Nat.le_trans (wt_take _ _) (wt_drop _ _)
theorem wt_app (ys zs : List Str) : wt (ys ++ zs) = wt ys + wt zs := by
  unfold wt
  rw [List.map_append, List.sum_append, List.length_append]
  omega
theorem join_wt (ys : List Str) : (Txt.join " " ys).length ≤ wt ys := by
  rw [show Txt.join " " ys = Str.join " " ys from StrLaws.glued_eq_join " " ys]
  cases ys with
  | nil => exact Nat.zero_le _
  | cons a l =>
    rw [PyProof.Rows.len_join_cons]
    unfold wt
    show _ + l.length * 1 ≤ _
    rw [List.length_cons]
    omega
theorem put_swap {m : Sto} {p q : Addr} {c c' d : Cell} (h : q ≠ p) : ((m.put p c).put q d).put p c' = (m.put p c').put q d := by
  funext x
  unfold Sto.put
  by_cases h1 : x = p <;> by_cases h2 : x = q <;> simp_all
theorem two_cuts (ws : List Str) (a b c d : Option Int) : cutD (ws.map Da.str) a b ++ cutD (ws.map Da.str) c d = (cutD ws a b ++ cutD ws c d).map Da.str := by
  rw [cut_map, cut_map, List.map_append]
theorem cuts_len (ws : List Str) (a b c d : Option Int) (h : wt ws ≤ 3000) : (cutD (ws.map Da.str) a b).length + (cutD (ws.map Da.str) c d).length ≤ 100000 := by
  rw [cut_map, cut_map, List.length_map, List.length_map]
  have h1 := wt_cut ws a b
  have h2 := wt_cut ws c d
  unfold wt at h h1 h2
  omega
theorem cuts_wt (ws : List Str) (a b c d : Option Int) (h : wt ws ≤ 3000) : wt (cutD ws a b ++ cutD ws c d) ≤ 6000 := by
  rw [wt_app]
  have h1 := wt_cut ws a b
  have h2 := wt_cut ws c d
  omega
theorem strs_all (ys : List Str) : strsO (ys.map Da.str) = some ys := by
  have h := strsO_map (fun y : Str => y) ys
  rw [List.map_id''] at h
  · exact h
  · exact fun _ => rfl
theorem join_fit {ys : List Str} (h : wt ys ≤ 6000) : (ys.map (fun x => x.length)).sum + ys.length * (Str.ofString " ").length ≤ 16777216 := by
  show _ + ys.length * 1 ≤ _
  unfold wt at h
  omega
theorem put_del {m : Sto} {q : Addr} {d : Cell} (h : m q = none) : (m.put q d).del q = m := by
  funext x
  unfold Sto.put Sto.del
  by_cases h2 : x = q <;> simp_all
theorem split_some {z : Str} (h : 0 < z.length) : 0 < (Txt.split z " ").length := by
  have e := congrArg Str.length (StrLaws.join_split z " ")
  cases hs : Txt.split z " " with
  | nil =>
    rw [hs] at e
    have e2 : 0 = z.length := e
    omega
  | cons a l => exact Nat.succ_pos _
theorem bnd {n : Nat} (h : n ≤ 16777216) : n ≤ sizeLine := h
def ShortS (d : Da) : Prop := ∃ y : Str, d = .str y ∧ y.length ≤ 9000
def sp__law_spoilt : Fs := g2 fun a b m R X => ∃ p l z, (a = .adr p ∧ b = .str z ∧ 0 < z.length ∧ z.length ≤ 2990 ∧ m p = some (.lst l) ∧ StOk l) ∧ ∀ y l', y.length ≤ 9000 → StOk l' → R (.str y) (m.put p (.lst l'))
theorem mo__law_spoilt : FMono sp__law_spoilt := gm2 fun a b m R R' X X' hr hx ⟨p, l, z, h1, h2⟩ => ⟨p, l, z, h1, fun y l' a b => hr _ _ (h2 y l' a b)⟩
abbrev fn__law_spoilt (K : PySem.W.Frag) : Fn := ⟨sp__law_spoilt, mo__law_spoilt⟩
def S__law_spoilt (T : Top w K mg) : SSt K :=
    (sSeq (sSet 2 (sCall (fn__law_digit K) (sCons (sVar 0) (sCons (sOp oAdd (sCB cLen (sCons (sVar 1) sNil)) (sInt 1)) sNil))))
    (sSeq (sSet 3 (sCall (fn__law_one K) (sCons (sVar 0) (sCons (sLst (sCons (sStr " ") (sCons (sStr "0") (sCons (sStr "-") (sCons (sStr ":") (sCons (sStr ",") (sCons (sStr "a") (sCons (sStr "S") (sCons (sStr "x") (sCons (sStr "
") (sCons (sStr "none") (sCons (sStr "9") (sCons (sStr "") sNil))))))))))))) sNil))))
    (sSeq (sSet 4 (sLstM (sCons (sOp oAdd (sOp oAdd (sSl (sVar 1) poNo (poSo (sVar 2))) (sVar 3)) (sSl (sVar 1) (poSo (sVar 2)) poNo)) (sCons (sOp oAdd (sSl (sVar 1) poNo (poSo (sVar 2))) (sSl (sVar 1) (poSo (sOp oAdd (sVar 2) (sInt 1))) poNo)) (sCons (sOp oAdd (sOp oAdd (sSl (sVar 1) poNo (poSo (sVar 2))) (sVar 3)) (sSl (sVar 1) (poSo (sOp oAdd (sVar 2) (sInt 1))) poNo)) (sCons (sSl (sVar 1) poNo (poSo (sVar 2))) sNil))))))
    (sSeq (sSet 5 (sM1 mSplit (sVar 1) (sStr " ")))
    (sSeq (sSet 6 (sCall (fn__law_digit K) (sCons (sVar 0) (sCons (sCB cLen (sCons (sVar 5) sNil)) sNil))))
    (sSeq (sDrop (sApp (sVar 4) (sM1 mJoin (sStr " ") (sOp oAdd (sSl (sVar 5) poNo (poSo (sVar 6))) (sSl (sVar 5) (poSo (sOp oAdd (sVar 6) (sInt 1))) poNo)))))
    (sSeq (sDrop (sApp (sVar 4) (sM1 mJoin (sStr " ") (sOp oAdd (sSl (sVar 5) poNo (poSo (sOp oAdd (sVar 6) (sInt 1)))) (sSl (sVar 5) (poSo (sVar 6)) poNo)))))
    (sFrzS 4 (sRet (sCall (fn__law_one K) (sCons (sVar 0) (sCons (sOp oAdd (sVar 4) (sLst (sCons (sOp oAdd (sStr " ") (sVar 1)) (sCons (sOp oAdd (sVar 1) (sStr " ")) (sCons (sOp oAdd (sVar 1) (sStr "
")) (sCons (sUpper (sVar 1)) sNil)))))) sNil))))))))))))
theorem rd__law_spoilt (T : Top w K mg) {a b : Da} {m : Sto} {R : Rk} {X : Xk} (h : (fn__law_spoilt K).F [a, b] m R X) : (S__law_spoilt T).w (dn n__law_spoilt [a, b]) m (fun _ m' => ∃ m2, Sub m2 m' ∧ R .non m2) (fun d m' => ∃ m2, Sub m2 m' ∧ R d m2) (fun x m' => ∃ m2, Sub m2 m' ∧ X x m2) noN noN := by
  obtain ⟨p, l, z, ⟨rfl, rfl, hz0, hz, hm, hs⟩, h⟩ := h
  walk_at "wk"
  refine ⟨Nat.le_trans hz (by decide), ?_⟩
  walk_at "wk"
  refine ⟨p, l, _, ⟨rfl, rfl, by omega, by omega, hm, hs⟩, fun at_ l1 a0 a1 hs1 => ?_⟩
  walk_at "wk"
  refine ⟨p, l1, _, ⟨rfl, rfl, by simp, by decide, Sto.put_same, hs1⟩, fun sg l2 hsg hs2 => ?_⟩
  have hsg2 : ∃ y : Str, sg = .str y ∧ y.length ≤ 4 := by
    simp only [List.mem_cons, List.not_mem_nil, or_false] at hsg
    rcases hsg with h | h | h | h | h | h | h | h | h | h | h | h <;> exact ⟨_, h, by decide⟩
  obtain ⟨y, rfl, hy⟩ := hsg2
  rw [put_put]
  walk_at "wk"
  have c1 := L2.cutS_length z none (some at_)
  have c2 := L2.cutS_length z (some at_) none
  have c3 := L2.cutS_length z (some (at_ + 1)) none
  iterate 12
    try (refine ⟨bnd (by (try simp only [Str.length_append]); omega), ?_⟩)
    try walk_at "wk"
  intro q hq
  have hqp : q ≠ p := fun e => by subst e; rw [Sto.put_same] at hq; cases hq
  have he : ∀ d ∈ [Da.str (cutS z none (some at_) ++ y ++ cutS z (some at_) none), Da.str (cutS z none (some at_) ++ cutS z (some (at_ + 1)) none), Da.str (cutS z none (some at_) ++ y ++ cutS z (some (at_ + 1)) none), Da.str (cutS z none (some at_))], ShortS d := fun d hd => by
    simp only [List.mem_cons, List.not_mem_nil, or_false] at hd
    rcases hd with h | h | h | h <;> exact ⟨_, h, by (try simp only [Str.length_append]); omega⟩
  have hel : [Da.str (cutS z none (some at_) ++ y ++ cutS z (some at_) none), Da.str (cutS z none (some at_) ++ cutS z (some (at_ + 1)) none), Da.str (cutS z none (some at_) ++ y ++ cutS z (some (at_ + 1)) none), Da.str (cutS z none (some at_))].length = 4 := rfl
  generalize [Da.str (cutS z none (some at_) ++ y ++ cutS z (some at_) none), Da.str (cutS z none (some at_) ++ cutS z (some (at_ + 1)) none), Da.str (cutS z none (some at_) ++ y ++ cutS z (some (at_ + 1)) none), Da.str (cutS z none (some at_))] = es at he hel ⊢
  walk_at "wk"
  refine ⟨bnd (by omega), ?_⟩
  walk_at "wk"
  have hw : wt (Txt.split z " ") ≤ z.length + 1 := PyProof.Rows.split_weight z " " (by decide)
  have hwl : (Txt.split z " ").length ≤ wt (Txt.split z " ") := Nat.le_add_left _ _
  have hn : 0 < (Txt.split z " ").length := split_some hz0
  refine ⟨p, l2, _, ⟨rfl, rfl, by rw [List.length_map]; exact Int.ofNat_lt.mpr hn, by rw [List.length_map]; show ((Txt.split z " ").length : Int) < _; omega, by rw [Sto.put_ne hqp.symm]; exact Sto.put_same, hs2⟩, fun r l3 r0 r1 hs3 => ?_⟩
  rw [put_swap hqp]
  have hws : ∃ ws, Txt.split z " " = ws := ⟨_, rfl⟩
  obtain ⟨ws, ews⟩ := hws
  have ews' : Txt.split z (Str.ofString " ") = ws := ews
  rw [ews] at hw hwl hn
  rw [ews']
  have hmq : ((m.put p (Cell.lst l3)).put q (Cell.lst es)) q = some (.lst es) := Sto.put_same
  walk_at "wk"
  have hw3 : wt ws ≤ 3000 := by omega
  refine ⟨cuts_len ws _ _ _ _ hw3, ?_⟩
  rw [two_cuts]
  have hv := cuts_wt ws none (some r) (some (r + 1)) none hw3
  generalize cutD ws none (some r) ++ cutD ws (some (r + 1)) none = vs at hv ⊢
  walk_at "wk"
  refine optK_of (strs_all vs) ⟨join_fit hv, ?_⟩
  walk_at "wk"
  refine ⟨by omega, ?_⟩
  rw [put_put]
  have he2 : ∀ d ∈ es ++ [Da.str (Txt.join (Str.ofString " ") vs)], ShortS d := fun d hd => by
    rcases List.mem_append.mp hd with hd | hd
    · exact he d hd
    · rw [List.mem_singleton] at hd
      exact ⟨_, hd, Nat.le_trans (join_wt vs) (by omega)⟩
  have hel2 : (es ++ [Da.str (Txt.join (Str.ofString " ") vs)]).length = 5 := by rw [List.length_append, hel]; rfl
  generalize es ++ [Da.str (Txt.join (Str.ofString " ") vs)] = es2 at he2 hel2 ⊢
  have hmq2 : ((m.put p (Cell.lst l3)).put q (Cell.lst es2)) q = some (.lst es2) := Sto.put_same
  walk_at "wk"
  refine ⟨cuts_len ws _ _ _ _ hw3, ?_⟩
  rw [two_cuts]
  have hv2 := cuts_wt ws none (some (r + 1)) (some r) none hw3
  generalize cutD ws none (some (r + 1)) ++ cutD ws (some r) none = vs2 at hv2 ⊢
  walk_at "wk"
  refine optK_of (strs_all vs2) ⟨join_fit hv2, ?_⟩
  walk_at "wk"
  refine ⟨by omega, ?_⟩
  rw [put_put]
  have he3 : ∀ d ∈ es2 ++ [Da.str (Txt.join (Str.ofString " ") vs2)], ShortS d := fun d hd => by
    rcases List.mem_append.mp hd with hd | hd
    · exact he2 d hd
    · rw [List.mem_singleton] at hd
      exact ⟨_, hd, Nat.le_trans (join_wt vs2) (by omega)⟩
  have hel3 : (es2 ++ [Da.str (Txt.join (Str.ofString " ") vs2)]).length = 6 := by rw [List.length_append, hel2]; rfl
  generalize es2 ++ [Da.str (Txt.join (Str.ofString " ") vs2)] = es3 at he3 hel3 ⊢
  have hmq3 : ((m.put p (Cell.lst l3)).put q (Cell.lst es3)) q = some (.lst es3) := Sto.put_same
  walk_at "wk"
  have hmq0 : (m.put p (Cell.lst l3)) q = none := by
    rw [Sto.put_ne hqp] at hq ⊢
    exact hq
  rw [put_del hmq0]
  refine ⟨bnd (by show 1 + z.length ≤ _; omega), ?_⟩
  walk_at "wk"
  refine ⟨bnd (by show z.length + 1 ≤ _; omega), ?_⟩
  walk_at "wk"
  refine ⟨bnd (by show z.length + 1 ≤ _; omega), ?_⟩
  walk_at "wk"
  refine ⟨by omega, ?_⟩
  walk_at "wk"
  refine ⟨by show es3.length + 4 ≤ _; omega, ?_⟩
  walk_at "wk"
  refine ⟨p, l3, _, ⟨rfl, rfl, fun e => ?_, ?_, Sto.put_same, hs3⟩, fun d l4 hd hs4 => ?_⟩
  · have := congrArg List.length e
    rw [List.length_append] at this
    exact absurd this (by show ¬ es3.length + 4 = 0; omega)
  · rw [List.length_append]
    show es3.length + 4 ≤ _
    omega
  have hS : ShortS d := by
    rcases List.mem_append.mp hd with hd | hd
    · exact he3 d hd
    · simp only [List.mem_cons, List.not_mem_nil, or_false] at hd
      have hu := PyProof.Rows.len_upper z
      rcases hd with h | h | h | h
      · exact ⟨_, h, by rw [Str.length_append]; show 1 + z.length ≤ _; omega⟩
      · exact ⟨_, h, by rw [Str.length_append]; show z.length + 1 ≤ _; omega⟩
      · exact ⟨_, h, by rw [Str.length_append]; show z.length + 1 ≤ _; omega⟩
      · exact ⟨_, h, by omega⟩
  obtain ⟨y', rfl, hy'⟩ := hS
  rw [put_put]
  exact ⟨_, Sub.refl _, h y' l4 hy' hs4⟩
theorem ok__law_spoilt (T : Top w K mg) : FnAt R.prog w K mg base 3 (He.ga K "_law_spoilt") p__law_spoilt (spW K (fn__law_spoilt K).F) := by
  have hl : ∀ ds m R X, (fn__law_spoilt K).F ds m R X → ds.length = 2 := fun ds m R X h => by unfold fn__law_spoilt at h; dsimp only at h; unfold sp__law_spoilt at h; exact gl2 _ _ _ _ h
  refine fnAt_of (k := 2) T.d__law_spoilt sc__law_spoilt (fun vs H Q E q => spW_len (F := (fn__law_spoilt K).F) hl q) (fun _ _ _ _ _ _ us hl => match us, hl with | [_, _], _ => rfl) fun cdv A outer s H vs Q E hr q => ⟨_, (pss_cons (ps_set (i := 2) sc__law_spoilt.nd rfl (Or.inl rfl) (pe_call (ok__law_digit (base := base) T).ok (hr.mono (by decide)) (by rfl) T.gl__law_digit (ok__law_digit (base := base) T).kp (ok__law_digit (base := base) T).bd .nil (passes_call (takes_of rfl rfl rfl rfl) (fun _ _ _ _ h => h)) (pa_cons (pv 0) (pa_cons (pe_op op_addU (pe_callB (callr_or call_len_seq call_len_str) (by rfl) T.fr_len (by decide +kernel) (pa_cons (pv 1) pa_nil)) pe_int) pa_nil))))
    (pss_cons (ps_set (i := 3) sc__law_spoilt.nd rfl (Or.inl rfl) (pe_call (ok__law_one (base := base) T).ok (hr.mono (by decide)) (by rfl) T.gl__law_one (ok__law_one (base := base) T).kp (ok__law_one (base := base) T).bd .nil (passes_call (takes_of rfl rfl rfl rfl) (fun _ _ _ _ h => h)) (pa_cons (pv 0) (pa_cons (pe_lst (pa_cons pe_str (pa_cons pe_str (pa_cons pe_str (pa_cons pe_str (pa_cons pe_str (pa_cons pe_str (pa_cons pe_str (pa_cons pe_str (pa_cons pe_str (pa_cons pe_str (pa_cons pe_str (pa_cons pe_str pa_nil))))))))))))) pa_nil))))
    (pss_cons (ps_set (i := 4) sc__law_spoilt.nd rfl (Or.inl rfl) (pe_lst (pa_cons (pe_op op_addU (pe_op op_addU (pe_slice sl_U (pv 1) po_none (po_some (pv 2))) (pv 3)) (pe_slice sl_U (pv 1) (po_some (pv 2)) po_none)) (pa_cons (pe_op op_addU (pe_slice sl_U (pv 1) po_none (po_some (pv 2))) (pe_slice sl_U (pv 1) (po_some (pe_op op_addU (pv 2) pe_int)) po_none)) (pa_cons (pe_op op_addU (pe_op op_addU (pe_slice sl_U (pv 1) po_none (po_some (pv 2))) (pv 3)) (pe_slice sl_U (pv 1) (po_some (pe_op op_addU (pv 2) pe_int)) po_none)) (pa_cons (pe_slice sl_U (pv 1) po_none (po_some (pv 2))) pa_nil))))))
    (pss_cons (ps_set (i := 5) sc__law_spoilt.nd rfl (Or.inl rfl) (pe_split (pv 1) pe_str))
    (pss_cons (ps_set (i := 6) sc__law_spoilt.nd rfl (Or.inl rfl) (pe_call (ok__law_digit (base := base) T).ok (hr.mono (by decide)) (by rfl) T.gl__law_digit (ok__law_digit (base := base) T).kp (ok__law_digit (base := base) T).bd .nil (passes_call (takes_of rfl rfl rfl rfl) (fun _ _ _ _ h => h)) (pa_cons (pv 0) (pa_cons (pe_callB (callr_or call_len_seq call_len_str) (by rfl) T.fr_len (by decide +kernel) (pa_cons (pv 5) pa_nil)) pa_nil))))
    (pss_cons (ps_expr (pe_bm PySem.F.plainAttrs_list PySem.F.slot_list_append PySem.F.type_list_append mt_append (pv 4) (pa_cons (pe_join pe_str (pe_op op_addU (pe_slice sl_U (pv 5) po_none (po_some (pv 6))) (pe_slice sl_U (pv 5) (po_some (pe_op op_addU (pv 6) pe_int)) po_none))) pa_nil)))
    (pss_cons (ps_expr (pe_bm PySem.F.plainAttrs_list PySem.F.slot_list_append PySem.F.type_list_append mt_append (pv 4) (pa_cons (pe_join pe_str (pe_op op_addU (pe_slice sl_U (pv 5) po_none (po_some (pe_op op_addU (pv 6) pe_int))) (pe_slice sl_U (pv 5) (po_some (pv 6)) po_none))) pa_nil)))
    (pss_one (ps_ret (pe_call (ok__law_one (base := base) T).ok (hr.mono (by decide)) (by rfl) T.gl__law_one (ok__law_one (base := base) T).kp (ok__law_one (base := base) T).bd .nil (passes_call (takes_of rfl rfl rfl rfl) (fun _ _ _ _ h => h)) (pa_cons (pv 0) (pa_cons (pe_op op_addU (pv 4) (pe_lst (pa_cons (pe_op op_addU pe_str (pv 1)) (pa_cons (pe_op op_addU (pv 1) pe_str) (pa_cons (pe_op op_addU (pv 1) pe_str) (pa_cons (pe_m0 PySem.F.slot_str_upper PySem.F.type_str_upper mt_upper (pv 1)) pa_nil)))))) pa_nil)))))))))))), spW_leq (N := n__law_spoilt) (S__law_spoilt T) (by kernel_rfl) (fun ds m R X h => by rw [hl ds m R X h]; decide) (fun ds m R X h => ?_) q⟩
  have h2 := h
  unfold fn__law_spoilt at h2; dsimp only at h2; unfold sp__law_spoilt at h2
  obtain ⟨a, b, rfl, _⟩ := g2_of h2
  exact rd__law_spoilt T h

end
end G

set_option maxHeartbeats 4000000
namespace G
open PySem PySem.Spec PyProof.Rows L2

local macro_rules | `(tactic| walk_at "go") => `(tactic| ((conv => whnf); repeat ((first | refine isi_of (by first | assumption | exact trivial) ?_ | rw [Sto.put_same] | refine And.intro (by first | exact rfl | exact trivial | exact Nat.le_of_ble_eq_true rfl) ?_); (conv => whnf))))
local macro_rules | `(tactic| walk_at "wk") => `(tactic| ((repeat (walk_at "go"; first | refine optK_of (by first | assumption | exact Sto.put_same) ?_ | refine And.intro (by show (0 : Int) < _; decide) ?_ | refine And.intro (And.intro (by show (0 : Int) < _; decide) (by decide)) ?_ | refine And.intro (show CPow _ _ from ⟨by decide, by decide, by decide⟩) ?_)); try walk_at "go"))

section
variable {w : World} {K : PySem.W.Frag} {mg : Str → Option Value} {base : Heap}
/-! a text times a number -/
abbrev rMulS : R2 := fun x y H Q => ∃ a n, x = V.str a ∧ y = V.int n ∧ PySem.MulOk a n ∧ Q (.str (Txt.mul a n)) H
theorem op_mulS {X : Cx} : OpR X (binaryOp .Mult) rMulS := by
  intro pins s σ H x y v u Q I rx ry h
  obtain ⟨i, j, rfl, rfl, hz, q⟩ := h
  obtain ⟨t, rfl⟩ := rx
  obtain ⟨t', rfl⟩ := ry
  exact PySem.SB.mul hz (fun t' tk => ⟨.str (Txt.mul i j), H, I.tok _, ⟨_, rfl⟩, q⟩)
def oMulS : O2 K where
  r := rMulS
  w := fun d1 d2 m Φ => strK d1 fun a => ∃ n, d2 = .int n ∧ PySem.MulOk a n ∧ Φ (.str (Txt.mul a n)) m
  ok := fun {d1 d2 m Φ} h => by
    obtain ⟨a, rfl, n, rfl, h1, h2⟩ := strK_ok h
    intro x y H I s hx hy Q kq
    cases hx
    cases hy
    exact ⟨a, n, rfl, rfl, h1, kq _ H I _ m (Go.refl s) (.str _) h2⟩
  mono := fun f h => strK_mono (fun a ⟨n, e, h1, h2⟩ => ⟨n, e, h1, f _ _ h2⟩) h
/-! the texts written by hand -/
def moreS (k : Nat) : Str := Txt.join ":" [num (3 * (k : Int)), num (2 * (k : Int)), "1"]
def moreD (k : Nat) : Da := .str (moreS k)
def handL : List Str :=
  (["", " ", "fork", "fork 0 0", "fork  0", " fork 0", "fork 0 ", "fork\n0", "Fork 0", "fork 00", "fork 01"] : List Str) ++
  (["fork -0", "fork +1", "fork 1_0", "fork --1", "fork -", "fork none", "fork " ++ Txt.mul "1" 61] : List Str) ++
  (["fork -" ++ Txt.mul "1" 61, "fork 0x1", "drop a", "fork 0\n", "set 0 1 2", "set 0 1 2 3 4", "end 0"] : List Str) ++
  (["set 0 - 1 2", "exec 0 A", "exec 0 abcdefghi", "exec 0 a1", "exec 0 ", "exec 0 -", "create 0 a"] : List Str) ++
  (["create 0 a wr", "create 0 a rr", "create 0 a rwxRWXSr", "create 0 a none", "create 0 a --"] : List Str) ++
  (["bits 0 a Sr", "own 0 a -", "own 0 a b", "own 0 a", "map 0 1", "map 0 1 ", "map 0 1 -"] : List Str) ++
  (["map 0 1 0:0:1:1", "map 0 1 0:0:0", "map 0 1 -1:0:1", "map 0 1 0:0:1,", "map 0 1 ,0:0:1"] : List Str) ++
  (["map 0 1 0:0:1,1:1:1", "map 0 1 5:5:1,0:0:1", "map 0 1 0:0:2,1:9:1", "map 0 1 0:0:2,9:1:1"] : List Str) ++
  (["map 0 1 0:4294967294:2", "map 0 1 00:0:1", "map 0 1 0:0:1 0:9:1", "map 0 none 0:0:1", "rooms"] : List Str) ++
  (["map 0 1 0:0:1,0:0:1", "map 0 1 0:0:3,1:1:1", "map 0 1 0:10:1,100:5:20", "map 0 1 2:5:9,4:30:1"] : List Str) ++
  (["map 0 1 " ++ Txt.join "," ((List.range 51).map moreS), "map 0 1 none", "map 0 1 0:0", "set 0 None 1 2", "log"] : List Str)
def sp__law_by_hand : Fs := g0 fun m R X => R (.lst (handL.map Da.str)) m
theorem mo__law_by_hand : FMono sp__law_by_hand := gm0 fun m R R' X X' hr hx h => hr _ _ h
abbrev fn__law_by_hand (K : PySem.W.Frag) : Fn := ⟨sp__law_by_hand, mo__law_by_hand⟩
@[irreducible] def S__law_by_hand_11 (T : Top w K mg) : SSt K :=
    (sRet (sOp oAdd (sVar 0) (sLst (sCons (sOp oAdd (sStr "map 0 1 ") (sM1 mJoin (sStr ",") (sVar 1))) (sCons (sStr "map 0 1 none") (sCons (sStr "map 0 1 0:0") (sCons (sStr "set 0 None 1 2") (sCons (sStr "log") sNil))))))))
@[irreducible] def S__law_by_hand_9 (T : Top w K mg) : SSt K :=
    (sSeq (sSet 1 (sLc (iRange1 (sCons (sInt 51) sNil)) (tgName 2) sYes (sM1 mJoin (sStr ":") (sLst (sCons (sCB cStr (sCons (sOp oMul (sInt 3) (sVar 2)) sNil)) (sCons (sCB cStr (sCons (sOp oMul (sInt 2) (sVar 2)) sNil)) (sCons (sStr "1") sNil))))) [2]))
    (sSeq (sSet 0 (sOp oAdd (sVar 0) (sLst (sCons (sStr "map 0 1 0:0:1,0:0:1") (sCons (sStr "map 0 1 0:0:3,1:1:1") (sCons (sStr "map 0 1 0:10:1,100:5:20") (sCons (sStr "map 0 1 2:5:9,4:30:1") sNil)))))))
    (S__law_by_hand_11 T)))
@[irreducible] def S__law_by_hand_6 (T : Top w K mg) : SSt K :=
    (sSeq (sSet 0 (sOp oAdd (sVar 0) (sLst (sCons (sStr "map 0 1 0:0:1:1") (sCons (sStr "map 0 1 0:0:0") (sCons (sStr "map 0 1 -1:0:1") (sCons (sStr "map 0 1 0:0:1,") (sCons (sStr "map 0 1 ,0:0:1") sNil))))))))
    (sSeq (sSet 0 (sOp oAdd (sVar 0) (sLst (sCons (sStr "map 0 1 0:0:1,1:1:1") (sCons (sStr "map 0 1 5:5:1,0:0:1") (sCons (sStr "map 0 1 0:0:2,1:9:1") (sCons (sStr "map 0 1 0:0:2,9:1:1") sNil)))))))
    (sSeq (sSet 0 (sOp oAdd (sVar 0) (sLst (sCons (sStr "map 0 1 0:4294967294:2") (sCons (sStr "map 0 1 00:0:1") (sCons (sStr "map 0 1 0:0:1 0:9:1") (sCons (sStr "map 0 none 0:0:1") (sCons (sStr "rooms") sNil))))))))
    (S__law_by_hand_9 T))))
@[irreducible] def S__law_by_hand_3 (T : Top w K mg) : SSt K :=
    (sSeq (sSet 0 (sOp oAdd (sVar 0) (sLst (sCons (sStr "set 0 - 1 2") (sCons (sStr "exec 0 A") (sCons (sStr "exec 0 abcdefghi") (sCons (sStr "exec 0 a1") (sCons (sStr "exec 0 ") (sCons (sStr "exec 0 -") (sCons (sStr "create 0 a") sNil))))))))))
    (sSeq (sSet 0 (sOp oAdd (sVar 0) (sLst (sCons (sStr "create 0 a wr") (sCons (sStr "create 0 a rr") (sCons (sStr "create 0 a rwxRWXSr") (sCons (sStr "create 0 a none") (sCons (sStr "create 0 a --") sNil))))))))
    (sSeq (sSet 0 (sOp oAdd (sVar 0) (sLst (sCons (sStr "bits 0 a Sr") (sCons (sStr "own 0 a -") (sCons (sStr "own 0 a b") (sCons (sStr "own 0 a") (sCons (sStr "map 0 1") (sCons (sStr "map 0 1 ") (sCons (sStr "map 0 1 -") sNil))))))))))
    (S__law_by_hand_6 T))))
def S__law_by_hand (T : Top w K mg) : SSt K :=
    (sSeq (sSet 0 (sLst (sCons (sStr "") (sCons (sStr " ") (sCons (sStr "fork") (sCons (sStr "fork 0 0") (sCons (sStr "fork  0") (sCons (sStr " fork 0") (sCons (sStr "fork 0 ") (sCons (sStr "fork
0") (sCons (sStr "Fork 0") (sCons (sStr "fork 00") (sCons (sStr "fork 01") sNil)))))))))))))
    (sSeq (sSet 0 (sOp oAdd (sVar 0) (sLst (sCons (sStr "fork -0") (sCons (sStr "fork +1") (sCons (sStr "fork 1_0") (sCons (sStr "fork --1") (sCons (sStr "fork -") (sCons (sStr "fork none") (sCons (sOp oAdd (sStr "fork ") (sOp oMulS (sStr "1") (sInt 61))) sNil))))))))))
    (sSeq (sSet 0 (sOp oAdd (sVar 0) (sLst (sCons (sOp oAdd (sStr "fork -") (sOp oMulS (sStr "1") (sInt 61))) (sCons (sStr "fork 0x1") (sCons (sStr "drop a") (sCons (sStr "fork 0
") (sCons (sStr "set 0 1 2") (sCons (sStr "set 0 1 2 3 4") (sCons (sStr "end 0") sNil))))))))))
    (S__law_by_hand_3 T))))
theorem mulOk1 : PySem.MulOk "1" 61 := ⟨by decide, by decide, by decide +kernel⟩
theorem rd__law_by_hand (T : Top w K mg) {m : Sto} {R : Rk} {X : Xk} (h : (fn__law_by_hand K).F [] m R X) : (S__law_by_hand T).w (dn n__law_by_hand []) m (fun _ m' => R .non m') R X noN noN := by
  walk_at "wk"
  refine ⟨61, rfl, mulOk1, ?_⟩
  walk_at "wk"
  refine ⟨61, rfl, mulOk1, ?_⟩
  walk_at "wk"
  unfold S__law_by_hand_3
  walk_at "wk"
  unfold S__law_by_hand_6
  walk_at "wk"
  unfold S__law_by_hand_9
  walk_at "wk"
  refine ⟨by decide, ?_⟩
  walk_at "wk"
  refine ⟨by decide +kernel, ?_⟩
  rw [rngD_def, show (List.range (Int.toNat 51)).map (fun i : Nat => Da.int (0 + (i : Int))) = (List.range 51).map (fun k : Nat => Da.int (k : Int)) from List.map_congr_left fun i _ => congrArg Da.int (Int.zero_add _)]
  refine lc_map (enc := fun k : Nat => Da.int (k : Int)) (mk := moreD) (List.range 51) (fun k hk k0 k1 h1 => ?_) ?_
  · walk_at "wk"
    refine ⟨mul_l (by decide), ?_⟩
    walk_at "wk"
    have hk' : k < 51 := List.mem_range.mp hk
    refine ⟨Nat.lt_of_le_of_lt (Nat.log2_le_self _) (by omega), ?_⟩
    walk_at "wk"
    refine ⟨mul_l (by decide), ?_⟩
    walk_at "wk"
    refine ⟨Nat.lt_of_le_of_lt (Nat.log2_le_self _) (by omega), ?_⟩
    walk_at "wk"
    refine ⟨?_, h1⟩
    have e1 := (num_ok (i := 3 * (k : Int)) (by omega)).2
    have e2 := (num_ok (i := 2 * (k : Int)) (by omega)).2
    show (num _).length + ((num _).length + (1 + 0)) + 3 * 1 ≤ _
    omega
  walk_at "wk"
  unfold S__law_by_hand_11
  walk_at "wk"
  exact h
theorem ok__law_by_hand (T : Top w K mg) : FnAt R.prog w K mg base 1 (He.ga K "_law_by_hand") p__law_by_hand (spW K (fn__law_by_hand K).F) := by
  have hl : ∀ ds m R X, (fn__law_by_hand K).F ds m R X → ds.length = 0 := fun ds m R X h => by unfold fn__law_by_hand at h; dsimp only at h; unfold sp__law_by_hand at h; exact gl0 _ _ _ _ h
  refine fnAt_of (k := 0) T.d__law_by_hand sc__law_by_hand (fun vs H Q E q => spW_len (F := (fn__law_by_hand K).F) hl q) (fun _ _ _ _ _ _ us hl => match us, hl with | [], _ => rfl) fun cdv A outer s H vs Q E hr q => ⟨_, (pss_cons (ps_set (i := 0) sc__law_by_hand.nd rfl (Or.inl rfl) (pe_lst (pa_cons pe_str (pa_cons pe_str (pa_cons pe_str (pa_cons pe_str (pa_cons pe_str (pa_cons pe_str (pa_cons pe_str (pa_cons pe_str (pa_cons pe_str (pa_cons pe_str (pa_cons pe_str pa_nil)))))))))))))
    (pss_cons (ps_set (i := 0) sc__law_by_hand.nd rfl (Or.inl rfl) (pe_op op_addU (pv 0) (pe_lst (pa_cons pe_str (pa_cons pe_str (pa_cons pe_str (pa_cons pe_str (pa_cons pe_str (pa_cons pe_str (pa_cons (pe_op op_addU pe_str (pe_op op_mulS pe_str pe_int)) pa_nil))))))))))
    (pss_cons (ps_set (i := 0) sc__law_by_hand.nd rfl (Or.inl rfl) (pe_op op_addU (pv 0) (pe_lst (pa_cons (pe_op op_addU pe_str (pe_op op_mulS pe_str pe_int)) (pa_cons pe_str (pa_cons pe_str (pa_cons pe_str (pa_cons pe_str (pa_cons pe_str (pa_cons pe_str pa_nil))))))))))
    (pss_cons (ps_set (i := 0) sc__law_by_hand.nd rfl (Or.inl rfl) (pe_op op_addU (pv 0) (pe_lst (pa_cons pe_str (pa_cons pe_str (pa_cons pe_str (pa_cons pe_str (pa_cons pe_str (pa_cons pe_str (pa_cons pe_str pa_nil))))))))))
    (pss_cons (ps_set (i := 0) sc__law_by_hand.nd rfl (Or.inl rfl) (pe_op op_addU (pv 0) (pe_lst (pa_cons pe_str (pa_cons pe_str (pa_cons pe_str (pa_cons pe_str (pa_cons pe_str pa_nil))))))))
    (pss_cons (ps_set (i := 0) sc__law_by_hand.nd rfl (Or.inl rfl) (pe_op op_addU (pv 0) (pe_lst (pa_cons pe_str (pa_cons pe_str (pa_cons pe_str (pa_cons pe_str (pa_cons pe_str (pa_cons pe_str (pa_cons pe_str pa_nil))))))))))
    (pss_cons (ps_set (i := 0) sc__law_by_hand.nd rfl (Or.inl rfl) (pe_op op_addU (pv 0) (pe_lst (pa_cons pe_str (pa_cons pe_str (pa_cons pe_str (pa_cons pe_str (pa_cons pe_str pa_nil))))))))
    (pss_cons (ps_set (i := 0) sc__law_by_hand.nd rfl (Or.inl rfl) (pe_op op_addU (pv 0) (pe_lst (pa_cons pe_str (pa_cons pe_str (pa_cons pe_str (pa_cons pe_str pa_nil)))))))
    (pss_cons (ps_set (i := 0) sc__law_by_hand.nd rfl (Or.inl rfl) (pe_op op_addU (pv 0) (pe_lst (pa_cons pe_str (pa_cons pe_str (pa_cons pe_str (pa_cons pe_str (pa_cons pe_str pa_nil))))))))
    (pss_cons (ps_setLc (i := 1) (own := [("_law_k", 2)]) (g := ((tgName 2) : STg K).t) (te := ((sM1 mJoin (sStr ":") (sLst (sCons (sCB cStr (sCons (sOp oMul (sInt 3) (sVar 2)) sNil)) (sCons (sCB cStr (sCons (sOp oMul (sInt 2) (sVar 2)) sNil)) (sCons (sStr "1") sNil))))) : SE K).t E0) (tt := (sYes : STe K).t E0) (by rfl) sc__law_by_hand.nd rfl rfl (sw_true rfl rfl rfl (by decide +kernel)) (pi_range1 (by rfl) T.fr_range (pa_cons pe_int pa_nil)) (blkOk_by (own := [("_law_k", 2)]) (N := n__law_by_hand) (sc := defScope s__law_by_hand) (by decide +kernel)) (fun _ _ _ _ _ => (pg_name (i := 2) sc__law_by_hand.nd rfl (Or.inl rfl))) (fun _ _ _ _ _ => pts_nil) (fun _ _ _ _ _ => by exact pe_eq (pe_join pe_str (pe_lst (pa_cons (pe_callTy (callr_or call_str_int SkE.call_str_str) (by rfl) T.fr_str (by decide +kernel) (pa_cons (pe_op op_mulU pe_int (pv 2)) pa_nil)) (pa_cons (pe_callTy (callr_or call_str_int SkE.call_str_str) (by rfl) T.fr_str (by decide +kernel) (pa_cons (pe_op op_mulU pe_int (pv 2)) pa_nil)) (pa_cons pe_str pa_nil))))) (by (try dsimp only [cxOf, L2.Cx.blk]) <;> exact rfl)))
    (pss_cons (ps_set (i := 0) sc__law_by_hand.nd rfl (Or.inl rfl) (pe_op op_addU (pv 0) (pe_lst (pa_cons pe_str (pa_cons pe_str (pa_cons pe_str (pa_cons pe_str pa_nil)))))))
    (pss_one (ps_ret (pe_op op_addU (pv 0) (pe_lst (pa_cons (pe_op op_addU pe_str (pe_join pe_str (pv 1))) (pa_cons pe_str (pa_cons pe_str (pa_cons pe_str (pa_cons pe_str pa_nil)))))))))))))))))))), spW_eq (N := n__law_by_hand) (S__law_by_hand T) (by kernel_rfl) (fun ds m R X h => by rw [hl ds m R X h]; decide) (fun ds m R X h => ?_) q⟩
  have h2 := h
  unfold fn__law_by_hand at h2; dsimp only at h2; unfold sp__law_by_hand at h2
  obtain ⟨rfl, _⟩ := g0_of h2
  exact rd__law_by_hand T h

end
end G

set_option maxHeartbeats 4000000
namespace G
open PySem PySem.Spec PyProof.Rows L2

local macro_rules | `(tactic| walk_at "go") => `(tactic| ((conv => whnf); repeat ((first | refine isi_of (by first | assumption | exact trivial) ?_ | rw [Sto.put_same] | refine And.intro (by first | exact rfl | exact trivial | exact Nat.le_of_ble_eq_true rfl) ?_); (conv => whnf))))
local macro_rules | `(tactic| walk_at "wk") => `(tactic| ((repeat (walk_at "go"; first | refine optK_of (by first | assumption | exact Sto.put_same) ?_ | refine And.intro (by show (0 : Int) < _; decide) ?_ | refine And.intro (And.intro (by show (0 : Int) < _; decide) (by decide)) ?_ | refine And.intro (show CPow _ _ from ⟨by decide, by decide, by decide⟩) ?_)); try walk_at "go"))

section
variable {w : World} {K : PySem.W.Frag} {mg : Str → Option Value} {base : Heap}
/-! texts of deeds, read -/
theorem numL_head {n : Nat} (h : 0 < n) : (TL.numL n).headD 0 ≠ 48 := by
  induction n using Nat.strongRecOn with
  | ind n ih =>
    by_cases c : n < 10
    · rw [TL.numL_lt c]
      simp
      omega
    · rw [TL.numL_step (by omega)]
      have h1 := ih (n / 10) (by omega) (by omega)
      have h2 := TL.numL_ne (n / 10)
      cases e : TL.numL (n / 10) with
      | nil => exact absurd e h2
      | cons a r => rw [e] at h1; exact h1
theorem numL_dig (n : Nat) : (TL.numL n).all digB = true := by
  rw [List.all_eq_true]
  intro c hc
  exact digB_iff.mpr (TL.numL_digits n c hc)
theorem numL_minus (n : Nat) : (TL.numL n).head? ≠ some 45 := fun h => by
  have : 45 ∈ TL.numL n := List.mem_of_mem_head? (by rw [h]; rfl)
  exact TL.numL_free (by omega) this
theorem num_cases (i : Int) : (∃ n : Nat, i = n ∧ (num i).cps.toList = TL.numL n) ∨ ∃ n : Nat, 0 < n ∧ i = -(n : Int) ∧ (num i).cps.toList = 45 :: TL.numL n := by
  by_cases c : 0 ≤ i
  · obtain ⟨n, rfl⟩ : ∃ n : Nat, i = n := ⟨i.toNat, by omega⟩
    exact .inl ⟨n, rfl, num_tl⟩
  · obtain ⟨n, hn, rfl⟩ : ∃ n : Nat, 0 < n ∧ i = -(n : Int) := ⟨i.natAbs, by omega, by omega⟩
    exact .inr ⟨n, hn, rfl, num_neg hn⟩
theorem num_mem {i : Int} {c : Nat} (h : c ∈ (num i).cps.toList) : c = 45 ∨ 48 ≤ c ∧ c ≤ 57 := by
  rcases num_cases i with ⟨n, _, e⟩ | ⟨n, _, _, e⟩
  · rw [e] at h
    exact .inr (TL.numL_digits n c h)
  · rw [e] at h
    rcases List.mem_cons.mp h with h | h
    · exact .inl h
    · exact .inr (TL.numL_digits n c h)
/-- a number's text is read -/
theorem whole_num {i : Int} (h : i.natAbs < 10 ^ 60) : wholeOf (num i) = .int i := by
  have key : wholeB (num i).cps.toList = true ∧ valOf (num i).cps.toList = i := by
    rcases num_cases i with ⟨n, rfl, e⟩ | ⟨n, hn, rfl, e⟩
    · rw [e]
      have hl := TL.numL_len (n := n) (k := 60) (by decide) (by simpa using h)
      have hf := figs_plain (numL_minus n)
      have hz : n = 0 ∨ 0 < n := by omega
      constructor
      · unfold wholeB
        rw [hf]
        have h1 : (TL.numL n).isEmpty = false := by
          cases q : TL.numL n with
          | nil => exact absurd q (TL.numL_ne n)
          | cons a r => rfl
        rw [h1, numL_dig]
        rw [decide_eq_true (show ((TL.numL n).length : Int) ≤ 60 by omega)]
        rcases hz with rfl | hz
        · decide +kernel
        · rw [decide_eq_false (numL_head hz)]
          simp
      · unfold valOf
        split
        · rename_i r q
          have := numL_minus n
          rw [q] at this
          exact absurd rfl this
        · rw [TL.numL_val]
    · rw [e]
      have hl := TL.numL_len (n := n) (k := 60) (by decide) (by simpa using h)
      constructor
      · unfold wholeB
        have hf : figsOf (45 :: TL.numL n) = TL.numL n := rfl
        rw [hf]
        have h1 : (TL.numL n).isEmpty = false := by
          cases q : TL.numL n with
          | nil => exact absurd q (TL.numL_ne n)
          | cons a r => rfl
        rw [h1, numL_dig, decide_eq_true (show ((TL.numL n).length : Int) ≤ 60 by omega), decide_eq_false (numL_head hn)]
        simp
      · show -(NumText.digitsVal (TL.numL n) : Int) = _
        rw [TL.numL_val]
  unfold wholeOf
  rw [if_pos key.1, key.2]
theorem mem_joinL {S : List Nat} {c : Nat} : ∀ {ps : List (List Nat)}, c ∈ TL.joinL S ps → c ∈ S ∨ ∃ p ∈ ps, c ∈ p
  | [], h => by cases h
  | [p], h => .inr ⟨p, by simp, h⟩
  | p :: q :: r, h => by
    rw [TL.joinL] at h
    rcases List.mem_append.mp h with h | h
    · exact .inr ⟨p, by simp, h⟩
    · rcases List.mem_append.mp h with h | h
      · exact .inl h
      · rcases mem_joinL h with h | ⟨x, hx, h⟩
        · exact .inl h
        · exact .inr ⟨x, List.mem_cons_of_mem _ hx, h⟩
theorem mem_join {y : Str} {c : Nat} {ps : List Str} (h : c ∈ (Txt.join y ps).cps.toList) : c ∈ y.cps.toList ∨ ∃ p ∈ ps, c ∈ p.cps.toList := by
  have h : c ∈ TL.tl (Txt.join y ps) := h
  rw [TL.join_eq, TL.tl_join] at h
  rcases mem_joinL h with h | ⟨p, hp, h⟩
  · exact .inl h
  · obtain ⟨q, hq, rfl⟩ := List.mem_map.mp hp
    exact .inr ⟨q, hq, h⟩
theorem rg_read {r : Rg} (h : rgOk r = true) : rgPart (rgText r) = some r := by
  obtain ⟨⟨a1, a2⟩, ⟨b1, b2⟩, c1, c2⟩ := ok_ints h
  have e : Txt.split (rgText r) ":" = [num r.1, num r.2.1, num r.2.2] := by
    refine TL.split_join (s := 58) (S := []) (by decide +kernel) (by decide +kernel) (by simp) fun p hp hm => ?_
    simp only [List.mem_cons, List.not_mem_nil, or_false] at hp
    rcases hp with rfl | rfl | rfl <;> (have := num_mem hm; omega)
  unfold rgPart
  rw [e]
  have h60 : (4294967295 : Nat) < 10 ^ 60 := by decide
  have w1 : wholeOf (num r.1) = .int r.1 := whole_num (Nat.lt_of_le_of_lt (by omega) h60)
  have w2 : wholeOf (num r.2.1) = .int r.2.1 := whole_num (Nat.lt_of_le_of_lt (by omega) h60)
  have w3 : wholeOf (num r.2.2) = .int r.2.2 := whole_num (Nat.lt_of_le_of_lt (by omega) h60)
  simp only [List.map_cons, List.map_nil, w1, w2, w3]
theorem rgs_read : ∀ {rs : List Rg}, (∀ r ∈ rs, rgOk r = true) → rangesPs (rs.map rgText) = some rs
  | [], _ => rfl
  | r :: rs, h => by
    have h1 := rg_read (h r (by simp))
    have h2 := rgs_read (rs := rs) fun r hr => h r (List.mem_cons_of_mem _ hr)
    simp only [List.map_cons, rangesPs, h1, h2]
theorem rgText_mem {r : Rg} {c : Nat} (h : c ∈ (rgText r).cps.toList) : c = 58 ∨ c = 45 ∨ 48 ≤ c ∧ c ≤ 57 := by
  rcases mem_join h with h | ⟨p, hp, h⟩
  · have e : (":" : Str).cps.toList = [58] := by decide +kernel
    rw [e] at h
    exact .inl (List.mem_singleton.mp h)
  · simp only [List.mem_cons, List.not_mem_nil, or_false] at hp
    rcases hp with rfl | rfl | rfl <;> exact .inr (num_mem h)
theorem ranges_read {rs : List Rg} (h : ∀ r ∈ rs, rgOk r = true) (hn : rs ≠ []) : rangesOf (rangesText rs) = .lst (rs.map rg) := by
  have e : Txt.split (rangesText rs) "," = rs.map rgText := by
    refine TL.split_join (s := 44) (S := []) (by decide +kernel) (by decide +kernel) (by simpa using hn) fun p hp hm => ?_
    obtain ⟨r, _, rfl⟩ := List.mem_map.mp hp
    have := rgText_mem hm
    omega
  unfold rangesOf
  rw [e, rgs_read h]
theorem ranges_mem {rs : List Rg} {c : Nat} (h : c ∈ (rangesText rs).cps.toList) : c = 44 ∨ c = 58 ∨ c = 45 ∨ 48 ≤ c ∧ c ≤ 57 := by
  rcases mem_join h with h | ⟨p, hp, h⟩
  · have e : ("," : Str).cps.toList = [44] := by decide +kernel
    rw [e] at h
    exact .inl (List.mem_singleton.mp h)
  · obtain ⟨r, _, rfl⟩ := List.mem_map.mp hp
    exact .inr (rgText_mem h)
/-! entries -/
theorem abs_short {i : Int} (h : i.natAbs < 10 ^ 60) : shortD (.int i) = true := by
  show decide ((if i < 0 then -i else i) < 10 ^ 60) = true
  have e : ((10 ^ 60 : Nat) : Int) = (10 : Int) ^ 60 := by norm_cast
  apply decide_eq_true
  split <;> omega
theorem bits_mem {z : Str} (h : bitsD (.str z) = true) {c : Nat} (hc : c ∈ z.cps.toList) : c ∈ MARKS.cps.toList := by
  have h : eqS z (marksOf z) = true := h
  rw [eqS_def, decide_eq_true_iff] at h
  have hc : c ∈ (marksOf z).cps.toList := by rw [← h]; exact hc
  exact (List.mem_filter.mp hc).1
theorem marks_no : ∀ c ∈ MARKS.cps.toList, c ≠ 32 ∧ c ≠ 45 := by decide +kernel
/-- an entry is read from its text -/
theorem ent_read {c : Nat} {e : Da} (h : EntOk c e) : entryOf (entryText e c) c = e ∧ 32 ∉ (entryText e c).cps.toList ∧ entryD e c = true ∧ shortD e = true ∧ c ≠ 114 := by
  have key : ∀ i : Int, i.natAbs < 10 ^ 60 → isN (wholeOf (num i)) = false ∧ 32 ∉ (num i).cps.toList ∧ num i ≠ "none" := fun i hi => by
    refine ⟨by rw [whole_num hi]; rfl, fun z => by have := num_mem z; omega, fun z => ?_⟩
    have hm : 110 ∈ (num i).cps.toList := by rw [z]; decide +kernel
    have := num_mem hm
    omega
  rcases h with ⟨rfl, i, hi, rfl⟩ | ⟨rfl, rfl | ⟨i, hi, rfl⟩⟩ | ⟨rfl, z, hz, rfl⟩ | ⟨rfl, z, hz, rfl⟩
  · obtain ⟨k1, k2, k3⟩ := key i hi
    refine ⟨?_, k2, rfl, abs_short hi, by decide⟩
    show entryOf (num i) 105 = _
    unfold entryOf
    rw [if_neg (by decide), if_neg (by omega), if_pos (by omega), if_neg (by rw [k1]; decide), whole_num hi]
  · refine ⟨?_, by decide +kernel, rfl, rfl, by decide⟩
    show entryOf "none" 117 = _
    unfold entryOf
    rw [if_neg (by decide), if_pos ⟨rfl, rfl⟩]
  · obtain ⟨k1, k2, k3⟩ := key i hi
    refine ⟨?_, k2, rfl, abs_short hi, by decide⟩
    show entryOf (num i) 117 = _
    unfold entryOf
    rw [if_neg (by decide), if_neg (fun z => k3 z.2), if_pos (by omega), if_neg (by rw [k1]; decide), whole_num hi]
  · have n1 : ∀ z ∈ names6, nameD (.str z) = true ∧ 32 ∉ z.cps.toList := by decide +kernel
    have n2 := name_len hz
    have e : entryText (.str z) 110 = z := if_neg n2.1
    refine ⟨?_, by rw [e]; exact (n1 z hz).2, (n1 z hz).1, rfl, by decide⟩
    rw [e]
    unfold entryOf
    rw [if_neg (by decide), if_neg (by omega), if_neg (by omega), if_neg (by omega)]
  · by_cases c : z = ""
    · subst c
      have e : entryText (.str "") 98 = "-" := by
        show (if ("" : Str) = "" then ("-" : Str) else "") = "-"
        exact if_pos rfl
      refine ⟨?_, by decide +kernel, by decide +kernel, rfl, by decide⟩
      rw [e]
      unfold entryOf
      rw [if_neg (by decide), if_neg (by omega), if_neg (by omega), if_pos ⟨rfl, rfl⟩]
    · have e : entryText (.str z) 98 = z := if_neg c
      have nz : z ≠ "-" := fun q => by
        subst q
        have : (45 : Nat) ∈ MARKS.cps.toList := bits_mem hz (by decide +kernel)
        exact (marks_no 45 this).2 rfl
      refine ⟨?_, by rw [e]; exact fun q => (marks_no 32 (bits_mem hz q)).1 rfl, ?_, rfl, by decide⟩
      · rw [e]
        unfold entryOf
        rw [if_neg (by decide), if_neg (by omega), if_neg (by omega), if_neg (fun q => nz q.2)]
      · show entryD (.str z) 98 = true
        unfold entryD
        rw [if_neg (by decide), if_neg (by decide), if_neg (by decide), if_neg (by decide)]
        exact hz
theorem Ents.read : ∀ {cs : List Nat} {es : List Da}, Ents cs es → (((es.zip cs).map fun q => entryText q.1 q.2).zip cs).map (fun q => entryOf q.1 q.2) = es ∧ (∀ p ∈ (es.zip cs).map (fun q => entryText q.1 q.2), 32 ∉ p.cps.toList) ∧ ((es.zip cs).all fun q => entryD q.1 q.2) = true ∧ es.all shortD = true ∧ 114 ∉ cs
  | [], [], _ => ⟨rfl, nofun, rfl, rfl, by simp⟩
  | c :: cs, e :: es, ⟨a, b⟩ => by
    obtain ⟨h1, h2, h3, h4, h5⟩ := Ents.read b
    obtain ⟨g1, g2, g3, g4, g5⟩ := ent_read a
    refine ⟨by simp only [List.zip_cons_cons, List.map_cons, h1, g1], fun p hp => ?_, by simp only [List.zip_cons_cons, List.all_cons, h3, g3, Bool.and_self], by simp only [List.all_cons, h4, g4, Bool.and_self], fun z => ?_⟩
    · rw [List.zip_cons_cons, List.map_cons] at hp
      rcases List.mem_cons.mp hp with rfl | hp
      · exact g2
      · exact h2 p hp
    · rcases List.mem_cons.mp z with z | z
      · exact g5 z.symm
      · exact h5 z
  | [], _ :: _, h => h.elim
  | _ :: _, [], h => h.elim
theorem word_no {v : Str} (h : v ∈ wordsL) : 32 ∉ v.cps.toList := by
  have : ∀ v ∈ wordsL, 32 ∉ v.cps.toList := by decide +kernel
  exact this v h
/-- read back from words without blanks -/
theorem deed_read {v f : Str} {es : List Da} (hv : v ∈ wordsL) (hf : formOf v = some f) (hl : es.length = f.cps.toList.length + 1) (h1 : (((es.zip (105 :: f.cps.toList)).map fun q => entryText q.1 q.2).zip (105 :: f.cps.toList)).map (fun q => entryOf q.1 q.2) = es)
    (h2 : ∀ p ∈ (es.zip (105 :: f.cps.toList)).map (fun q => entryText q.1 q.2), 32 ∉ p.cps.toList) (hk : okD v es f = true) : deedOf (deedText v es f) = .tup (.str v :: es) := by
  have e : Txt.split (deedText v es f) " " = deedWords v es f := by
    refine TL.split_join (s := 32) (S := []) (by decide +kernel) (by decide +kernel) (by unfold deedWords; simp) fun p hp => ?_
    unfold deedWords at hp
    rcases List.mem_cons.mp hp with rfl | hp
    · exact word_no hv
    · exact h2 p hp
  have e2 : entriesOf ((es.zip (105 :: f.cps.toList)).map fun q => entryText q.1 q.2) f = es := h1
  have el : ((es.zip (105 :: f.cps.toList)).map fun q => entryText q.1 q.2).length = f.cps.toList.length + 1 := by
    rw [List.length_map, List.length_zip, List.length_cons, hl, Nat.min_self]
  unfold deedOf
  rw [e]
  show (match formOf v with
    | some f' => _
    | none => _) = _
  rw [hf]
  show (if _ ∧ okD v (entriesOf ((es.zip (105 :: f.cps.toList)).map fun q => entryText q.1 q.2) f) f = true ∧ _ then _ else _) = _
  rw [e2, if_pos ⟨el, hk, rfl⟩]
/-- THE PLAIN LAW: a drawn deed's text, read -/
theorem law_plain {v f : Str} {es es' : List Da} (h : LawD v f es es') : v ∈ wordsL ∧ formOf v = some f ∧ okD v es f = true ∧ okD v es' f = true ∧ deedText v es f = deedText v es' f ∧ deedOf (deedText v es' f) = .tup (.str v :: es') ∧ (deedText v es' f).length ≤ 1000 := by
  rcases h with ⟨hf, hv, he, rfl⟩ | ⟨rfl, rfl, i, j, tu, rows, hi, hj, hm, rfl, rfl⟩
  · obtain ⟨h1, h2, h3, h4, h5⟩ := he.read
    have hl := he.len
    rw [List.length_cons] at hl
    have hk : okD v es' f = true := by
      unfold okD
      rw [h4, decide_eq_false (fun z => h5 (List.mem_cons_of_mem _ z))]
      cases es' with
      | nil => exact he.elim
      | cons x es =>
        obtain ⟨i, rfl⟩ : ∃ i : Int, x = .int i := by
          rcases he.1 with ⟨_, i, _, rfl⟩ | ⟨z, _⟩ | ⟨z, _⟩ | ⟨z, _⟩
          · exact ⟨i, rfl⟩
          · cases z
          · cases z
          · cases z
        rw [deed_some hf]
        rw [List.zip_cons_cons, List.all_cons, Bool.and_eq_true] at h3
        rw [h3.2, decide_eq_true (by simpa using hl)]
        rfl
    refine ⟨hv, hf, hk, hk, rfl, deed_read hv hf hl h1 h2 hk, ?_⟩
    have h6 := join_len " " (deedWords v es' f)
    have h7 := he.words
    have h8 := sum_le (f := fun x : Str => x.length) (k := 61) (l := deedWords v es' f) (fun p hp => by
      unfold deedWords at hp
      rcases List.mem_cons.mp hp with rfl | hp
      · have := (word_len hv).2; omega
      · rw [← h7.1] at hp
        obtain ⟨e, he, rfl⟩ := List.mem_map.mp hp
        exact (h7.2 e he).1)
    have e1 : (" " : Str).length = 1 := by decide +kernel
    have e2 : (deedWords v es' f).length ≤ 5 := by
      unfold deedWords
      rw [List.length_cons, List.length_map, List.length_zip, List.length_cons]
      have : f.cps.toList.length ≤ 3 := form_len hf
      omega
    rw [e1] at h6
    show (Txt.join " " (deedWords v es' f)).length ≤ _
    omega
  · have e1 : ("ir" : Str).cps.toList = [105, 114] := by decide +kernel
    have ef : formOf "map" = some "ir" := by decide +kernel
    have en : ∀ rs : List Rg, inOrder rs = rows → entryText (.lst (rs.map rg)) 114 = rangesText rows := fun rs hr => by
      show (match rgsOf (rs.map rg) with
        | some rs => if (114 : Nat) = 114 then rangesText (inOrder rs) else ""
        | none => "") = _
      rw [rgsOf_map]
      show (if (114 : Nat) = 114 then rangesText (inOrder rs) else "") = _
      rw [if_pos rfl, hr]
    have ew : ∀ rs : List Rg, inOrder rs = rows → deedWords "map" [.int i, .int j, .lst (rs.map rg)] "ir" = [("map" : Str), num i, num j, rangesText rows] := fun rs hr => by
      unfold deedWords
      rw [e1]
      show _ :: [num i, num j, entryText (.lst (rs.map rg)) 114] = _
      rw [en rs hr]
    have ok : ∀ rs : List Rg, mapR rs = true → rs.length ≤ 6 → rs ≠ [] → okD "map" [.int i, .int j, .lst (rs.map rg)] "ir" = true := fun rs hr hl hn => by
      have h1 : ((rs.map rg).length : Int) ≤ 50 := by rw [List.length_map]; omega
      have h2 : 1 ≤ ((rs.map rg).length : Int) := by
        rw [List.length_map]
        have := List.length_pos_iff.mpr hn
        omega
      have h3 : areB (.lst (rs.map rg)) = true := by
        show (decide (1 ≤ ((rs.map rg).length : Int)) && decide (((rs.map rg).length : Int) ≤ 50) && mapB (rs.map rg)) = true
        rw [decide_eq_true h1, decide_eq_true h2]
        unfold mapB
        rw [rgsOf_map]
        exact hr
      unfold okD
      rw [deed_some ef, e1]
      show (true && (shortD (.int i) && (shortD (.int j) && true)) && (false || areB (.lst (rs.map rg)))) = true
      rw [abs_short hi, abs_short hj, h3]
      rfl
    have k1 := ok tu hm.1 hm.2.2.2.2.2.1 hm.2.2.2.2.2.2.2.1
    have k2 := ok rows hm.2.2.1 hm.2.2.2.2.2.2.1 hm.2.2.2.2.1
    have hro := (mapR_ok hm.2.2.1).2
    have et : ∀ rs : List Rg, inOrder rs = rows → deedText "map" [.int i, .int j, .lst (rs.map rg)] "ir" = Txt.join " " [("map" : Str), num i, num j, rangesText rows] := fun rs hr => by
      unfold deedText
      rw [ew rs hr]
    have ez : ([Da.int i, .int j, .lst (rows.map rg)].zip (105 :: ("ir" : Str).cps.toList)).map (fun q => entryText q.1 q.2) = [num i, num j, rangesText rows] := by
      rw [e1]
      show [num i, num j, entryText (.lst (rows.map rg)) 114] = _
      rw [en rows hm.2.2.2.1]
    refine ⟨by decide +kernel, ef, k1, k2, by rw [et tu hm.2.1, et rows hm.2.2.2.1], deed_read (by decide +kernel) ef (by rw [e1]; rfl) ?_ ?_ k2, ?_⟩
    · rw [ez, e1]
      have r1 : entryOf (num i) 105 = .int i := (ent_read (c := 105) (.inl ⟨rfl, i, hi, rfl⟩)).1
      have r2 : entryOf (num j) 105 = .int j := (ent_read (c := 105) (.inl ⟨rfl, j, hj, rfl⟩)).1
      have r3 : entryOf (rangesText rows) 114 = .lst (rows.map rg) := ranges_read hro hm.2.2.2.2.1
      show [entryOf (num i) 105, entryOf (num j) 105, entryOf (rangesText rows) 114] = _
      rw [r1, r2, r3]
    · rw [ez]
      intro p hp hm2
      simp only [List.mem_cons, List.not_mem_nil, or_false] at hp
      rcases hp with rfl | rfl | rfl
      · have := num_mem hm2; omega
      · have := num_mem hm2; omega
      · have := ranges_mem hm2; omega
    · rw [et rows hm.2.2.2.1]
      have h6 := join_len " " [("map" : Str), num i, num j, rangesText rows]
      have h7 := rangesText_len hro hm.2.2.2.2.2.2.1
      have h8 := (num_ok hi).2
      have h9 := (num_ok hj).2
      have e3 : ("map" : Str).length = 3 := by decide +kernel
      have e4 : (" " : Str).length = 1 := by decide +kernel
      rw [e4] at h6
      simp only [List.map_cons, List.map_nil, List.sum_cons, List.sum_nil, List.length_cons, List.length_nil, e3] at h6
      omega

end
end G

set_option maxHeartbeats 4000000
namespace G
open PySem PySem.Spec PyProof.Rows L2

local macro_rules | `(tactic| walk_at "go") => `(tactic| ((conv => whnf); repeat ((first | refine isi_of (by first | assumption | exact trivial) ?_ | rw [Sto.put_same] | refine And.intro (by first | exact rfl | exact trivial | exact Nat.le_of_ble_eq_true rfl) ?_); (conv => whnf))))
local macro_rules | `(tactic| walk_at "wk") => `(tactic| ((repeat (walk_at "go"; first | refine optK_of (by first | assumption | exact Sto.put_same) ?_ | refine And.intro (by show (0 : Int) < _; decide) ?_ | refine And.intro (And.intro (by show (0 : Int) < _; decide) (by decide)) ?_ | refine And.intro (show CPow _ _ from ⟨by decide, by decide, by decide⟩) ?_)); try walk_at "go"))

section
variable {w : World} {K : PySem.W.Frag} {mg : Str → Option Value} {base : Heap}
/-! what a deed shows -/
structure Gd (p : PyData) (n k : Nat) : Prop where
  lay : p.canLay0 = true
  sh : p.showable = true
  nd : p.hasDict = false
  dp : p.depth ≤ k
  lv : p.intsShort 62 = true
  wt : p.weight ≤ n
theorem Gd.mono {p : PyData} {n k n' k' : Nat} (h : Gd p n k) (h1 : n ≤ n') (h2 : k ≤ k') : Gd p n' k' := ⟨h.lay, h.sh, h.nd, Nat.le_trans h.dp h2, h.lv, Nat.le_trans h.wt h1⟩
theorem Gd.non : Gd .none 0 0 := ⟨rfl, rfl, rfl, Nat.le_refl _, rfl, Nat.le_refl _⟩
theorem Gd.int {i : Int} (h : i.natAbs < 10 ^ 60) : Gd (.int i) 300 0 := by
  obtain ⟨h1, h2⟩ := num_ok h
  refine ⟨rfl, decide_eq_true h1, rfl, Nat.le_refl _, decide_eq_true (Nat.le_trans h2 (by decide)), ?_⟩
  show (if (i == 0) = true then 0 else i.natAbs.log2 + 1) ≤ 300
  split
  · omega
  · rename_i c
    have c : i.natAbs ≠ 0 := fun z => c (by simp; omega)
    have := (Nat.log2_lt (k := 200) c).mpr (Nat.lt_trans h (by decide))
    omega
theorem Gd.str {z : Str} (h : PyData.strOk z = true) (hl : z.length ≤ 300) : Gd (.str z) 300 0 := ⟨h, rfl, rfl, Nat.le_refl _, rfl, hl⟩
theorem Gd.all {n k : Nat} : ∀ {ps : List PyData}, (∀ p ∈ ps, Gd p n k) → PyData.canLayAll0 ps = true ∧ PyData.showableAll ps = true ∧ PyData.hasDictAll ps = false ∧ PyData.depthAll ps ≤ k ∧ PyData.intsShortAll 62 ps = true ∧ PyData.weightAll ps ≤ ps.length * (n + 1)
  | [], _ => ⟨rfl, rfl, rfl, Nat.zero_le _, rfl, Nat.zero_le _⟩
  | p :: ps, h => by
    have g := h p (by simp)
    obtain ⟨a, b, c, d, e, f⟩ := Gd.all (ps := ps) fun q hq => h q (List.mem_cons_of_mem _ hq)
    refine ⟨by simp only [PyData.canLayAll0, g.lay, a, Bool.and_self], by simp only [PyData.showableAll, g.sh, b, Bool.and_self], by simp only [PyData.hasDictAll, g.nd, c, Bool.or_self], ?_, by simp only [PyData.intsShortAll, g.lv, e, Bool.and_self], ?_⟩
    · simp only [PyData.depthAll]
      exact Nat.max_le.mpr ⟨g.dp, d⟩
    · have := g.wt
      simp only [PyData.weightAll, List.length_cons, Nat.add_mul, Nat.one_mul]
      omega
theorem Gd.list {n k : Nat} {ps : List PyData} (h : ∀ p ∈ ps, Gd p n k) : Gd (.list ps) (ps.length * (n + 1)) (k + 1) := by
  obtain ⟨a, b, c, d, e, f⟩ := Gd.all h
  exact ⟨by simpa only [PyData.canLay0] using a, by simpa only [PyData.showable] using b, by simpa only [PyData.hasDict] using c, by simp only [PyData.depth]; omega, by simpa only [PyData.intsShort] using e, by simpa only [PyData.weight] using f⟩
theorem Gd.tuple {n k : Nat} {ps : List PyData} (h : ∀ p ∈ ps, Gd p n k) : Gd (.tuple ps) (ps.length * (n + 1)) (k + 1) := by
  obtain ⟨a, b, c, d, e, f⟩ := Gd.all h
  exact ⟨by simpa only [PyData.canLay0] using a, by simpa only [PyData.showable] using b, by simpa only [PyData.hasDict] using c, by simp only [PyData.depth]; omega, by simpa only [PyData.intsShort] using e, by simpa only [PyData.weight] using f⟩
theorem Gd.fits {p : PyData} {n k : Nat} (h : Gd p n k) (hn : n ≤ 100000) (hk : k ≤ 10) : p.shown.length ≤ sizeLine ∧ p.depth ≤ 60 ∧ SeqAt.shaped p = true ∧ PyData.eqv p p = true := by
  refine ⟨?_, by have := h.dp; omega, ?_, SeqAt.eqv_refl p h.lay⟩
  · have h2 := PyData.shown_le 62 (by decide) p (PyData.leavesShort_of_canLay0 62 p h.lay h.lv)
    have := h.wt
    have e : sizeLine = 16777216 := by decide
    omega
  · unfold SeqAt.shaped
    rw [h.lay, Bool.true_and]
    exact decide_eq_true (by have := h.dp; omega)
/-- the library's data of an entry -/
def rgP (r : Rg) : PyData := .tuple [.int r.1, .int r.2.1, .int r.2.2]
def pdE : Da → PyData
  | .int i => .int i
  | .str z => .str z
  | .lst ds => match rgsOf ds with
    | some rs => .list (rs.map rgP)
    | none => .none
  | _ => .none
theorem pdE_lst (rs : List Rg) : pdE (.lst (rs.map rg)) = .list (rs.map rgP) := by
  show (match rgsOf (rs.map rg) with
    | some rs => PyData.list (rs.map rgP)
    | none => .none) = _
  rw [rgsOf_map]
theorem pysM_rg (m : Sto) : ∀ rs : List Rg, pysM m (rs.map rg) = some (rs.map rgP)
  | [] => rfl
  | r :: rs => by
    have h := pysM_rg m rs
    simp only [List.map_cons, pysM, h]
    rfl
theorem gd_rows {rs : List Rg} (h : ∀ r ∈ rs, inB TOP TOP r) (hl : rs.length ≤ 6) : Gd (.list (rs.map rgP)) 10000 2 := by
  have h1 : ∀ p ∈ rs.map rgP, Gd p (3 * 301) 1 := fun p hp => by
    obtain ⟨r, hr, rfl⟩ := List.mem_map.mp hp
    have hb := h r hr
    unfold inB TOP at hb
    have h60 : (4294967296 : Nat) < 10 ^ 60 := by decide
    refine Gd.tuple (n := 300) (k := 0) fun q hq => ?_
    simp only [List.mem_cons, List.not_mem_nil, or_false] at hq
    rcases hq with rfl | rfl | rfl <;> exact Gd.int (Nat.lt_trans (by omega) h60)
  have h2 := Gd.list h1
  refine h2.mono ?_ (Nat.le_refl _)
  rw [List.length_map]
  calc _ ≤ 6 * (3 * 301 + 1) := Nat.mul_le_mul_right _ hl
    _ ≤ 10000 := by decide
/-- entries of drawn deeds -/
def EntG (e : Da) : Prop := e = .non ∨ (∃ i : Int, i.natAbs < 10 ^ 60 ∧ e = .int i) ∨ (∃ z : Str, PyData.strOk z = true ∧ z.length ≤ 8 ∧ e = .str z) ∨ ∃ rs : List Rg, (∀ r ∈ rs, inB TOP TOP r) ∧ rs.length ≤ 6 ∧ e = .lst (rs.map rg)
theorem EntG.py {e : Da} (h : EntG e) (m : Sto) : pyM m e = some (pdE e) ∧ Gd (pdE e) 10000 2 := by
  rcases h with rfl | ⟨i, hi, rfl⟩ | ⟨z, hz, hl, rfl⟩ | ⟨rs, hr, hl, rfl⟩
  · exact ⟨rfl, Gd.non.mono (by decide) (by decide)⟩
  · exact ⟨rfl, (Gd.int hi).mono (by decide) (by decide)⟩
  · exact ⟨rfl, (Gd.str hz (by omega)).mono (by decide) (by decide)⟩
  · rw [pdE_lst]
    refine ⟨?_, gd_rows hr hl⟩
    simp only [pyM, pysM_rg, Option.map_some]
theorem pys_ent {m : Sto} : ∀ {es : List Da}, (∀ e ∈ es, EntG e) → pysM m es = some (es.map pdE)
  | [], _ => rfl
  | e :: es, h => by
    simp only [pysM, ((h e (by simp)).py m).1, pys_ent (m := m) (es := es) fun x hx => h x (List.mem_cons_of_mem _ hx), List.map_cons]
/-- a deed's data -/
def pdD (v : Str) (es : List Da) : PyData := .tuple (.str v :: es.map pdE)
structure DeedG (v : Str) (es : List Da) : Prop where
  ent : ∀ e ∈ es, EntG e
  len : es.length ≤ 4
  word : PyData.strOk v = true ∧ v.length ≤ 8
theorem DeedG.py {v : Str} {es : List Da} (h : DeedG v es) (m : Sto) : pyM m (.tup (.str v :: es)) = some (pdD v es) := by
  have h1 := pys_ent (m := m) h.ent
  show (pysM m (.str v :: es)).map PyData.tuple = _
  have h2 : pysM m (.str v :: es) = some (.str v :: es.map pdE) := by
    simp only [pysM, h1]
    rfl
  rw [h2]
  rfl
theorem DeedG.gd {v : Str} {es : List Da} (h : DeedG v es) : Gd (pdD v es) 100000 3 := by
  have := Gd.tuple (n := 10000) (k := 2) (ps := .str v :: es.map pdE) fun p hp => by
    rcases List.mem_cons.mp hp with rfl | hp
    · exact (Gd.str h.word.1 (by have := h.word.2; omega)).mono (by decide) (by decide)
    · obtain ⟨e, he, rfl⟩ := List.mem_map.mp hp
      exact ((h.ent e he).py (fun _ => none)).2
  refine this.mono ?_ (Nat.le_refl _)
  rw [List.length_cons, List.length_map]
  calc _ ≤ 5 * (10000 + 1) := Nat.mul_le_mul_right _ (by have := h.len; omega)
    _ ≤ 100000 := by decide
theorem DeedG.ok {v : Str} {es : List Da} (h : DeedG v es) (m : Sto) : DeedOk m (.tup (.str v :: es)) ∧ rsvT m (.tup (.str v :: es)) = .tup (.str v :: es) := by
  have hv : v.length ≤ sizeLine := Nat.le_trans h.word.2 (by decide)
  have key : ∀ e ∈ es, Ok m e ∧ rsv m e = e ∧ ∀ l, listOf m e = some l → (∀ x ∈ l, Ok m x) ∧ l.length ≤ 100000 := fun e he => by
    rcases h.ent e he with rfl | ⟨i, hi, rfl⟩ | ⟨z, hz, hl, rfl⟩ | ⟨rs, hr, hl, rfl⟩
    · exact ⟨ok_non, rfl, fun l e => by cases e⟩
    · exact ⟨ok_int, rfl, fun l e => by cases e⟩
    · exact ⟨ok_str (Nat.le_trans hl (by decide)), rfl, fun l e => by cases e⟩
    · have := ok_rgs (m := m) (rs := rs) (by omega)
      exact ⟨.lst this.1 this.2, rfl, fun l e => by cases e; exact this⟩
  refine ⟨⟨.tup (fun d hd => ?_) ?_, fun ds e => ?_, fun ds l d e hd hl => ?_⟩, ?_⟩
  · rcases List.mem_cons.mp hd with rfl | hd
    · exact ok_str hv
    · exact (key d hd).1
  · rw [List.length_cons]; have := h.len; omega
  · cases e; rw [List.length_cons]; have := h.len; omega
  · cases e
    rcases List.mem_cons.mp hd with rfl | hd
    · cases hl
    · exact (key d hd).2.2 l hl
  · show Da.tup (rsv m (.str v) :: es.map (rsv m)) = _
    have e1 : es.map (rsv m) = es := by
      rw [List.map_congr_left (g := id) fun e he => (key e he).2.1, List.map_id]
    rw [e1]
    rfl
theorem law_good {v f : Str} {es es' : List Da} (h : LawD v f es es') : DeedG v es ∧ DeedG v es' := by
  have wd : ∀ v ∈ wordsL, PyData.strOk v = true ∧ v.length ≤ 8 := by decide +kernel
  rcases h with ⟨hf, hv, he, rfl⟩ | ⟨rfl, rfl, i, j, tu, rows, hi, hj, hm, rfl, rfl⟩
  · have key : ∀ {cs : List Nat} {es : List Da}, Ents cs es → ∀ e ∈ es, EntG e := by
      intro cs
      induction cs with
      | nil => intro es h; cases es with
        | nil => exact nofun
        | cons e es => exact h.elim
      | cons c cs ih => intro es h; cases es with
        | nil => exact h.elim
        | cons e es =>
          intro x hx
          rcases List.mem_cons.mp hx with rfl | hx
          · have nm : ∀ z ∈ names6, PyData.strOk z = true := by decide +kernel
            rcases h.1 with ⟨_, i, hi, rfl⟩ | ⟨_, rfl | ⟨i, hi, rfl⟩⟩ | ⟨_, z, hz, rfl⟩ | ⟨_, z, hz, rfl⟩
            · exact .inr (.inl ⟨i, hi, rfl⟩)
            · exact .inl rfl
            · exact .inr (.inl ⟨i, hi, rfl⟩)
            · exact .inr (.inr (.inl ⟨z, nm z hz, (name_len hz).2, rfl⟩))
            · refine .inr (.inr (.inl ⟨z, ?_, by have := bits_len hz; omega, rfl⟩))
              unfold PyData.strOk
              rw [← Array.all_toList, List.all_eq_true]
              intro c hc
              have mk : ∀ c ∈ MARKS.cps.toList, c < 0x110000 := by decide +kernel
              exact decide_eq_true (mk c (bits_mem hz hc))
          · exact ih h.2 x hx
    have g : DeedG v es' := ⟨key he, by rw [he.len, List.length_cons]; have : f.cps.toList.length ≤ 3 := form_len hf; omega, wd v hv⟩
    exact ⟨g, g⟩
  · have hb := hm.2.2.2.2.2.2.2.2
    refine ⟨⟨fun e he => ?_, by simp, by decide +kernel⟩, ⟨fun e he => ?_, by simp, by decide +kernel⟩⟩
    · simp only [List.mem_cons, List.not_mem_nil, or_false] at he
      rcases he with rfl | rfl | rfl
      · exact .inr (.inl ⟨i, hi, rfl⟩)
      · exact .inr (.inl ⟨j, hj, rfl⟩)
      · exact .inr (.inr (.inr ⟨tu, fun r hr => hb r (by simp [hr]), hm.2.2.2.2.2.1, rfl⟩))
    · simp only [List.mem_cons, List.not_mem_nil, or_false] at he
      rcases he with rfl | rfl | rfl
      · exact .inr (.inl ⟨i, hi, rfl⟩)
      · exact .inr (.inl ⟨j, hj, rfl⟩)
      · exact .inr (.inr (.inr ⟨rows, fun r hr => hb r (by simp [hr]), hm.2.2.2.2.2.2.1, rfl⟩))

end
end G

set_option maxHeartbeats 4000000
namespace G
open PySem PySem.Spec PyProof.Rows L2

local macro_rules | `(tactic| walk_at "go") => `(tactic| ((conv => whnf); repeat ((first | refine isi_of (by first | assumption | exact trivial) ?_ | rw [Sto.put_same] | refine And.intro (by first | exact rfl | exact trivial | exact Nat.le_of_ble_eq_true rfl) ?_); (conv => whnf))))
local macro_rules | `(tactic| walk_at "wk") => `(tactic| ((repeat (walk_at "go"; first | refine optK_of (by first | assumption | exact Sto.put_same) ?_ | refine And.intro (by show (0 : Int) < _; decide) ?_ | refine And.intro (And.intro (by show (0 : Int) < _; decide) (by decide)) ?_ | refine And.intro (show CPow _ _ from ⟨by decide, by decide, by decide⟩) ?_)); try walk_at "go"))

section
variable {w : World} {K : PySem.W.Frag} {mg : Str → Option Value} {base : Heap}
/-! the library's data of what was read -/
structure Lay (p : PyData) (k : Nat) : Prop where
  lay : p.canLay0 = true
  dp : p.depth ≤ k
def LayE (m : Sto) (k : Nat) (e : Da) : Prop := ∃ p, pyM m e = some p ∧ Lay p k
theorem layE_all {m : Sto} {k : Nat} : ∀ {es : List Da}, (∀ e ∈ es, LayE m k e) → ∃ ps, pysM m es = some ps ∧ PyData.canLayAll0 ps = true ∧ PyData.depthAll ps ≤ k
  | [], _ => ⟨[], rfl, rfl, Nat.zero_le _⟩
  | e :: es, h => by
    obtain ⟨p, h1, h2, h3⟩ := h e (by simp)
    obtain ⟨ps, g1, g2, g3⟩ := layE_all (es := es) fun x hx => h x (List.mem_cons_of_mem _ hx)
    refine ⟨p :: ps, by simp only [pysM, h1, g1], by simp only [PyData.canLayAll0, h2, g2, Bool.and_self], ?_⟩
    simp only [PyData.depthAll]
    exact Nat.max_le.mpr ⟨h3, g3⟩
theorem layE_tup {m : Sto} {k : Nat} {es : List Da} (h : ∀ e ∈ es, LayE m k e) : LayE m (k + 1) (.tup es) := by
  obtain ⟨ps, h1, h2, h3⟩ := layE_all h
  refine ⟨.tuple ps, ?_, by simpa only [PyData.canLay0] using h2, by simp only [PyData.depth]; omega⟩
  show (pysM m es).map PyData.tuple = _
  rw [h1]
  rfl
theorem LayE.mono {m : Sto} {k k' : Nat} {e : Da} (h : LayE m k e) (hk : k ≤ k') : LayE m k' e := by
  obtain ⟨p, h1, h2, h3⟩ := h
  exact ⟨p, h1, h2, Nat.le_trans h3 hk⟩
theorem layE_str {m : Sto} {z : Str} (h : PyData.strOk z = true) : LayE m 0 (.str z) := ⟨.str z, rfl, h, Nat.le_refl _⟩
theorem strOk_of {z : Str} (h : ∀ c ∈ z.cps.toList, c < 0x110000) : PyData.strOk z = true := by
  unfold PyData.strOk
  rw [← Array.all_toList, List.all_eq_true]
  intro c hc
  exact decide_eq_true (h c hc)
theorem lay_rows {rs : List Rg} (h : ∀ r ∈ rs, rgOk r = true) : Lay (.list (rs.map rgP)) 2 := by
  have h1 : ∀ p ∈ rs.map rgP, Gd p (3 * 301) 1 := fun p hp => by
    obtain ⟨r, hr, rfl⟩ := List.mem_map.mp hp
    obtain ⟨⟨a1, a2⟩, ⟨b1, b2⟩, c1, c2⟩ := ok_ints (h r hr)
    have h60 : (4294967296 : Nat) < 10 ^ 60 := by decide
    refine Gd.tuple (n := 300) (k := 0) fun q hq => ?_
    simp only [List.mem_cons, List.not_mem_nil, or_false] at hq
    rcases hq with rfl | rfl | rfl <;> exact Gd.int (Nat.lt_trans (by omega) h60)
  have h2 := Gd.list h1
  exact ⟨h2.lay, h2.dp⟩
theorem entry_lay {e : Da} {c : Nat} (h : entryD e c = true) (hs : shortD e = true) (hr : c = 114 → areB e = true) (m : Sto) : LayE m 2 e := by
  by_cases c4 : c = 114
  · obtain ⟨rs, rfl, hm, h1, h50⟩ := are_map (hr c4)
    have := lay_rows (mapR_ok hm).2
    exact ⟨_, by simp only [pyM, pysM_rg, Option.map_some], this⟩
  · have hi : ∀ {i : Int}, shortD (.int i) = true → LayE m 2 (.int i) := fun {i} h => ⟨.int i, rfl, (Gd.int (short_abs h)).lay, Nat.zero_le _⟩
    have hn : nameD e = true → LayE m 2 e := fun h => by
      cases e with
      | str z =>
        have h : (decide (1 ≤ (z.length : Int)) && decide ((z.length : Int) ≤ 8) && (z.cps.toList.all fun c => decide (c ∈ LETTERS.cps.toList))) = true := h
        simp only [Bool.and_eq_true, decide_eq_true_iff] at h
        have lt : ∀ c ∈ LETTERS.cps.toList, c < 0x110000 := by decide +kernel
        exact (layE_str (strOk_of fun c hc => lt c (of_decide_eq_true (List.all_eq_true.mp h.2 c hc)))).mono (by omega)
      | _ => cases h
    have hb : bitsD e = true → LayE m 2 e := fun h => by
      cases e with
      | str z =>
        have mk : ∀ c ∈ MARKS.cps.toList, c < 0x110000 := by decide +kernel
        exact (layE_str (strOk_of fun c hc => mk c (bits_mem h hc))).mono (by omega)
      | _ => cases h
    unfold entryD at h
    split at h
    · obtain ⟨i, rfl⟩ := whole_int h
      exact hi hs
    split at h
    · cases e with
      | non => exact ⟨.none, rfl, rfl, Nat.zero_le _⟩
      | int i => exact hi hs
      | _ => cases h
    split at h
    · exact hn h
    · exact hb h
theorem deed_lays {v f : Str} {es : List Da} (hf : formOf v = some f) (h : okD v es f = true) : ∀ e ∈ es, ∀ m, LayE m 2 e := by
  unfold okD at h
  simp only [Bool.and_eq_true] at h
  obtain ⟨⟨h1, h2⟩, h3⟩ := h
  cases es with
  | nil => exact nofun
  | cons y es =>
    rw [deed_some hf] at h1
    simp only [Bool.and_eq_true, decide_eq_true_iff] at h1
    obtain ⟨⟨h4, h5⟩, h6⟩ := h1
    have hsh : ∀ e ∈ y :: es, shortD e = true := fun e he => List.all_eq_true.mp h2 e he
    intro e he m
    rcases List.mem_cons.mp he with rfl | he'
    · exact entry_lay (c := 105) h5 (hsh e (by simp)) (fun z => nomatch z) m
    · obtain ⟨k, hk⟩ := List.mem_iff_getElem?.mp he'
      have hk2 : k < f.cps.toList.length := by
        have := (List.getElem?_eq_some_iff.mp hk).1
        omega
      have hz : (es.zip f.cps.toList)[k]? = some (e, f.cps.toList[k]) := by
        rw [List.getElem?_zip_eq_some]
        exact ⟨hk, List.getElem?_eq_getElem hk2⟩
      have hq := List.mem_of_getElem? hz
      refine entry_lay (List.all_eq_true.mp h6 _ hq) (hsh e he) (fun z => ?_) m
      have hz2 : f.cps.toList[k]? = some 114 := by rw [List.getElem?_eq_getElem hk2]; exact congrArg some z
      have k1 := form_r hf hz2
      have hmem : 114 ∈ f.cps.toList := List.mem_of_getElem? hz2
      rw [decide_eq_true hmem] at h3
      have h3 : areB ((y :: es).getD 2 .non) = true := h3
      rw [List.getD_eq_getElem?_getD] at h3
      have e2 : (y :: es)[2]? = some e := by rw [k1] at hk; exact hk
      rw [e2] at h3
      exact h3
theorem word_ok {v f : Str} (hf : formOf v = some f) : PyData.strOk v = true := by
  have key : ∀ l : List (Str × Str), (∀ q ∈ l, PyData.strOk q.1 = true) → l.lookup v = some f → PyData.strOk v = true := by
    intro l
    induction l with
    | nil => intro _ h; cases h
    | cons q l ih =>
      intro hl h
      simp only [List.lookup] at h
      cases e : v == q.1 with
      | true =>
        have e2 : v = q.1 := by simpa using e
        rw [e2]
        exact hl q (by simp)
      | false => rw [e] at h; exact ih (fun x hx => hl x (List.mem_cons_of_mem _ hx)) h
  exact key forms (by decide +kernel) hf
/-! what was read, told to deed_text -/
theorem out_deed {z : Str} (hl : z.length ≤ 9000) {m : Sto} {R : Rk} (hd : isN (deedOf z) = false) (k : ∀ ds m2, DeedOk m2 (.tup ds) → deedT (rsvT m2 (.tup ds)) = some z → LayE m2 3 (.tup ds) → (m2 = m ∨ ∃ q c, m q = none ∧ m2 = m.put q (.lst c)) → R (.tup ds) m2) : outT (deedOf z) m R := by
  obtain ⟨b1, b2⟩ := split_bound (x := z) (y := " ") (by decide +kernel) hl
  unfold deedOf at hd ⊢
  cases hs : Txt.split z " " with
  | nil => rw [hs] at hd; cases hd
  | cons v ws =>
    rw [hs] at hd b2 b1
    dsimp only at hd ⊢
    cases hf : formOf v with
    | none => rw [hf] at hd; cases hd
    | some f =>
      rw [hf] at hd
      dsimp only at hd ⊢
      by_cases c : ws.length = f.cps.toList.length + 1 ∧ okD v (entriesOf ws f) f = true ∧ deedText v (entriesOf ws f) f = z
      · rw [if_pos c]
        clear hd
        have hw9 : ∀ p ∈ ws, p.length ≤ 10000 := fun p hp => by have := b2 p (by simp [hp]); omega
        have hv : v.length ≤ sizeLine := Nat.le_trans (b2 v (by simp)) (by decide)
        have hme : ∀ e ∈ entriesOf ws f, ∃ p c, p.length ≤ 10000 ∧ e = entryOf p c := fun e he => by
          unfold entriesOf at he
          obtain ⟨q, hq, rfl⟩ := List.mem_map.mp he
          exact ⟨q.1, q.2, hw9 _ (List.of_mem_zip hq).1, rfl⟩
        have hel : (entriesOf ws f).length ≤ 4 := by
          unfold entriesOf
          rw [List.length_map, List.length_zip, List.length_cons]
          have := form_len hf
          have h3 : f.cps.toList.length ≤ 3 := this
          omega
        have hok : ∀ (m' : Sto) e, e ∈ entriesOf ws f → Ok m' e ∧ rsv m' e = e ∧ ∀ l, listOf m' e = some l → (∀ x ∈ l, Ok m' x) ∧ l.length ≤ 100000 := fun m' e he => by
          obtain ⟨p, c, hp, rfl⟩ := hme e he
          have o := entryOf_ok (m := m') (c := c) hp
          have na := entryOf_noadr (w := p) (c := c)
          generalize entryOf p c = d at o na
          cases d with
          | adr a => exact absurd rfl (na a)
          | lst l => exact ⟨o, rfl, fun l' e => by
              cases e
              cases o with
              | lst h1 h2 => exact ⟨h1, h2⟩
              | sc h1 h2 h3 h4 => exact absurd rfl (h3 _)⟩
          | _ => exact ⟨o, rfl, fun l' e => by cases e⟩
        have eT : ∀ (m' : Sto) (es : List Da), es.map (rsv m') = entriesOf ws f → deedT (rsvT m' (.tup (.str v :: es))) = some z := fun m' es he => by
          show deedT (.tup (.str v :: es.map (rsv m'))) = _
          rw [he, deedT_eq hf, if_pos c.2.1, c.2.2]
        have lays := deed_lays hf c.2.1
        have lv : ∀ m', LayE m' 2 (.str v) := fun m' => (layE_str (word_ok hf)).mono (by omega)
        unfold outT
        split
        · rename_i a b c' l eq
          injection eq with eq
          injection eq with e1 e2
          subst e1
          have hb := fun m' => hok m' b (by rw [e2]; simp)
          have hc := fun m' => hok m' c' (by rw [e2]; simp)
          have hl := fun m' => hok m' (.lst l) (by rw [e2]; simp)
          intro q hq
          have hlq : listOf (m.put q (.lst l)) (.adr q) = some l := by simp only [listOf, Sto.put_same]
          refine k _ _ ⟨.tup (fun d hd => ?_) (by simp), fun ds e => by cases e; simp, fun ds l' d e hd h => ?_⟩ (eT _ _ ?_) (layE_tup fun d hd => ?_) (.inr ⟨q, l, hq, rfl⟩)
          · simp only [List.mem_cons, List.not_mem_nil, or_false] at hd
            rcases hd with rfl | rfl | rfl | rfl
            · exact ok_str hv
            · exact (hb _).1
            · exact (hc _).1
            · exact .sc ⟨_, Sto.put_same, rfl⟩ (fun _ => nofun) (fun _ => nofun) (fun _ => nofun)
          · cases e
            simp only [List.mem_cons, List.not_mem_nil, or_false] at hd
            rcases hd with rfl | rfl | rfl | rfl
            · cases h
            · exact (hb _).2.2 _ h
            · exact (hc _).2.2 _ h
            · rw [hlq] at h
              cases h
              exact (hl _).2.2 _ rfl
          · rw [e2]
            simp only [List.map_cons, List.map_nil, (hb _).2.1, (hc _).2.1, rsv_lst hlq]
          · simp only [List.mem_cons, List.not_mem_nil, or_false] at hd
            rcases hd with rfl | rfl | rfl | rfl
            · exact lv _
            · exact lays _ (by rw [e2]; simp) _
            · exact lays _ (by rw [e2]; simp) _
            · obtain ⟨p, hp, hlay⟩ := lays (.lst l) (by rw [e2]; simp) m
              obtain ⟨w', c0, hw', eq⟩ := hme (.lst l) (by rw [e2]; simp)
              by_cases c114 : c0 = 114
              · subst c114
                have eq : Da.lst l = rangesOf w' := eq
                unfold rangesOf at eq
                split at eq
                · rename_i rs _
                  injection eq with eq
                  subst eq
                  have e3 : pyM m (.lst (rs.map rg)) = some (.list (rs.map rgP)) := by simp only [pyM, pysM_rg, Option.map_some]
                  rw [e3] at hp
                  cases hp
                  exact ⟨_, py_rows (rs := rs) Sto.put_same, hlay⟩
                · cases eq
              · exact absurd eq.symm (entry_nolst c114 l)
        · refine k _ _ ⟨.tup (fun d hd => ?_) (by rw [List.length_cons]; omega), fun ds e => by cases e; rw [List.length_cons]; omega, fun ds l' d e hd h => ?_⟩ (eT _ _ ?_) (layE_tup fun d hd => ?_) (.inl rfl)
          · rcases List.mem_cons.mp hd with rfl | hd
            · exact ok_str hv
            · exact (hok _ d hd).1
          · cases e
            rcases List.mem_cons.mp hd with rfl | hd
            · cases h
            · exact (hok _ d hd).2.2 _ h
          · rw [List.map_congr_left (g := fun d => d) (fun d hd => (hok _ d hd).2.1), List.map_id']
          · rcases List.mem_cons.mp hd with rfl | hd
            · exact lv _
            · exact lays _ hd _
      · rw [if_neg c] at hd; cases hd
/-! the text of fifty-one ranges, and of fifty -/
def rowsN (n : Nat) : List Rg := (List.range n).map fun (k : Nat) => ((3 * (k : Int), 2 * (k : Int), (1 : Int)) : Rg)
theorem rowsN_text (n : Nat) : Txt.join "," ((List.range n).map moreS) = rangesText (rowsN n) := by
  unfold rangesText rowsN
  rw [List.map_map]
  congr 1
theorem rowsN_ok {n : Nat} (h : n ≤ 51) : ∀ r ∈ rowsN n, rgOk r = true := fun r hr => by
  obtain ⟨k, hk, rfl⟩ := List.mem_map.mp hr
  have := List.mem_range.mp hk
  unfold rgOk runI TOP
  simp
  omega
theorem map_split {rows : List Rg} (h : ∀ r ∈ rows, rgOk r = true) : Txt.split (("map 0 1 " : Str) ++ rangesText rows) " " = ([("map" : Str), "0", "1", rangesText rows] : List Str) := by
  have e : ("map 0 1 " : Str) ++ rangesText rows = Txt.join " " ([("map" : Str), "0", "1", rangesText rows] : List Str) := by
    apply TL.ext_tl
    rw [TL.tl_append, TL.join_eq, TL.tl_join]
    have : TL.tl "map 0 1 " = TL.tl "map" ++ TL.tl " " ++ TL.tl "0" ++ TL.tl " " ++ TL.tl "1" ++ TL.tl " " := by decide +kernel
    rw [this]
    simp [TL.joinL, List.append_assoc]
  rw [e]
  refine TL.split_join (s := 32) (S := []) (by decide +kernel) (by decide +kernel) (by simp) fun p hp hm => ?_
  simp only [List.mem_cons, List.not_mem_nil, or_false] at hp
  rcases hp with rfl | rfl | rfl | rfl
  · revert hm; decide +kernel
  · revert hm; decide +kernel
  · revert hm; decide +kernel
  · have := ranges_mem hm; omega
theorem map_len {n : Nat} {rows : List Rg} (h : ∀ r ∈ rows, rgOk r = true) (hn : rows.length ≤ n) : (("map 0 1 " : Str) ++ rangesText rows).length ≤ n * 34 + 8 := by
  have h1 := rangesText_len h hn
  have h2 : ("map 0 1 " : Str).length = 8 := by decide +kernel
  rw [Str.length_append, h2]
  omega
theorem deed_many {rows : List Rg} (hr : ∀ r ∈ rows, rgOk r = true) (hn : rows ≠ []) (hl : 50 < rows.length) : isN (deedOf (("map 0 1 " : Str) ++ rangesText rows)) = true := by
  have e1 : ("ir" : Str).cps.toList = [105, 114] := by decide +kernel
  have ef : formOf "map" = some ("ir" : Str) := by decide +kernel
  unfold deedOf
  rw [map_split hr]
  dsimp only
  rw [ef]
  dsimp only
  have e3 : entryOf (rangesText rows) 114 = .lst (rows.map rg) := ranges_read hr hn
  have ee : entriesOf ([("0" : Str), "1", rangesText rows] : List Str) "ir" = [entryOf "0" 105, entryOf "1" 105, .lst (rows.map rg)] := by
    unfold entriesOf
    rw [e1, ← e3]
    rfl
  have ha : areB (.lst (rows.map rg)) = false := by
    have : ¬ ((rows.map rg).length : Int) ≤ 50 := by rw [List.length_map]; omega
    unfold areB
    dsimp only
    rw [decide_eq_false this, Bool.and_false, Bool.false_and]
  rw [ee]
  have hk : okD "map" [entryOf "0" 105, entryOf "1" 105, .lst (rows.map rg)] "ir" = false := by
    unfold okD
    rw [e1]
    show (_ && _ && (false || areB (.lst (rows.map rg)))) = false
    rw [ha]
    exact Bool.and_false _
  rw [hk]
  rw [if_neg (fun h => by cases h.2.1)]
  rfl
theorem deed_few {rows : List Rg} (hr : ∀ r ∈ rows, rgOk r = true) (hn : rows ≠ []) (hl : rows.length ≤ 50) (m1 : mapR rows = true) (m2 : inOrder rows = rows) : deedOf (("map 0 1 " : Str) ++ rangesText rows) = .tup [.str "map", .int 0, .int 1, .lst (rows.map rg)] := by
  have e1 : ("ir" : Str).cps.toList = [105, 114] := by decide +kernel
  have ef : formOf "map" = some ("ir" : Str) := by decide +kernel
  have e3 : entryOf (rangesText rows) 114 = .lst (rows.map rg) := ranges_read hr hn
  have e4 : entryOf "0" 105 = .int 0 := by rfl
  have e5 : entryOf "1" 105 = .int 1 := by rfl
  unfold deedOf
  rw [map_split hr]
  dsimp only
  rw [ef]
  dsimp only
  have ee : entriesOf ([("0" : Str), "1", rangesText rows] : List Str) "ir" = [.int 0, .int 1, .lst (rows.map rg)] := by
    unfold entriesOf
    rw [e1, ← e3, ← e4, ← e5]
    rfl
  have en : entryText (.lst (rows.map rg)) 114 = rangesText rows := by
    show (match rgsOf (rows.map rg) with
      | some rs => if (114 : Nat) = 114 then rangesText (inOrder rs) else ""
      | none => "") = _
    rw [rgsOf_map]
    show (if (114 : Nat) = 114 then rangesText (inOrder rows) else "") = _
    rw [if_pos rfl, m2]
  have ha : areB (.lst (rows.map rg)) = true := by
    have h1 : 1 ≤ ((rows.map rg).length : Int) := by
      rw [List.length_map]
      have := List.length_pos_iff.mpr hn
      omega
    have h2 : ((rows.map rg).length : Int) ≤ 50 := by rw [List.length_map]; omega
    unfold areB
    dsimp only
    rw [decide_eq_true h1, decide_eq_true h2]
    unfold mapB
    rw [rgsOf_map]
    exact m1
  have hk : okD "map" [.int 0, .int 1, .lst (rows.map rg)] "ir" = true := by
    unfold okD
    rw [deed_some ef, e1]
    show (true && true && (false || areB (.lst (rows.map rg)))) = true
    rw [ha]
    rfl
  have ht : deedText "map" [.int 0, .int 1, .lst (rows.map rg)] "ir" = ("map 0 1 " : Str) ++ rangesText rows := by
    unfold deedText deedWords
    rw [e1]
    show Txt.join " " [("map" : Str), num 0, num 1, entryText (.lst (rows.map rg)) 114] = _
    rw [en, show num 0 = "0" by decide +kernel, show num 1 = "1" by decide +kernel]
    apply TL.ext_tl
    rw [TL.tl_append, TL.join_eq, TL.tl_join]
    have : TL.tl "map 0 1 " = TL.tl "map" ++ TL.tl " " ++ TL.tl "0" ++ TL.tl " " ++ TL.tl "1" ++ TL.tl " " := by decide +kernel
    rw [this]
    simp [TL.joinL, List.append_assoc]
  rw [ee, if_pos ⟨by rw [e1]; rfl, hk, ht⟩]

end
end G

set_option maxHeartbeats 4000000
namespace G
open PySem PySem.Spec PyProof.Rows L2

local macro_rules | `(tactic| walk_at "go") => `(tactic| ((conv => whnf); repeat ((first | refine isi_of (by first | assumption | exact trivial) ?_ | rw [Sto.put_same] | refine And.intro (by first | exact rfl | exact trivial | exact Nat.le_of_ble_eq_true rfl) ?_); (conv => whnf))))
local macro_rules | `(tactic| walk_at "wk") => `(tactic| ((repeat (walk_at "go"; first | refine optK_of (by first | assumption | exact Sto.put_same) ?_ | refine And.intro (by show (0 : Int) < _; decide) ?_ | refine And.intro (And.intro (by show (0 : Int) < _; decide) (by decide)) ?_ | refine And.intro (show CPow _ _ from ⟨by decide, by decide, by decide⟩) ?_)); try walk_at "go"))

section
variable {w : World} {K : PySem.W.Frag} {mg : Str → Option Value} {base : Heap}
/-! sorting by insertion, for the kernel to evaluate -/
def insO {α : Type} (le : α → α → Bool) (a : α) : List α → List α
  | [] => [a]
  | b :: r => if le a b = true then a :: b :: r else b :: insO le a r
def sortI {α : Type} (le : α → α → Bool) : List α → List α
  | [] => []
  | a :: l => insO le a (sortI le l)
theorem insO_split {α : Type} {le : α → α → Bool} {a : α} {l2 : List α} (h2 : ∀ c ∈ l2, le a c = true) : ∀ l1 : List α, (∀ b ∈ l1, (!le a b) = true) → insO le a (l1 ++ l2) = l1 ++ a :: l2
  | [], _ => by
    cases l2 with
    | nil => rfl
    | cons c r => show (if le a c = true then _ else _) = _; rw [if_pos (h2 c List.mem_cons_self)]; rfl
  | b :: r, h => by
    have hb := h b List.mem_cons_self
    show (if le a b = true then _ else b :: insO le a (r ++ l2)) = _
    rw [if_neg (fun e => by rw [e] at hb; cases hb), insO_split h2 r (fun x hx => h x (List.mem_cons_of_mem _ hx))]
    rfl
theorem sort_eq {α : Type} {le : α → α → Bool} (tr : ∀ a b c : α, le a b = true → le b c = true → le a c = true) (tt : ∀ a b : α, (le a b || le b a) = true) : ∀ l : List α, l.mergeSort le = sortI le l
  | [] => List.mergeSort_nil
  | a :: l => by
    obtain ⟨l1, l2, h1, h2, h3⟩ := List.mergeSort_cons tr tt a l
    have hp := List.pairwise_mergeSort tr tt (a :: l)
    rw [h1] at hp
    have hc := (List.pairwise_cons.mp (List.pairwise_append.mp hp).2.1).1
    rw [h1]
    show _ = insO le a (sortI le l)
    rw [← sort_eq tr tt l, h2, insO_split hc l1 h3]

end
end G

set_option maxHeartbeats 4000000
namespace G
open PySem PySem.Spec PyProof.Rows L2

local macro_rules | `(tactic| walk_at "go") => `(tactic| ((conv => whnf); repeat ((first | refine isi_of (by first | assumption | exact trivial) ?_ | rw [Sto.put_same] | refine And.intro (by first | exact rfl | exact trivial | exact Nat.le_of_ble_eq_true rfl) ?_); (conv => whnf))))
local macro_rules | `(tactic| walk_at "wk") => `(tactic| ((repeat (walk_at "go"; first | refine optK_of (by first | assumption | exact Sto.put_same) ?_ | refine And.intro (by show (0 : Int) < _; decide) ?_ | refine And.intro (And.intro (by show (0 : Int) < _; decide) (by decide)) ?_ | refine And.intro (show CPow _ _ from ⟨by decide, by decide, by decide⟩) ?_)); try walk_at "go"))

section
variable {w : World} {K : PySem.W.Frag} {mg : Str → Option Value} {base : Heap}
/-! maps of two or more ranges among the texts written by hand -/
theorem sortR (l : List Rg) : l.mergeSort leR = sortI leR l := sort_eq (fun a b c => by unfold leR; simp only [decide_eq_true_iff]; omega) (fun a b => by unfold leR; simp only [Bool.or_eq_true, decide_eq_true_iff]; omega) l
theorem sortP (l : List (Int × Int)) : l.mergeSort leP = sortI leP l := sort_eq (fun a b c => by unfold leP; simp only [decide_eq_true_iff]; omega) (fun a b => by unfold leP; simp only [Bool.or_eq_true, decide_eq_true_iff]; omega) l
theorem hand_maps : (((handL.drop 49).take 4 ++ (handL.drop 58).take 4).all fun z => isN (deedOf z) && Nat.ble z.length 9000) = true := by
  delta deedOf okD areB deedText deedWords entryText mapB mapR inOrder
  simp only [sortR, sortP]
  decide +kernel

end
end G

set_option maxHeartbeats 4000000
namespace G
open PySem PySem.Spec PyProof.Rows L2

local macro_rules | `(tactic| walk_at "go") => `(tactic| ((conv => whnf); repeat ((first | refine isi_of (by first | assumption | exact trivial) ?_ | rw [Sto.put_same] | refine And.intro (by first | exact rfl | exact trivial | exact Nat.le_of_ble_eq_true rfl) ?_); (conv => whnf))))
local macro_rules | `(tactic| walk_at "wk") => `(tactic| ((repeat (walk_at "go"; first | refine optK_of (by first | assumption | exact Sto.put_same) ?_ | refine And.intro (by show (0 : Int) < _; decide) ?_ | refine And.intro (And.intro (by show (0 : Int) < _; decide) (by decide)) ?_ | refine And.intro (show CPow _ _ from ⟨by decide, by decide, by decide⟩) ?_)); try walk_at "go"))

section
variable {w : World} {K : PySem.W.Frag} {mg : Str → Option Value} {base : Heap}
/-! no text of handL is one of a deed -/
theorem hand_a : ((handL.take 49).all fun z => isN (deedOf z) && Nat.ble z.length 9000) = true := by decide +kernel
theorem hand_c : (((handL.drop 53).take 5 ++ handL.drop 63).all fun z => isN (deedOf z) && Nat.ble z.length 9000) = true := by decide +kernel

end
end G

set_option maxHeartbeats 4000000
namespace G
open PySem PySem.Spec PyProof.Rows L2

local macro_rules | `(tactic| walk_at "go") => `(tactic| ((conv => whnf); repeat ((first | refine isi_of (by first | assumption | exact trivial) ?_ | rw [Sto.put_same] | refine And.intro (by first | exact rfl | exact trivial | exact Nat.le_of_ble_eq_true rfl) ?_); (conv => whnf))))
local macro_rules | `(tactic| walk_at "wk") => `(tactic| ((repeat (walk_at "go"; first | refine optK_of (by first | assumption | exact Sto.put_same) ?_ | refine And.intro (by show (0 : Int) < _; decide) ?_ | refine And.intro (And.intro (by show (0 : Int) < _; decide) (by decide)) ?_ | refine And.intro (show CPow _ _ from ⟨by decide, by decide, by decide⟩) ?_)); try walk_at "go"))

section
variable {w : World} {K : PySem.W.Frag} {mg : Str → Option Value} {base : Heap}
/-! the law -/
abbrev tabL (K : PySem.W.Frag) : List (Addr × Str) := [((He.cT K ("law", none)).2, "law.<locals>.<lambda>")]
theorem exmW (T : Top w K mg) : ∀ c, okW c = true → PySem.W.exmOne K (.ref (He.ga K c)) (.ref (He.ga K "SelfError")) = some true := fun c hc => (excsB_ok (exB_exc T.more) (okW_mem hc)).2.1
def TabsAre (K : PySem.W.Frag) (m : Sto) : Prop := ∀ b q, m b = some (.tbl q) ↔ (b, q) ∈ tabL K
/-- the store has grown, but by no table -/
def SubT (m m' : Sto) : Prop := Sub m m' ∧ ∀ b q, m' b = some (.tbl q) → m b = some (.tbl q)
theorem SubT.refl (m : Sto) : SubT m m := ⟨Sub.refl m, fun _ _ h => h⟩
theorem SubT.tabs {m m' : Sto} (h : SubT m m') (t : TabsAre K m) : TabsAre K m' := fun b q => ⟨fun z => (t b q).mp (h.2 b q z), fun z => h.1 b _ ((t b q).mpr z)⟩
theorem SubT.put {m m' : Sto} (h : SubT m m') {p : Addr} {l : List Da} (hp : m p = none) : SubT m (m'.put p (.lst l)) := by
  refine ⟨sub_oth h.1 hp, fun b q z => ?_⟩
  by_cases e : b = p
  · subst e; rw [Sto.put_same] at z; cases z
  · rw [Sto.put_ne e] at z; exact h.2 b q z
theorem SubT.putd {m m' : Sto} (h : SubT m m') {p : Addr} {l : List (Key × Da)} (hp : m p = none) : SubT m (m'.put p (.dct l)) := by
  refine ⟨sub_oth h.1 hp, fun b q z => ?_⟩
  by_cases e : b = p
  · subst e; rw [Sto.put_same] at z; cases z
  · rw [Sto.put_ne e] at z; exact h.2 b q z
theorem Sub.none {m m' : Sto} (h : Sub m m') {p : Addr} (hp : m' p = .none) : m p = .none := by
  cases q : m p with
  | none => rfl
  | some c => rw [h p c q] at hp; cases hp
def sp_law : Fs := g1 fun a m R X => ∃ ns : List Int, (a = .scr (ns.map .int) ∧ ns.length ≤ 63 ∧ TabsAre K m) ∧ R (.bl true) m
theorem mo_law : FMono (sp_law (K := K)) := gm1 fun a m R R' X X' hr hx ⟨ns, h1, h2⟩ => ⟨ns, h1, hr _ _ h2⟩
abbrev fn_law (K : PySem.W.Frag) : Fn := ⟨sp_law (K := K), mo_law⟩
@[irreducible] def S_law_2 (T : Top w K mg) : SSt K :=
    (sSeq (sSet 7 (sM1 mJoin (sStr ",") (sLc (iRange1 (sCons (sInt 50) sNil)) (tgName 8) sYes (sM1 mJoin (sStr ":") (sLst (sCons (sCB cStr (sCons (sOp oMul (sInt 3) (sVar 8)) sNil)) (sCons (sCB cStr (sCons (sOp oMul (sInt 2) (sVar 8)) sNil)) (sCons (sStr "1") sNil))))) [8])))
    (sSeq (sIf (sTest (sOp oNe (sCall (fn_read_deed K) (sCons (sOp oAdd (sStr "fork -") (sOp oMulS (sStr "9") (sInt 60))) sNil)) (sTup (sCons (sStr "fork") (sCons (sOp oSub (sInt 1) (sOp oPow (sInt 10) (sInt 60))) sNil)))))
    (sRet (sBl false))
    sPass)
    (sRet (sOp oEq (sCB cLen (sCons (sOp oIx (sCall (fn_read_deed K) (sCons (sOp oAdd (sStr "map 0 1 ") (sVar 7)) sNil)) (sInt 3)) sNil)) (sInt 50)))))
@[irreducible] def S_law_1 (T : Top w K mg) : SSt K :=
    (sSeq (sFor (iList (sOp oAdd (sCall (fn__law_by_hand K) sNil) (sLst (sCons sNon (sCons (sInt 5) (sCons (sBl true) (sCons (sLst sNil) (sCons (sLst (sCons (sStr "fork 0") sNil)) (sCons (sTup (sCons (sStr "fork") (sCons (sInt 0) sNil))) (sCons sDnew sNil)))))))))) (tgName 6)
    (sIf (sTest (sOp oNe (sTriedL (tabL K) (He.ga K "SelfError") (wdOf wdL) okW (exmW T) (sCall (fn_read_deed K) (sCons (sVar 6) sNil))) (sTup (sCons (sStr "NoText") (sCons sNon sNil)))))
    (sRet (sBl false))
    sPass))
    (S_law_2 T))
def S_law (T : Top w K mg) : SSt K :=
    (sSeq (sFor (iList (sOp oAdd (sLst (sCons (sCall (fn__law_cell_at K) (sCons (sVar 0) (sCons (sInt 0) sNil))) sNil)) (sSl (sVar 0) (poSo (sInt 1)) (poSo (sInt 3))))) (tgName 1)
    (sSeq (sSet 2 (sLstM (sCons (sVar 1) sNil)))
    (sFor (iRange1 (sCons (sInt 20) sNil)) (tgName 3)
    (sSeq (sSet 4 (sCall (fn__law_spoilt K) (sCons (sVar 2) (sCons (sOp oIx (sCall (fn__law_deed K) (sCons (sVar 2) sNil)) (sInt 2)) sNil))))
    (sSeq (sSet 5 (sTriedL (tabL K) (He.ga K "SelfError") (wdOf wdL) okW (exmW T) (sCall (fn_read_deed K) (sCons (sVar 4) sNil))))
    (sIf (stAnd (sTest (sOp oNe (sVar 5) (sTup (sCons (sStr "NoText") (sCons sNon sNil))))) (stOr (sTest (sOp oNe (sOp oIx (sVar 5) (sInt 0)) (sStr "told"))) (sTest (sOp oNe (sCall (fn_deed_text K) (sCons (sOp oIx (sVar 5) (sInt 1)) sNil)) (sVar 4)))))
    (sRet (sBl false))
    sPass))))))
    (S_law_1 T))
/-- told that it is no text -/
abbrev ntP : PyData := .tuple [.str "NoText", .none]
theorem nt_eq : PyData.eqv ntP ntP = true := by decide +kernel
theorem nt_sh : SeqAt.shaped ntP = true := by decide +kernel
theorem told_lay {m : Sto} {d : Da} (hl : LayE m 3 d) : ∃ p, pyM m (.tup [.str "told", d]) = some p ∧ SeqAt.shaped p = true ∧ PyData.eqv p ntP = false := by
  obtain ⟨p, hp, h1, h2⟩ := layE_tup (m := m) (k := 3) (es := [.str "told", d]) fun e he => by
    simp only [List.mem_cons, List.not_mem_nil, or_false] at he
    rcases he with rfl | rfl
    · exact (layE_str (by decide +kernel)).mono (by omega)
    · exact hl
  obtain ⟨q, hq, g1, g2⟩ := hl
  have e : pyM m (.tup [.str "told", d]) = some (.tuple [.str "told", q]) := by
    show (pysM m [.str "told", d]).map PyData.tuple = _
    simp only [pysM, pyM, hq]
    rfl
  rw [e] at hp
  cases hp
  refine ⟨_, e, ?_, ?_⟩
  · unfold SeqAt.shaped
    rw [h1, Bool.true_and]
    exact decide_eq_true (by omega)
  · simp only [PyData.eqv, PyData.eqvAll]
    rw [show ((("told" : Str) == "NoText") = false) by decide +kernel]
    rfl
theorem text_pos {v f : Str} {es es' : List Da} (h : LawD v f es es') : 0 < (deedText v es' f).length := by
  have q6 := (law_plain h).2.2.2.2.2.1
  rcases Nat.eq_zero_or_pos (deedText v es' f).length with e | e
  · have e2 : deedText v es' f = "" := by
      apply cps_eq.mpr
      have e3 : (deedText v es' f).cps.toList.length = 0 := e
      rw [List.length_eq_zero_iff.mp e3]
      decide +kernel
    rw [e2] at q6
    have : isN (deedOf "") = true := by decide +kernel
    rw [q6] at this
    cases this
  · exact e
/-! the text of fifty ranges -/
theorem rowsN_len (n : Nat) : (rowsN n).length = n := by unfold rowsN; rw [List.length_map, List.length_range]
theorem rowsN_pw (n : Nat) : (rowsN n).Pairwise gapR := by
  unfold rowsN
  rw [List.pairwise_map]
  refine List.pairwise_lt_range.imp fun {a b} h => ?_
  unfold gapR
  dsimp only
  omega
theorem rowsN_inB {n : Nat} (hn : n ≤ 51) : ∀ r ∈ rowsN n, inB TOP TOP r := fun r hr => by
  obtain ⟨k, hk, rfl⟩ := List.mem_map.mp hr
  have := List.mem_range.mp hk
  unfold inB TOP
  dsimp only
  omega
theorem rowsN_ne {n : Nat} (h : 0 < n) : rowsN n ≠ [] := fun z => by have := congrArg List.length z; rw [rowsN_len] at this; rw [this] at h; cases h
theorem deed51 : isN (deedOf (("map 0 1 " : Str) ++ Txt.join "," ((List.range 51).map moreS))) = true := by
  rw [rowsN_text]
  exact deed_many (rowsN_ok (by decide)) (rowsN_ne (by decide)) (by rw [rowsN_len]; decide)
theorem deed50 : deedOf (("map 0 1 " : Str) ++ Txt.join "," ((List.range 50).map moreS)) = .tup [.str "map", .int 0, .int 1, .lst ((rowsN 50).map rg)] := by
  have pw := rowsN_pw 50
  obtain ⟨m1, m2⟩ := map_of_pw (.refl (rowsN 50)) (pw.imp fun h => ⟨h.1, by have := h.2; omega⟩) (rowsN_inB (by decide)) (Int.le_refl _) (Int.le_refl _) (by rw [rowsN_len]; decide)
  have m3 : (rowsN 50).foldl stepO [] = rowsN 50 := by
    have := fold_gap (rowsN 50) [] (by simpa using pw)
    simpa using this
  rw [m3] at m2
  rw [rowsN_text]
  exact deed_few (rowsN_ok (by decide)) (rowsN_ne (by decide)) (by rw [rowsN_len]; decide) m1 m2
/-! what is no text -/
def OddOk (m : Sto) (d : Da) : Prop := (∃ z : Str, d = .str z ∧ z.length ≤ 9000 ∧ isN (deedOf z) = true) ∨ (okTy m d ∧ isTy5 m .str d = false)
theorem cut_all {P : Str → Prop} (L : List Str) (a : ∀ z ∈ L.take 49, P z) (b : ∀ z ∈ (L.drop 49).take 4 ++ (L.drop 58).take 4, P z) (c : ∀ z ∈ (L.drop 53).take 5 ++ L.drop 63, P z) (d : ∀ z, L[62]? = some z → P z) : ∀ z ∈ L, P z := by
  intro z hz
  obtain ⟨i, hi⟩ := List.mem_iff_getElem?.mp hz
  by_cases h1 : i < 49
  · exact a z (List.mem_of_getElem? (i := i) (by rw [List.getElem?_take, if_pos h1]; exact hi))
  by_cases h2 : i < 53
  · exact b z (List.mem_append_left _ (List.mem_of_getElem? (i := i - 49) (by rw [List.getElem?_take, if_pos (by omega), List.getElem?_drop, show 49 + (i - 49) = i by omega]; exact hi)))
  by_cases h3 : i < 58
  · exact c z (List.mem_append_left _ (List.mem_of_getElem? (i := i - 53) (by rw [List.getElem?_take, if_pos (by omega), List.getElem?_drop, show 53 + (i - 53) = i by omega]; exact hi)))
  by_cases h4 : i < 62
  · exact b z (List.mem_append_right _ (List.mem_of_getElem? (i := i - 58) (by rw [List.getElem?_take, if_pos (by omega), List.getElem?_drop, show 58 + (i - 58) = i by omega]; exact hi)))
  by_cases h5 : i = 62
  · subst h5; exact d z hi
  · exact c z (List.mem_append_right _ (List.mem_of_getElem? (i := i - 63) (by rw [List.getElem?_drop, show 63 + (i - 63) = i by omega]; exact hi)))
theorem hand_get {l : List Str} (h : (l.all fun z => isN (deedOf z) && Nat.ble z.length 9000) = true) : ∀ z ∈ l, z.length ≤ 9000 ∧ isN (deedOf z) = true := fun z hz => by
  have := List.all_eq_true.mp h z hz
  rw [Bool.and_eq_true] at this
  exact ⟨Nat.le_of_ble_eq_true this.2, this.1⟩
theorem hand_62 : handL[62]? = some (("map 0 1 " : Str) ++ Txt.join "," ((List.range 51).map moreS)) := rfl
theorem hand_no : ∀ z ∈ handL, z.length ≤ 9000 ∧ isN (deedOf z) = true := by
  refine cut_all handL (hand_get hand_a) (hand_get hand_maps) (hand_get hand_c) fun z h => ?_
  rw [hand_62] at h
  injection h with h
  subst h
  refine ⟨?_, deed51⟩
  rw [rowsN_text]
  have := map_len (rowsN_ok (n := 51) (by decide)) (Nat.le_of_eq (rowsN_len 51))
  omega
theorem cut_ints (ns : List Int) (lo hi : Option Int) : ∃ ms : List Int, cutD (ns.map Da.int) lo hi = ms.map .int ∧ ms.length ≤ ns.length := by
  refine ⟨cutD ns lo hi, ?_, ?_⟩
  · unfold cutD
    rw [List.length_map, ← List.map_drop, ← List.map_take]
  · unfold cutD
    rw [List.length_take, List.length_drop]
    omega
theorem for_inv0 {f : Da → Sd → Sto → Nk → Prop} {N : Nk} (W : List Da → Sd → Sto → Prop) (hf : ∀ d δ m N N', (∀ δ' m', N δ' m' → N' δ' m') → f d δ m N → f d δ m N') (l : List Da) (hs : ∀ p a q δ m, l = p ++ a :: q → W p δ m → f a δ m (W (p ++ [a]))) (h : ∀ δ m, W l δ m → N δ m) (δ : Sd) (m : Sto) (hw : W [] δ m) : forW f none l δ m N := by
  have := for_inv (enc := fun d : Da => d) W hf l [] hs h δ m hw
  rwa [List.map_id''] at this
  exact fun _ => rfl
theorem forkDeed : deedOf ("fork -" ++ Txt.mul "9" 60) = .tup [.str "fork", .int (1 - 10 ^ 60)] := by kernel_rfl
theorem mulOk9 : PySem.MulOk "9" 60 := ⟨by decide, by decide, by decide +kernel⟩
theorem out_tup {a : Da} {m : Sto} {R : Rk} {ds : List Da} (e : deedOf a' = .tup ds) (k : outT (.tup ds) m R) : outT (deedOf a') m R := by rw [e]; exact k
theorem law_fin (T : Top w K mg) {a : Da} {x1 x2 x3 x4 x5 x6 x7 x8 : Option Da} {m m' : Sto} {R : Rk} {X : Xk} (hs : Sub m m') (h : R (.bl true) m) :
    (S_law_2 T).w [some a, x1, x2, x3, x4, x5, x6, x7, x8] m' (fun _ m' => ∃ m2, Sub m2 m' ∧ R .non m2) (fun d m' => ∃ m2, Sub m2 m' ∧ R d m2) (fun x m' => ∃ m2, Sub m2 m' ∧ X x m2) noN noN := by
  unfold S_law_2
  walk_at "wk"
  refine ⟨by decide, ?_⟩
  walk_at "wk"
  refine ⟨by decide +kernel, ?_⟩
  rw [rngD_def, show (List.range (Int.toNat 50)).map (fun i : Nat => Da.int (0 + (i : Int))) = (List.range 50).map (fun k : Nat => Da.int (k : Int)) from List.map_congr_left fun i _ => congrArg Da.int (Int.zero_add _)]
  refine lc_map (enc := fun k : Nat => Da.int (k : Int)) (mk := moreD) (List.range 50) (fun k hk k0 k1 h1 => ?_) ?_
  · walk_at "wk"
    refine ⟨mul_l (by decide), ?_⟩
    walk_at "wk"
    have hk' : k < 50 := List.mem_range.mp hk
    refine ⟨Nat.lt_of_le_of_lt (Nat.log2_le_self _) (by omega), ?_⟩
    walk_at "wk"
    refine ⟨mul_l (by decide), ?_⟩
    walk_at "wk"
    refine ⟨Nat.lt_of_le_of_lt (Nat.log2_le_self _) (by omega), ?_⟩
    walk_at "wk"
    refine ⟨?_, h1⟩
    have e1 := (num_ok (i := 3 * (k : Int)) (by omega)).2
    have e2 := (num_ok (i := 2 * (k : Int)) (by omega)).2
    show (num _).length + ((num _).length + (1 + 0)) + 3 * 1 ≤ _
    omega
  rw [show (List.range 50).map moreD = ((List.range 50).map moreS).map Da.str by rw [List.map_map]; rfl]
  have hd50 := deed50
  have hsum : (((List.range 50).map moreS).map (fun x : Str => x.length)).sum + ((List.range 50).map moreS).length * (("," : Str).length) ≤ 5000 := by decide +kernel
  have hz50 : (("map 0 1 " : Str) ++ Txt.join "," ((List.range 50).map moreS)).length ≤ 9000 := by
    rw [rowsN_text]
    have := map_len (rowsN_ok (n := 50) (by decide)) (Nat.le_of_eq (rowsN_len 50))
    omega
  generalize (List.range 50).map moreS = L at hd50 hsum hz50 ⊢
  walk_at "wk"
  refine optK_of (strs_all L) ⟨Nat.le_trans hsum (by decide), ?_⟩
  generalize Txt.join "," L = y at hd50 hz50 ⊢
  walk_at "wk"
  refine ⟨60, rfl, mulOk9, ?_⟩
  walk_at "wk"
  have hf := forkDeed
  have hfl : (("fork -" : Str) ++ Txt.mul "9" 60).length ≤ 9000 := by decide +kernel
  generalize ("fork -" : Str) ++ Txt.mul "9" 60 = yf at hf hfl ⊢
  refine .inl ⟨yf, rfl, hfl, fun _ => ?_, fun e => (by rw [hf] at e; cases e)⟩
  rw [hf]
  walk_at "wk"
  refine ⟨.tuple [.str "fork", .int (1 - 10 ^ 60)], .tuple [.str "fork", .int (1 - 10 ^ 60)], rfl, rfl, by decide +kernel, by decide +kernel, ?_⟩
  rw [show PyData.eqv (.tuple [.str "fork", .int (1 - 10 ^ 60)]) (.tuple [.str "fork", .int (1 - 10 ^ 60)]) = true by decide +kernel]
  walk_at "wk"
  refine ⟨by rw [Str.length_append] at hz50; exact Nat.le_trans hz50 (by decide), ?_⟩
  walk_at "wk"
  refine .inl ⟨_, rfl, hz50, fun _ => ?_, fun e => (by rw [hd50] at e; cases e)⟩
  rw [hd50]
  have hlen : ((rowsN 50).map rg).length = 50 := by rw [List.length_map, rowsN_len]
  generalize (rowsN 50).map rg = rws at hlen ⊢
  walk_at "wk"
  intro q hq
  walk_at "wk"
  rw [hlen]
  exact ⟨m, fun b c z => sub_put hq b c (hs b c z), h⟩
theorem rd_law (T : Top w K mg) {a : Da} {m : Sto} {R : Rk} {X : Xk} (h : (fn_law K).F [a] m R X) : (S_law T).w (dn n_law [a]) m (fun _ m' => ∃ m2, Sub m2 m' ∧ R .non m2) (fun d m' => ∃ m2, Sub m2 m' ∧ R d m2) (fun x m' => ∃ m2, Sub m2 m' ∧ X x m2) noN noN := by
  obtain ⟨ns, ⟨rfl, hl, ht⟩, h⟩ := h
  walk_at "wk"
  refine ⟨ns, ⟨rfl, rfl⟩, fun n => ?_⟩
  walk_at "wk"
  obtain ⟨ms, em, hms⟩ := cut_ints ns (some 1) (some 3)
  rw [em]
  refine ⟨by simp only [List.length_cons, List.length_nil, List.length_map]; omega, ?_⟩
  refine for_inv (enc := Da.int) (l := n :: ms) (fun pre δ' m' => ∃ x1 x2 x3 x4 x5 x6 x7 x8, δ' = [some (.scr (ns.map .int)), x1, x2, x3, x4, x5, x6, x7, x8] ∧ SubT m m') forT_mono [] ?_ ?_ _ _ ⟨_, _, _, _, _, _, _, _, rfl, SubT.refl _⟩
  · rintro pre c post δ' m' - ⟨x1, x2, x3, x4, x5, x6, x7, x8, rfl, hsub⟩
    walk_at "wk"
    intro p hp
    have hmp : m p = none := hsub.1.none hp
    walk_at "wk"
    refine ⟨by decide, ?_⟩
    walk_at "wk"
    rw [rngD_def]
    refine for_inv (enc := fun k : Nat => Da.int (0 + (k : Int))) (fun pre δ' m' => ∃ x3 x4 x5 x6 x7 x8 l, δ' = [some (.scr (ns.map .int)), some (.int c), some (.adr p), x3, x4, x5, x6, x7, x8] ∧ SubT m m' ∧ m' p = some (.lst l) ∧ StOk l) forT_mono _ [] ?_ ?_ _ _ ⟨_, _, _, _, _, _, _, rfl, hsub.put hmp, Sto.put_same, .inl ⟨c, rfl⟩⟩
    · rintro pre2 k post2 δ' m1 - ⟨x3, x4, x5, x6, x7, x8, l, rfl, hs1, hp1, ho1⟩
      walk_at "wk"
      refine ⟨p, l, ⟨rfl, hp1, ho1⟩, fun v f es es' l2 hL ho2 => ?_⟩
      obtain ⟨q1, q2, q3, q4, q5, q6, q7⟩ := law_plain hL
      have q0 := text_pos hL
      walk_at "wk"
      refine ⟨p, l2, _, ⟨rfl, rfl, q0, by omega, Sto.put_same, ho2⟩, fun y l3 hy ho3 => ?_⟩
      rw [put_put]
      have hs2 : SubT m (m1.put p (.lst l3)) := hs1.put hmp
      have hp2 : (m1.put p (.lst l3)) p = some (.lst l3) := Sto.put_same
      generalize m1.put p (.lst l3) = m2 at hs2 hp2 ⊢
      walk_at "wk"
      refine ⟨hs2.tabs ht, ?_⟩
      walk_at "wk"
      refine .inl ⟨y, rfl, hy, fun hn => ?_, fun hn => ?_⟩
      · refine out_deed hy hn fun ds m3 hD hT hL hm3 => ?_
        have hs3 : SubT m m3 ∧ m3 p = some (.lst l3) := by
          rcases hm3 with rfl | ⟨q, c, hq, rfl⟩
          · exact ⟨hs2, hp2⟩
          · exact ⟨hs2.put (hs2.1.none hq), sub_put hq p _ hp2⟩
        walk_at "wk"
        obtain ⟨pp, e1, e2, e3⟩ := told_lay hL
        refine ⟨pp, ntP, e1, rfl, e2, nt_sh, ?_⟩
        rw [e3]
        walk_at "wk"
        rw [eqS_self]
        walk_at "wk"
        refine ⟨hD, ?_⟩
        rw [hT]
        walk_at "wk"
        rw [eqS_self]
        walk_at "wk"
        exact ⟨_, _, _, _, _, _, _, rfl, hs3.1, hs3.2, ho3⟩
      · refine ⟨by decide +kernel, ?_⟩
        rw [show wdOf wdL "NoText" = "NoText" by decide +kernel]
        walk_at "wk"
        refine ⟨ntP, ntP, rfl, rfl, nt_sh, nt_sh, ?_⟩
        rw [nt_eq]
        walk_at "wk"
        exact ⟨_, _, _, _, _, _, _, rfl, hs2, hp2, ho3⟩
    · rintro δ' m1 ⟨x3, x4, x5, x6, x7, x8, l, rfl, hs1, hp1, ho1⟩
      exact ⟨_, _, _, _, _, _, _, _, rfl, hs1⟩
  · rintro δ' m' ⟨x1, x2, x3, x4, x5, x6, x7, x8, rfl, hsub⟩
    unfold S_law_1
    walk_at "wk"
    have hno := hand_no
    have hll : handL.length ≤ 1000 := by decide
    generalize handL = HL at hno hll ⊢
    intro q hq
    have hmq : m q = none := hsub.1.none hq
    walk_at "wk"
    have hodd : ∀ d ∈ List.map Da.str HL ++ [Da.non, .int 5, .bl true, .lst [], .lst [.str "fork 0"], .tup [.str "fork", .int 0], .adr q], ∀ m2 : Sto, m2 q = some (.dct []) → OddOk m2 d := fun d hd m2 h2 => by
      rcases List.mem_append.mp hd with hd | hd
      · obtain ⟨z, hz, rfl⟩ := List.mem_map.mp hd
        obtain ⟨a, b⟩ := hno z hz
        exact .inl ⟨z, rfl, a, b⟩
      · simp only [List.mem_cons, List.not_mem_nil, or_false] at hd
        rcases hd with rfl | rfl | rfl | rfl | rfl | rfl | rfl
        · exact .inr ⟨trivial, rfl⟩
        · exact .inr ⟨trivial, rfl⟩
        · exact .inr ⟨trivial, rfl⟩
        · exact .inr ⟨trivial, rfl⟩
        · exact .inr ⟨trivial, rfl⟩
        · exact .inr ⟨trivial, rfl⟩
        · exact .inr ⟨⟨_, h2, rfl⟩, by simp only [isTy5, h2]⟩
    have hlen : (List.map Da.str HL).length + 7 ≤ 100000 := by rw [List.length_map]; omega
    refine ⟨hlen, ?_⟩
    generalize List.map Da.str HL ++ [Da.non, .int 5, .bl true, .lst [], .lst [.str "fork 0"], .tup [.str "fork", .int 0], .adr q] = odds at hodd ⊢
    refine for_inv0 (fun pre δ' m2 => ∃ x1 x2 x3 x4 x5 x6 x7 x8, δ' = [some (.scr (ns.map .int)), x1, x2, x3, x4, x5, x6, x7, x8] ∧ SubT m m2 ∧ m2 q = some (.dct [])) forT_mono odds ?_ ?_ _ _ ⟨_, _, _, _, _, _, _, _, rfl, hsub.putd hmq, Sto.put_same⟩
    · rintro pre d post δ' m2 hsp ⟨x1, x2, x3, x4, x5, x6, x7, x8, rfl, hs2, hq2⟩
      have ho := hodd d (by rw [hsp]; simp) m2 hq2
      walk_at "wk"
      refine ⟨hs2.tabs ht, ?_⟩
      walk_at "wk"
      rcases ho with ⟨z, rfl, hz, hn⟩ | ho
      · refine .inl ⟨z, rfl, hz, fun e => (by rw [hn] at e; cases e), fun _ => ?_⟩
        refine ⟨by decide +kernel, ?_⟩
        rw [show wdOf wdL "NoText" = "NoText" by decide +kernel]
        walk_at "wk"
        refine ⟨ntP, ntP, rfl, rfl, nt_sh, nt_sh, ?_⟩
        rw [nt_eq]
        walk_at "wk"
        exact ⟨_, _, _, _, _, _, _, _, rfl, hs2, hq2⟩
      · refine .inr ⟨ho, ?_⟩
        refine ⟨by decide +kernel, ?_⟩
        rw [show wdOf wdL "NoText" = "NoText" by decide +kernel]
        walk_at "wk"
        refine ⟨ntP, ntP, rfl, rfl, nt_sh, nt_sh, ?_⟩
        rw [nt_eq]
        walk_at "wk"
        exact ⟨_, _, _, _, _, _, _, _, rfl, hs2, hq2⟩
    · rintro δ' m2 ⟨x1, x2, x3, x4, x5, x6, x7, x8, rfl, hs2, hq2⟩
      exact law_fin T hs2.1 h
theorem ok_law (T : Top w K mg) (TB : LamX.TabB base mg (He.cT K ("law", none)).1 (He.cT K ("law", none)).2) : FnAt R.prog w K mg base 14 (He.ga K "law") p_law (spW K (fn_law K).F) := by
  have hl : ∀ ds m R X, (fn_law K).F ds m R X → ds.length = 1 := fun ds m R X h => by unfold fn_law at h; dsimp only at h; unfold sp_law at h; exact gl1 _ _ _ _ h
  refine fnAtC_of (k := 13) ("law", none) rfl T.d_law sc_law (fun vs H Q E q => spW_len (F := (fn_law K).F) hl q) (fun _ _ _ _ _ _ us hl => match us, hl with | [_], _ => rfl) fun cdv A outer s H vs Q E hcd hr q => ⟨_, (pss_cons (ps_for (passes_of rfl) (by rfl) (pi_list (pe_op op_addU (pe_lst (pa_cons (pe_call (ok__law_cell_at (base := base) T).ok (hr.mono (by decide)) (by rfl) T.gl__law_cell_at (ok__law_cell_at (base := base) T).kp (ok__law_cell_at (base := base) T).bd .nil (passes_call (takes_of rfl rfl rfl rfl) (fun _ _ _ _ h => h)) (pa_cons (pv 0) (pa_cons pe_int pa_nil))) pa_nil)) (pe_slice sl_U (pv 0) (po_some pe_int) (po_some pe_int)))) (pg_name (i := 1) sc_law.nd rfl (Or.inl rfl))
    (pss_cons (ps_set (i := 2) sc_law.nd rfl (Or.inl rfl) (pe_lst (pa_cons (pv 1) pa_nil)))
    (pss_one (ps_for (passes_of rfl) (by rfl) (pi_range1 (by rfl) T.fr_range (pa_cons pe_int pa_nil)) (pg_name (i := 3) sc_law.nd rfl (Or.inl rfl))
    (pss_cons (ps_set (i := 4) sc_law.nd rfl (Or.inr rfl) (pe_call (ok__law_spoilt (base := base) T).ok (hr.mono (by decide)) (by rfl) T.gl__law_spoilt (ok__law_spoilt (base := base) T).kp (ok__law_spoilt (base := base) T).bd .nil (passes_call (takes_of rfl rfl rfl rfl) (fun _ _ _ _ h => h)) (pa_cons (pv 2) (pa_cons (pe_ix ix_seq (pe_call (ok__law_deed (base := base) T).ok (hr.mono (by decide)) (by rfl) T.gl__law_deed (ok__law_deed (base := base) T).kp (ok__law_deed (base := base) T).bd .nil (passes_call (takes_of rfl rfl rfl rfl) (fun _ _ _ _ h => h)) (pa_cons (pv 2) pa_nil)) pe_int (fun _ _ => rfl)) pa_nil))))
    (pss_cons (ps_set (i := 5) sc_law.nd rfl (Or.inl rfl) (pe_triedL T rfl rfl rfl rfl rfl (k := 11) (hr.mono (by decide)) TB (by exact hcd) (by rfl) (by rfl) (LamX.lamS_by (sc := defScope s_law) (by decide +kernel)) (by rfl) (fun _ _ _ _ _ => rfl) (fun A outer s H E f c' hr => (pe_call (ok_read_deed (base := base) T).ok (hr.mono (by decide)) (by rfl) T.gl_read_deed (ok_read_deed (base := base) T).kp (ok_read_deed (base := base) T).bd .nil (passes_call (takes_of rfl rfl rfl rfl) (fun _ _ _ _ h => h)) (pa_cons (pv 4) pa_nil)))))
    (pss_one (ps_if (PW.pt (pw_and (pt_cmpR (op_neU hr.units) (pv 5) (pe_tup (pa_cons pe_str (pa_cons pe_non pa_nil))) (nomark _)) (pw_and1 (PW.pt (pw_or (pt_cmpR (op_neU hr.units) (pe_ix ix_seq (pv 5) pe_int (fun _ _ => rfl)) pe_str (nomark _)) (pw_or1 (pt_cmpR (op_neU hr.units) (pe_call (ok_deed_text (base := base) T).ok (hr.mono (by decide)) (by rfl) T.gl_deed_text (ok_deed_text (base := base) T).kp (ok_deed_text (base := base) T).bd .nil (passes_call (takes_of rfl rfl rfl rfl) (fun _ _ _ _ h => h)) (pa_cons (pe_ix ix_seq (pv 5) pe_int (fun _ _ => rfl)) pa_nil)) (pv 4) (nomark _))))))))
    (pss_one (ps_ret pe_bl))
    pss_nil))))))))
    (pss_cons (ps_for (passes_of rfl) (by rfl) (pi_list (pe_op op_addU (pe_call0 (ok__law_by_hand (base := base) T).ok (hr.mono (by decide)) (by rfl) T.gl__law_by_hand (ok__law_by_hand (base := base) T).kp (ok__law_by_hand (base := base) T).bd .nil (passes_call (takes_of rfl rfl rfl rfl) (fun _ _ _ _ h => h))) (pe_lst (pa_cons pe_non (pa_cons pe_int (pa_cons pe_bl (pa_cons (pe_lst pa_nil) (pa_cons (pe_lst (pa_cons pe_str pa_nil)) (pa_cons (pe_tup (pa_cons pe_str (pa_cons pe_int pa_nil))) (pa_cons pe_dnewK pa_nil)))))))))) (pg_name (i := 6) sc_law.nd rfl (Or.inr rfl))
    (pss_one (ps_if (pt_cmpR (op_neU hr.units) (pe_triedL T rfl rfl rfl rfl rfl (k := 11) (hr.mono (by decide)) TB (by exact hcd) (by rfl) (by rfl) (LamX.lamS_by (sc := defScope s_law) (by decide +kernel)) (by rfl) (fun _ _ _ _ _ => rfl) (fun A outer s H E f c' hr => (pe_call (ok_read_deed (base := base) T).ok (hr.mono (by decide)) (by rfl) T.gl_read_deed (ok_read_deed (base := base) T).kp (ok_read_deed (base := base) T).bd .nil (passes_call (takes_of rfl rfl rfl rfl) (fun _ _ _ _ h => h)) (pa_cons (pv 6) pa_nil)))) (pe_tup (pa_cons pe_str (pa_cons pe_non pa_nil))) (nomark _))
    (pss_one (ps_ret pe_bl))
    pss_nil)))
    (pss_cons (ps_set (i := 7) sc_law.nd rfl (Or.inl rfl) (pe_join pe_str (pe_lc (own := [("_law_k", 8)]) (g := ((tgName 8) : STg K).t) (te := ((sM1 mJoin (sStr ":") (sLst (sCons (sCB cStr (sCons (sOp oMul (sInt 3) (sVar 8)) sNil)) (sCons (sCB cStr (sCons (sOp oMul (sInt 2) (sVar 8)) sNil)) (sCons (sStr "1") sNil))))) : SE K).t E0) (tt := (sYes : STe K).t E0) (by rfl) sc_law.nd (pi_range1 (by rfl) T.fr_range (pa_cons pe_int pa_nil)) (blkOk_by (own := [("_law_k", 8)]) (N := n_law) (sc := defScope s_law) (by decide +kernel)) (fun _ _ _ _ _ => (pg_name (i := 8) sc_law.nd rfl (Or.inl rfl))) (fun _ _ _ _ _ => pts_nil) (fun _ _ _ _ _ => by exact pe_eq (pe_join pe_str (pe_lst (pa_cons (pe_callTy (callr_or call_str_int SkE.call_str_str) (by rfl) T.fr_str (by decide +kernel) (pa_cons (pe_op op_mulU pe_int (pv 8)) pa_nil)) (pa_cons (pe_callTy (callr_or call_str_int SkE.call_str_str) (by rfl) T.fr_str (by decide +kernel) (pa_cons (pe_op op_mulU pe_int (pv 8)) pa_nil)) (pa_cons pe_str pa_nil))))) (by (try dsimp only [cxOf, L2.Cx.blk]) <;> exact rfl)))))
    (pss_cons (ps_if (pt_cmpR (op_neU hr.units) (pe_call (ok_read_deed (base := base) T).ok (hr.mono (by decide)) (by rfl) T.gl_read_deed (ok_read_deed (base := base) T).kp (ok_read_deed (base := base) T).bd .nil (passes_call (takes_of rfl rfl rfl rfl) (fun _ _ _ _ h => h)) (pa_cons (pe_op op_addU pe_str (pe_op op_mulS pe_str pe_int)) pa_nil)) (pe_tup (pa_cons pe_str (pa_cons (pe_op op_sub pe_int (pe_op op_pow pe_int pe_int)) pa_nil))) (nomark _))
    (pss_one (ps_ret pe_bl))
    pss_nil)
    (pss_one (ps_ret (pe_cmpR (op_eqU hr.units) (pe_callB (callr_or call_len_seq call_len_str) (by rfl) T.fr_len (by decide +kernel) (pa_cons (pe_ix ix_seq (pe_call (ok_read_deed (base := base) T).ok (hr.mono (by decide)) (by rfl) T.gl_read_deed (ok_read_deed (base := base) T).kp (ok_read_deed (base := base) T).bd .nil (passes_call (takes_of rfl rfl rfl rfl) (fun _ _ _ _ h => h)) (pa_cons (pe_op op_addU pe_str (pv 7)) pa_nil)) pe_int (fun _ _ => rfl)) pa_nil)) pe_int (nomark _)))))))), spW_leq (N := n_law) (S_law T) (by kernel_rfl) (fun ds m R X h => by rw [hl ds m R X h]; decide) (fun ds m R X h => ?_) q⟩
  have h2 := h
  unfold fn_law at h2; dsimp only at h2; unfold sp_law at h2
  obtain ⟨a, rfl, _⟩ := g1_of h2
  exact rd_law T h

end
end G

set_option maxHeartbeats 0
namespace G
open PySem PySem.Spec PyProof.Rows L2
def asL : List Addr := [2, 3, 26, 31, 41, 54, 66, 78, 90, 102, 114, 126, 138, 150, 162, 174, 186, 206, 215, 222, 229, 236, 243, 323, 334, 341, 348, 353, 360, 438] ++ [443, 450, 455, 462, 467, 474, 479, 486, 491, 496, 503, 508, 515, 522, 529, 536, 543, 550, 555, 562, 567, 572, 579, 584, 589, 25, 30, 40, 53, 65] ++ [77, 89, 101, 113, 125, 137, 149, 161, 173, 185, 205, 214, 221, 228, 235, 242, 322, 333, 340, 347, 352, 359, 437, 449, 454, 461, 466, 473, 478, 485] ++ [490, 495, 502, 507, 514, 521, 528, 535, 542, 549, 554, 561, 566, 571, 578, 583, 588, 203, 257, 264, 271, 278, 292, 374, 381, 388, 395, 414, 202, 196] ++ [256, 263, 270, 277, 291, 373, 380, 387, 394, 413]
def obsA (g : Addr → Option Obj) : He.AlT × Bool := (He.obsT faL fnL tbL (He.frT g asL), exB (He.frT g asL) && He.tabsB g tfL (He.frT g asL))
theorem saysA {w : PySem.World} {h : PySem.Heap} (e : obsA h.get? = (He.valT fnL tbL w, true)) : He.SaysX faL fnL tbL tfL exB w h (He.frT h.get? asL) := by
  have z := (Bool.and_eq_true _ _).mp (show (exB (He.frT h.get? asL) && He.tabsB h.get? tfL (He.frT h.get? asL)) = true from congrArg Prod.snd e)
  have ta : ∀ p ∈ tfL, PySem.W.codeHdIn (He.frT h.get? asL) (He.cT (He.frT h.get? asL) p).1 (He.cT (He.frT h.get? asL) p).2 = true ∧ ∃ o, h.get? (He.cT (He.frT h.get? asL) p).2 = some o ∧ He.emptyTab o = true := by
    intro p hp
    have y := (Bool.and_eq_true _ _).mp (List.all_eq_true.mp z.2 p hp)
    refine ⟨y.1, ?_⟩
    have y2 := y.2
    split at y2
    · exact ⟨_, by assumption, y2⟩
    · cases y2
  refine ⟨congrArg Prod.fst e, z.1, fun p hp => (ta p hp).1, fun p hp => ?_, fun p hp => ?_⟩
  · obtain ⟨_, _, q, y⟩ := ta p hp
    exact He.frT_none q y
  · obtain ⟨_, _, q, y⟩ := ta p hp
    rw [q, He.emptyTab_eq y]
def hk : PySem.W.Hook where
  α := He.AlT × Bool
  obs := fun s => obsA s.heap.get?
  val := fun w => (He.valT fnL tbL w, true)
  says := fun w h => ∃ K : PySem.W.Frag, K.In h ∧ He.SaysX faL fnL tbL tfL exB w h K
  of := fun _ _ e => ⟨_, He.frT_in, saysA e⟩
  keeps := fun _ _ _ ⟨K, hK, c⟩ k => ⟨K, PySem.W.Frag.In.keeps hK k, ⟨c.t, c.more, c.hd, c.out, fun p hp => k _ _ (c.empty p hp)⟩⟩
def ob (s : PySem.W.SharedT) : He.AlT × Bool := obsA (HandSHeadRun.getT s)
theorem ob_eq (s : PySem.W.SharedT) : ob s = hk.obs s.abs := by
  show obsA _ = obsA _
  rw [funext (HandSHeadRun.getT_eq s)]
def loose0 : List PySem.Str := ["is_name", "is_bits", "is_whole", "is_number", "is_run", "is_part", "joined", "set_of", "is_range", "are_apart", "is_map", "in_order"]
def loose1 : List PySem.Str := ["is_entry", "is_deed", "are_ranges", "whole_of", "is_short", "ranges_text", "entry_text", "deed_text", "ranges_of", "entry_of", "deed_of", "read_deed"]
def loose2 : List PySem.Str := ["_law_cell_at", "_law_digit", "_law_one", "_law_word", "_law_tried", "_law_bits", "_law_whole", "_law_map", "_law_deed", "_law_spoilt", "_law_by_hand", "NumberSet"]
def loose3 : List PySem.Str := ["RangeMap", "SelfError", "NoSet", "NoMap", "NoRoom", "NoProcess", "NoFile", "NoDeed", "NoUser", "NoRight", "TooDeep", "Written"]
def loose4 : List PySem.Str := ["Taken", "NoLine", "NoText", "LETTERS", "MARKS", "MOST_LETTERS", "TOP", "MOST_ROWS", "MOST_RANGES", "MOST_FIGURES", "FORMS", "_wall"]
def looseL : List PySem.Str := loose0 ++ loose1 ++ loose2 ++ loose3 ++ loose4
theorem runF (w : PySem.World) : HandSHeadRun.RunEq R (PySem.W.view R.prog [67]) hk ob 20000 looseL (w.withFollow "special-get-raises" false) := by
  intro os
  kernel_rfl
theorem runT (w : PySem.World) : HandSHeadRun.RunEq R (PySem.W.view R.prog [67]) hk ob 20000 looseL (w.withFollow "special-get-raises" true) := by
  intro os
  kernel_rfl
theorem run (w : PySem.World) : HandSHeadRun.RunEq R (PySem.W.view R.prog [67]) hk ob 20000 looseL w :=
  PySem.W.byRow2 (P := fun w => HandSHeadRun.RunEq R (PySem.W.view R.prog [67]) hk ob 20000 looseL w) "special-get-raises" runF runT w
end G

set_option maxHeartbeats 0
namespace G
open PySem PySem.Spec PyProof.Rows L2
theorem dt_whole {K : PySem.W.Frag} {H : Hp} : ∀ ns : List Int, DtAll K H (ns.map V.int) (ns.map Da.int)
  | [] => .nil
  | n :: ns => .cons (.int n) (dt_whole ns)
theorem sp_end {K : PySem.W.Frag} {H : Hp} {a : Addr} {ns : List Int} (hl : ns.length ≤ 63) (hT : ∀ p ∈ tabL K, H p.1 = some (.tbl #[])) (hS : SqL K H a (ns.map V.int)) : spW K (fn_law K).F [.ref a] H (fun v _ => v = .bl true) fun _ _ _ => False := by
  obtain ⟨I, m, sm, hs, ht⟩ := sm_tabs hT hS
  refine ⟨I, m, [.scr (ns.map .int)], sm, .cons (.scr hs (dt_whole ns)) .nil, ?_⟩
  refine ⟨ns, ⟨rfl, hl, fun b q => ?_⟩, fun v H' I' g p => by cases p; rfl⟩
  rw [ht]
  unfold tabL
  simp only [List.lookup, List.mem_singleton, Prod.mk.injEq]
  cases e : b == (He.cT K ("law", none)).2 with
  | true =>
    have e2 : b = (He.cT K ("law", none)).2 := by simpa using e
    simp [e2, eq_comm]
  | false =>
    have e2 : b ≠ (He.cT K ("law", none)).2 := by simpa using e
    simp [e2]
theorem law_at {w : World} {K : PySem.W.Frag} {h : Heap} {mg : Str → Option Value} (X : K.In h) (n : h.Ns mainGlobals mg) (c : He.SaysX faL fnL tbL tfL exB w h K) : LamX.LawAtS PySem.Challenge.rw_mappedselves_k86_what_is_no_text_of_a_de w K (L2.CX R.prog w) 14 63 "_law_script" mg (He.ga K "law") h := by
  have T : Top w K mg := ⟨c.t, c.more, ⟨h, X, n⟩⟩
  have hm : (("law", none) : He.Defn) ∈ tfL := by unfold tfL; simp
  obtain ⟨fd, FD⟩ := T.d_law
  have b := FunD.bindsA (ps := p_law) FD (fun _ _ _ _ _ _ us hl => match us, hl with | [_], _ => rfl)
  have ef := fdK_of FD
  refine ⟨fd, [He.cT K ("law", none)], spW K (fn_law K).F, fun p hp => ?_, fun p hp => ?_, fun p hp => ?_, fun s u => b s [u] rfl, fun H a ns hl _ hT hS => sp_end hl (fun p hp => ?_) hS, fun base _ _ TB => ?_⟩
  · rw [List.mem_singleton.mp hp]; exact c.empty _ hm
  · rw [List.mem_singleton.mp hp]; exact c.out _ hm
  · rw [List.mem_singleton.mp hp]; exact PySem.W.codeHd_of_K X (c.hd _ hm)
  · rw [List.mem_singleton.mp hp]; exact hT _ (List.mem_singleton.mpr rfl)
  · rw [ef]
    exact (ok_law (base := base) T (TB _ (List.mem_singleton.mpr rfl))).ok
end G
open PySem PySem.W PySem.Calls PyProof.Rows
theorem PySem.Challenge.cw_mappedselves_k86_what_is_no_text_of_a_de_holds : PySem.Challenge.rw_mappedselves_k86_what_is_no_text_of_a_de.Holds := by
  w_on; o_law
  refine HandSHeadRun.head_any (r := OpenLaw.row PySem.Challenge.rw_mappedselves_k86_what_is_no_text_of_a_de) (q := view (OpenLaw.row PySem.Challenge.rw_mappedselves_k86_what_is_no_text_of_a_de).prog [67]) (H := G.hk) (ob := G.ob) (M := 20000) (loose := G.looseL) (d := HandSHeadRun.topDef (OpenLaw.row PySem.Challenge.rw_mappedselves_k86_what_is_no_text_of_a_de).prog 67) (kwd := []) G.ob_eq
    (by kernel_rfl) (fun s => by kernel_rfl) G.run (by kernel_rfl) (by kernel_rfl) (by kernel_rfl) (by rfl) (by first | assumption | decide +kernel) (by decide +kernel) ⟨rfl, rfl, rfl, rfl, rfl, by decide +kernel⟩ ?hw ?hc
  case hw => w_witness2
  case hc =>
    refine LamX.walk_ofTsE (l := PySem.Challenge.rw_mappedselves_k86_what_is_no_text_of_a_de) (n := 63) (k := 14) (x := "_law_script") (CX := fun w => L2.CX (PySem.Challenge.rw_mappedselves_k86_what_is_no_text_of_a_de).prog w) rfl (by decide) (by kernel_rfl) ⟨rfl, by decide, by decide⟩ ?F (fun _ _ _ _ _ z => by
      obtain ⟨a, B, H', cls, d, _, _, _, _, _, _, _, z⟩ := z
      exact z)
    intro w mg fa h Y n hmg0
    obtain ⟨K, X, c⟩ := Y
    have T : G.Top w K mg := ⟨c.t, c.more, ⟨h, X, n⟩⟩
    have hmg : mg ("law" : PySem.Str) = some (.ref fa) := by
      have e : (HandSHeadRun.topDef (OpenLaw.row PySem.Challenge.rw_mappedselves_k86_what_is_no_text_of_a_de).prog 67).name = ("law" : PySem.Str) := by kernel_rfl
      rw [← e]
      exact hmg0
    have e := hmg.symm.trans T.gl_law
    cases e
    exact ⟨K, X, G.law_at X n c⟩
