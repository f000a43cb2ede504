import PyProof.Rows.All
import Wide.All
import OpenK.AllK
import Wide.FinOn
import HandS.ForMost
import HandS.TupAny
import KE.LtData
import HandS.Deep
import HandS.Wide
import HandS.TupLe
import PyProof.Rows.InDataRows
import HandS.Flow
import HandS.List
import HandS.Dict
import HandS.Text
import HandS.TupLen
import HandS.Conv
import PyProof.TupleOfStr
import PyProof.ListStr
import HandS.IsInst
import HandS.WordsDict
import HandS.Comp
import HandS.DictComp
import HandS.Style
import HandS.Defaults
import HandS.CallLocal
import HandS.Words
import HandS.Codes
import HandS.Iter
import HandS.Zip
import KE.GoesMore
import PyProof.EnumMake
import KE.SortData
import KE.LtSeq
import HandS.TupSets
import HandS.Strs
import HandS.SetTxt0
import HandS.SetFor
import HandS.Remove
import HandS.Ends
import HandS.Head0
import HandS.Head1
import HandS.Head2
import HandS.HeadEnd
import HandS.HeadHook1
import HandS.HeadHook2
import PySem.Challenge.RW_underheard_k05_whole_hearts
set_option Elab.async false
set_option linter.all false
set_option maxRecDepth 100000
/-! M1: a small functional reading of the program: values, states, what each piece of code gives. -/
namespace Mi
open PySem

/-- a container that may still change -/
inductive OD where
  | lst (xs : List PyData)
  | dic (kvs : List (PyData × PyData))
  | set (xs : List PyData)
/-- a value: data, a container that is at rest, the n-th shared object, a def -/
inductive Wv where
  | d (x : PyData)
  | c (o : OD)
  | obj (n : Nat)
  | raw (v : L2.V)
  | ro (xs : List PyData)
/-- what an expression hands back: a value, a container just made, the container that slot i owns -/
inductive Rv where
  | w (v : Wv)
  | fr (o : OD)
  | pk (i : Nat)
inductive Sl where
  | un
  | w (v : Wv)
  | ow (o : OD)
abbrev Rho := List Sl
abbrev Sto := List OD
inductive Rs (α : Type) where
  | ok (a : α) (r : Rho) (s : Sto)
  | no
abbrev M (α : Type) := Rho → Sto → Rs α
def Rs.bind {α β : Type} : Rs α → (α → M β) → Rs β
  | .ok a r s, f => f a r s
  | .no, _ => .no
def M.pure {α : Type} (a : α) : M α := fun r s => .ok a r s
def M.bind {α β : Type} (m : M α) (f : α → M β) : M β := fun r s => (m r s).bind f
instance : Monad M where
  pure := M.pure
  bind := M.bind
def fail {α : Type} : M α := fun _ _ => .no
def ofOpt {α : Type} : Option α → M α
  | some a => M.pure a
  | none => fail
def guardM (b : Bool) : M Unit := if b then M.pure () else fail

/-- a container at rest as a value -/
def frzW : OD → Wv
  | .lst xs => .d (.list xs)
  | .dic kvs => .c (.dic kvs)
  | .set xs => .c (.set xs)
/-- an operand: what was just made is laid to rest; what a slot owns stays its own -/
def opd : Rv → Rv
  | .fr o => .w (frzW o)
  | r => r
/-- laid to rest, the slot's too -/
def rest : Rv → M Wv
  | .w v => M.pure v
  | .fr o => M.pure (frzW o)
  | .pk i => fun r s => match r[i]? with
    | some (.ow o) => .ok (frzW o) (r.set i (.w (frzW o))) s
    | some (.w v) => .ok v r s
    | _ => .no
/-- shared from now on -/
def share : Rv → M Wv
  | .pk i => fun r s => match r[i]? with
    | some (.ow o) => .ok (.obj s.length) (r.set i (.w (.obj s.length))) (s ++ [o])
    | some (.w v) => .ok v r s
    | _ => .no
  | .fr o => fun r s => .ok (.obj s.length) r (s ++ [o])
  | r => rest r
/-- what stands there now -/
inductive Ct where
  | d (x : PyData)
  | o (o : OD)
  | s (xs : List PyData)
def ctW (s : Sto) : Wv → Option Ct
  | .d (.list xs) => some (.o (.lst xs))
  | .d x => some (.d x)
  | .c o => some (.o o)
  | .obj n => (s[n]?).map Ct.o
  | .raw _ => none
  | .ro xs => some (.s xs)
def ctR (r : Rho) (s : Sto) : Rv → Option Ct
  | .w v => ctW s v
  | .fr o => some (.o o)
  | .pk i => match r[i]? with
    | some (.ow o) => some (.o o)
    | some (.w v) => ctW s v
    | _ => none
def ct (v : Rv) : M Ct := fun r s => match ctR r s v with
  | some c => .ok c r s
  | none => .no
def Ct.data? : Ct → Option PyData
  | .d x => some x
  | .o (.lst xs) => some (.list xs)
  | _ => none
/-- as data -/
def dat (v : Rv) : M PyData := M.bind (ct v) fun c => ofOpt c.data?
def seq? : Ct → Option (List PyData)
  | .d (.tuple xs) => some xs
  | .o (.lst xs) => some xs
  | _ => none
def truthC : Ct → Option Bool
  | .d .none => some false
  | .d (.bool b) => some b
  | .d (.int i) => some (i != 0)
  | .d (.str x) => if decide (x.length ≤ sizeLine) then some ((x.length : Int) != 0) else none
  | .d (.tuple xs) => some (!xs.isEmpty)
  | .o (.lst xs) => some (!xs.isEmpty)
  | _ => none
def ad (x : PyData) : Rv := .w (.d x)
def bl (b : Bool) : Rv := ad (.bool b)

/-! ### operators -/
inductive BinO where
  | add | sub | mul | fdiv | mod | pow | bor
  deriving DecidableEq
inductive CmpO where
  | eq | ne | lt | le | gt | ge | isn | nisn | inn | nin
  deriving DecidableEq
def size (n : Nat) : Bool := decide (n ≤ sizeLine)
def cmul (i j : Int) : Bool := decide (-(2 ^ 64) < i ∧ i < 2 ^ 64) || decide (-(2 ^ 64) < j ∧ j < 2 ^ 64)
def addC : Ct → Ct → Option Rv
  | .d (.int i), .d (.int j) => some (ad (.int (i + j)))
  | .d (.str x), .d (.str y) => if size (x.length + y.length) then some (ad (.str (x ++ y))) else none
  | .d (.tuple xs), .d (.tuple ys) => if size (xs.length + ys.length) then some (ad (.tuple (xs ++ ys))) else none
  | .o (.lst xs), .o (.lst ys) => if size (xs.length + ys.length) then some (.fr (.lst (xs ++ ys))) else none
  | _, _ => none
def intC (f : Int → Int → Option Int) : Ct → Ct → Option Rv
  | .d (.int i), .d (.int j) => (f i j).map fun k => ad (.int k)
  | _, _ => none
def subI (i j : Int) : Option Int := some (i - j)
def mulI (i j : Int) : Option Int := if cmul i j then some (i * j) else none
def fdivI (i j : Int) : Option Int := if decide (j ≠ 0 ∧ j.natAbs < 1073741824) then some (i.fdiv j) else none
def modI (i j : Int) : Option Int := if decide (j ≠ 0) then some (i.fmod j) else none
def powI (i j : Int) : Option Int := if decide (0 ≤ j ∧ j ≤ 1000000 ∧ i.natAbs < 2 ^ 64) then some (i ^ j.toNat) else none
def binC : BinO → Ct → Ct → Option Rv
  | .add => addC
  | .sub => intC subI
  | .mul => intC mulI
  | .fdiv => intC fdivI
  | .mod => intC modI
  | .pow => intC powI
  | .bor => fun _ _ => none
/-- deep enough to be compared -/
def shp (d : PyData) : Bool := decide (d.depth ≤ 60)
def eqD (x y : PyData) : Option Bool := if shp x || shp y then some (PyData.eqv x y) else none
/-- x < y, of one make -/
def ltD (x y : PyData) : Option Bool := match x with
  | .none => none
  | _ => if shp x && W.alike x y then some (W.dataLt x y) else none
def ordI (f : Int → Int → Bool) : PyData → PyData → Option Bool
  | .int i, .int j => some (f i j)
  | _, _ => none
def isD : PyData → PyData → Option Bool
  | .bool a, .bool b => some (decide (a = b))
  | .none, .none => some true
  | .bool _, .none => some false
  | .int _, .none => some false
  | .str _, .none => some false
  | .tuple _, .none => some false
  | .list _, .none => some false
  | _, _ => none
def cmpD : CmpO → PyData → PyData → Option Bool
  | .eq, x, y => eqD x y
  | .ne, x, y => (eqD x y).map (!·)
  | .lt, x, y => ltD x y
  | .le, x, y => ordI (fun i j => decide (i ≤ j)) x y
  | .gt, x, y => ordI (fun i j => decide (j < i)) x y
  | .ge, x, y => ordI (fun i j => decide (j ≤ i)) x y
  | .isn, x, y => isD x y
  | .nisn, x, y => (isD x y).map (!·)
  | _, _, _ => none
/-- x in y -/
def innC : Ct → Ct → Option Bool
  | c, .d (.tuple ys) => c.data?.bind fun x => if shp x then some (ys.any fun z => PyData.eqv z x) else none
  | c, .o (.lst ys) => c.data?.bind fun x => if shp x then some (ys.any fun z => PyData.eqv z x) else none
  | .d (.str x), .d (.str y) => some (!(Builtin.Str.occurrences y x 0 y.length 1).isEmpty)
  | _, _ => none
def cmpC : CmpO → Ct → Ct → Option Rv
  | .inn, a, b => (innC a b).map bl
  | .nin, a, b => (innC a b).map fun k => bl (!k)
  | o, a, b => a.data?.bind fun x => b.data?.bind fun y => (cmpD o x y).map bl
end Mi
set_option Elab.async false
set_option linter.all false
set_option maxRecDepth 100000
/-! M2: how the small reading's states lie in the abstract heap. -/
namespace Mi
open PySem L2

/-- what was tracked stays -/
def Le (H H' : Hp) : Prop := ∀ b o, H b = some o → H' b = some o
theorem Le.rfl {H : Hp} : Le H H := fun _ _ h => h
theorem Le.tr {H H1 H2 : Hp} (a : Le H H1) (b : Le H1 H2) : Le H H2 := fun x o h => b x o (a x o h)
theorem Le.upd {H : Hp} {p : Addr} {o : HO} (h : H p = none) : Le H (L2.upd H p o) := fun a u e => by
  by_cases z : a = p
  · rw [z, h] at e; cases e
  · rw [upd_ne z]; exact e
theorem Le.none {H H' : Hp} {p : Addr} (e : Le H H') (h : H' p = none) : H p = none := by
  cases q : H p with
  | none => exact Eq.refl _
  | some o => rw [e p o q] at h; cases h
theorem Le.rd {H H' : Hp} {a : Addr} {u : HO} (e : Le H H') (h : Rd H a u) : Rd H' a u := by
  rcases h with h | ⟨o, h⟩
  · exact .inl (e _ _ h)
  · exact .inr ⟨o, e _ _ h⟩
theorem Le.sql {K : PySem.W.Frag} {H H' : Hp} {a : Addr} {xs : List V} (e : Le H H') (h : SqL K H a xs) : SqL K H' a xs := h.imp e.rd id
theorem Le.sqt {K : PySem.W.Frag} {H H' : Hp} {a : Addr} {xs : List V} (e : Le H H') (h : SqT K H a xs) : SqT K H' a xs := h.imp e.rd id
mutual
/-- data at x: as the layer has it, but that a list is no constant of the module -/
inductive Dq (K : PySem.W.Frag) (H : Hp) : V → PyData → Prop
  | non : Dq K H .non .none
  | bl (b : Bool) : Dq K H (.bl b) (.bool b)
  | int (i : Int) : Dq K H (.int i) (.int i)
  | str (x : Str) : Dq K H (.str x) (.str x)
  | lst {a : Addr} {xs : List V} {ds : List PyData} : H a = some (.lst xs) → DqAll K H xs ds → Dq K H (.ref a) (.list ds)
  | tup {a : Addr} {xs : List V} {ds : List PyData} : SqT K H a xs → (xs ≠ [] → H a = some (.tup xs)) → DqAll K H xs ds → Dq K H (.ref a) (.tuple ds)
inductive DqAll (K : PySem.W.Frag) (H : Hp) : List V → List PyData → Prop
  | nil : DqAll K H [] []
  | cons {v : V} {vs : List V} {d : PyData} {ds : List PyData} : Dq K H v d → DqAll K H vs ds → DqAll K H (v :: vs) (d :: ds)
end
mutual
theorem Dq.dp {K : PySem.W.Frag} {H : Hp} : ∀ {v : V} {d : PyData}, Dq K H v d → Dp K H v d
  | _, _, .non => .non
  | _, _, .bl b => .bl b
  | _, _, .int i => .int i
  | _, _, .str x => .str x
  | _, _, .lst s a => .lst (.inl (Rd.of s)) (DqAll.dp a)
  | _, _, .tup s _ a => .tup s (DqAll.dp a)
theorem DqAll.dp {K : PySem.W.Frag} {H : Hp} : ∀ {vs : List V} {ds : List PyData}, DqAll K H vs ds → DpAll K H vs ds
  | _, _, .nil => .nil
  | _, _, .cons a b => .cons (Dq.dp a) (DqAll.dp b)
end
mutual
theorem Dq.le {K : PySem.W.Frag} {H H' : Hp} (e : Le H H') : ∀ {v : V} {d : PyData}, Dq K H v d → Dq K H' v d
  | _, _, .non => .non
  | _, _, .bl b => .bl b
  | _, _, .int i => .int i
  | _, _, .str x => .str x
  | _, _, .lst s a => .lst (e _ _ s) (DqAll.le e a)
  | _, _, .tup s t a => .tup (e.sqt s) (fun n => e _ _ (t n)) (DqAll.le e a)
theorem DqAll.le {K : PySem.W.Frag} {H H' : Hp} (e : Le H H') : ∀ {vs : List V} {ds : List PyData}, DqAll K H vs ds → DqAll K H' vs ds
  | _, _, .nil => .nil
  | _, _, .cons a b => .cons (Dq.le e a) (DqAll.le e b)
end
section
variable {K : PySem.W.Frag} {H H' : Hp}
theorem DqAll.len : ∀ {vs : List V} {ds : List PyData}, DqAll K H vs ds → vs.length = ds.length
  | _, _, .nil => rfl
  | _, _, .cons _ b => by simp [DqAll.len b]
theorem DqAll.get : ∀ {vs : List V} {ds : List PyData} {i : Nat} {d : PyData}, DqAll K H vs ds → ds[i]? = some d → ∃ v, vs[i]? = some v ∧ Dq K H v d
  | _, _, _, _, .nil, e => by simp at e
  | _, _, 0, _, .cons a b, e => by simp at e; subst e; exact ⟨_, rfl, a⟩
  | _, _, i + 1, _, .cons a b, e => by
    obtain ⟨v, h1, h2⟩ := DqAll.get (i := i) b (by simpa using e)
    exact ⟨v, by simpa using h1, h2⟩
theorem DqAll.app : ∀ {vs ws : List V} {ds es : List PyData}, DqAll K H vs ds → DqAll K H ws es → DqAll K H (vs ++ ws) (ds ++ es)
  | _, _, _, _, .nil, h => h
  | _, _, _, _, .cons a b, h => .cons a (DqAll.app b h)
theorem DqAll.tk : ∀ {vs : List V} {ds : List PyData} (n : Nat), DqAll K H vs ds → DqAll K H (vs.take n) (ds.take n)
  | _, _, 0, _ => .nil
  | _, _, _ + 1, .nil => .nil
  | _, _, n + 1, .cons a b => .cons a (DqAll.tk n b)
theorem DqAll.dr : ∀ {vs : List V} {ds : List PyData} (n : Nat), DqAll K H vs ds → DqAll K H (vs.drop n) (ds.drop n)
  | _, _, 0, h => h
  | _, _, _ + 1, .nil => .nil
  | _, _, n + 1, .cons _ b => DqAll.dr n b
theorem DqAll.st : ∀ {vs : List V} {ds : List PyData} (n : Nat) {v : V} {d : PyData}, DqAll K H vs ds → Dq K H v d → DqAll K H (vs.set n v) (ds.set n d)
  | _, _, _, _, _, .nil, _ => .nil
  | _, _, 0, _, _, .cons _ b, h => .cons h b
  | _, _, n + 1, _, _, .cons a b, h => .cons a (DqAll.st n b h)
end
section
theorem cl_get : ∀ {ds : List PyData} {i : Nat} {d : PyData}, PyData.canLayAll0 ds = true → ds[i]? = some d → d.canLay0 = true
  | [], _, _, _, e => by simp at e
  | x :: r, 0, d, h, e => by
    have h' : (x.canLay0 && PyData.canLayAll0 r) = true := by rw [PyData.canLayAll0] at h; exact h
    simp at e; subst e; exact (Bool.and_eq_true_iff.mp h').1
  | x :: r, i + 1, d, h, e => by
    have h' : (x.canLay0 && PyData.canLayAll0 r) = true := by rw [PyData.canLayAll0] at h; exact h
    exact cl_get (Bool.and_eq_true_iff.mp h').2 (by simpa using e)
theorem cl_all {ds : List PyData} : PyData.canLayAll0 ds = true ↔ ∀ d ∈ ds, d.canLay0 = true := by
  induction ds with
  | nil => simp [PyData.canLayAll0]
  | cons x r ih => rw [PyData.canLayAll0, Bool.and_eq_true_iff, ih]; simp
theorem cl_sub {ds es : List PyData} (h : PyData.canLayAll0 ds = true) (s : ∀ d ∈ es, d ∈ ds) : PyData.canLayAll0 es = true := cl_all.mpr fun d hd => cl_all.mp h d (s d hd)
theorem cl_app {ds es : List PyData} (h : PyData.canLayAll0 ds = true) (k : PyData.canLayAll0 es = true) : PyData.canLayAll0 (ds ++ es) = true := cl_all.mpr fun d hd => by
  rcases List.mem_append.mp hd with z | z
  · exact cl_all.mp h d z
  · exact cl_all.mp k d z
theorem cl_lst {ds : List PyData} : PyData.canLay0 (.list ds) = PyData.canLayAll0 ds := by rw [PyData.canLay0]
theorem cl_tup {ds : List PyData} : PyData.canLay0 (.tuple ds) = PyData.canLayAll0 ds := by rw [PyData.canLay0]
end

/-! ### keys of dicts -/
def keyK : PyData → Option Key
  | .int i => some (.inl i)
  | .str x => some (.inr x)
  | _ => none
def keysT : PyData → Option (List Key)
  | .tuple (x :: xs) => (keyK x).bind fun k => (xs.mapM keyK).map fun ks => k :: ks
  | _ => none
/-- the frame of a reading: what was there at the def's entry -/
structure Fx where
  K : PySem.W.Frag
  P : Program
  w : World
  H0 : Hp
  A0 : List Addr
  R0 : Hp
variable (F : Fx)
/-- data at x, and such as may be compared -/
def Dv (Hd : Hp) (x : V) (d : PyData) : Prop := Dq F.K Hd x d ∧ d.canLay0 = true
def DvAll (Hd : Hp) (xs : List V) (ds : List PyData) : Prop := DqAll F.K Hd xs ds ∧ PyData.canLayAll0 ds = true
/-- a dict's pairs, keys ints and texts -/
def KvK (Hd : Hp) : List (Key × V) → List (PyData × PyData) → Prop
  | [], [] => True
  | (k, v) :: r, (d, e) :: q => (keyK d = some k ∧ d.canLay0 = true) ∧ Dv F Hd v e ∧ KvK Hd r q
  | _, _ => False
/-- .. keys tuples of such -/
def KvT (Hd : Hp) : List (List Key × V) → List (PyData × PyData) → Prop
  | [], [] => True
  | (k, v) :: r, (d, e) :: q => (keysT d = some k ∧ d.canLay0 = true) ∧ Dv F Hd v e ∧ KvT Hd r q
  | _, _ => False
/-- the container at a -/
def RepO (H Hd : Hp) (a : Addr) : OD → Prop
  | .lst ds => ∃ vs, H a = some (.lst vs) ∧ DvAll F Hd vs ds
  | .dic kvs => ∃ ks, H a = some (.dK ks) ∧ KvK F Hd ks kvs
  | .set _ => False
def RepW (Hd : Hp) (A : List Addr) (x : V) : Wv → Prop
  | .d d => Dv F Hd x d
  | .c o => ∃ a, x = .ref a ∧ RepO F Hd Hd a o
  | .obj n => ∃ a, x = .ref a ∧ A[n]? = some a
  | .raw v => x = v
  | .ro ds => ∃ a vs, x = .ref a ∧ SqL F.K Hd a vs ∧ DvAll F Hd vs ds
section
variable {F : Fx} {H H' Hd Hd' : Hp} {a : Addr} {A A' : List Addr} {x : V}
theorem Dv.le (e : Le Hd Hd') {d : PyData} (h : Dv F Hd x d) : Dv F Hd' x d := ⟨Dq.le e h.1, h.2⟩
theorem DvAll.le (e : Le Hd Hd') {xs : List V} {ds : List PyData} (h : DvAll F Hd xs ds) : DvAll F Hd' xs ds := ⟨DqAll.le e h.1, h.2⟩
theorem KvK.le (e : Le Hd Hd') : ∀ {ks : List (Key × V)} {kvs : List (PyData × PyData)}, KvK F Hd ks kvs → KvK F Hd' ks kvs
  | [], [], _ => trivial
  | (_, _) :: _, (_, _) :: _, h => ⟨h.1, Dv.le e h.2.1, KvK.le e h.2.2⟩
  | [], _ :: _, h => h.elim
  | _ :: _, [], h => h.elim
theorem KvT.le (e : Le Hd Hd') : ∀ {ks : List (List Key × V)} {kvs : List (PyData × PyData)}, KvT F Hd ks kvs → KvT F Hd' ks kvs
  | [], [], _ => trivial
  | (_, _) :: _, (_, _) :: _, h => ⟨h.1, Dv.le e h.2.1, KvT.le e h.2.2⟩
  | [], _ :: _, h => h.elim
  | _ :: _, [], h => h.elim
/-- the container at a stays where its own place stays -/
theorem RepO.le (e : Le Hd Hd') {o : OD} (ha : ∀ u, H a = some u → H' a = some u) (h : RepO F H Hd a o) : RepO F H' Hd' a o := by
  cases o with
  | lst ds => obtain ⟨vs, h1, h2⟩ := h; exact ⟨vs, ha _ h1, h2.le e⟩
  | dic kvs => obtain ⟨ks, h1, h2⟩ := h; exact ⟨ks, ha _ h1, h2.le e⟩
  | set xs => exact h.elim
theorem RepO.some {o : OD} (h : RepO F H Hd a o) : ∃ u, H a = some u := by
  cases o with
  | lst ds => obtain ⟨vs, h1, _⟩ := h; exact ⟨_, h1⟩
  | dic kvs => obtain ⟨ks, h1, _⟩ := h; exact ⟨_, h1⟩
  | set xs => exact h.elim
theorem RepW.le (e : Le Hd Hd') (p : A <+: A') {v : Wv} (h : RepW F Hd A x v) : RepW F Hd' A' x v := by
  cases v with
  | d d => exact Dv.le e h
  | c o => obtain ⟨a, h1, h2⟩ := h; exact ⟨a, h1, h2.le e (e a)⟩
  | obj n =>
    obtain ⟨a, h1, h2⟩ := h
    obtain ⟨t, rfl⟩ := p
    refine ⟨a, h1, ?_⟩
    have hn : n < A.length := (List.getElem?_eq_some_iff.mp h2).1
    rw [List.getElem?_append_left hn]; exact h2
  | raw y => exact h
  | ro ds => obtain ⟨a, vs, h1, h2, h3⟩ := h; exact ⟨a, vs, h1, e.sql h2, h3.le e⟩
end

/-- what stands in a slot -/
def SlR (H Hd : Hp) (A : List Addr) (o : Option (Option V)) : Sl → Prop
  | .un => True
  | .w v => ∃ x, o = some (some x) ∧ RepW F Hd A x v
  | .ow d => ∃ a, o = some (some (.ref a)) ∧ Hd a = none ∧ a ∉ A ∧ F.H0 a = none ∧ RepO F H Hd a d
/-- a state of the reading lies here -/
structure Good (σ : L2.St) (H : Hp) (r : Rho) (s : Sto) (A : List Addr) (Hd : Hp) : Prop where
  le : Le Hd H
  len : σ.length = r.length
  shl : s.length = A.length
  sh : ∀ (n : Nat) (a : Addr) (o : OD), A[n]? = some a → s[n]? = some o → Hd a = none ∧ RepO F H Hd a o
  nd : A.Nodup
  pre : F.A0 <+: A
  new : ∀ a, a ∈ A → a ∉ F.A0 → F.H0 a = none
  keep : ∀ b o, F.H0 b = some o → b ∉ F.A0 → H b = some o
  env : ∀ (i : Nat) (c : Sl), r[i]? = some c → SlR F H Hd A σ[i]? c
  sep : ∀ (i j : Nat) (o o' : OD) (a : Addr), r[i]? = some (.ow o) → r[j]? = some (.ow o') → σ[i]? = some (some (.ref a)) → σ[j]? = some (some (.ref a)) → i = j
  hdr : ∀ (b : Addr) (o : HO), Hd b = some o → F.H0 b = none ∨ F.R0 b ≠ none
/-- what an expression hands back -/
def RvR (σ : L2.St) (H Hd : Hp) (A : List Addr) (r : Rho) (x : V) : Rv → Prop
  | .w v => RepW F Hd A x v
  | .fr o => ∃ a, x = .ref a ∧ Hd a = none ∧ a ∉ A ∧ F.H0 a = none ∧ RepO F H Hd a o ∧ ∀ (i : Nat) (o' : OD), r[i]? = some (.ow o') → σ[i]? ≠ some (some (.ref a))
  | .pk i => σ[i]? = some (some x)
/-- an expression's reading, told by its small reading m -/
def tI (m : M Rv) : TE := fun σ H Q => ∃ r s A Hd, Good F σ H r s A Hd ∧ match m r s with
  | .ok v r' s' => ∀ x H' A' Hd', Good F σ H' r' s' A' Hd' → A <+: A' → Le Hd Hd' → RvR F σ H' Hd' A' r' x v → Q x H'
  | .no => False
end Mi
set_option Elab.async false
set_option linter.all false
set_option maxRecDepth 100000
/-! M3: the moves common to all rules. -/
namespace Mi
open PySem L2
theorem PE.imp {X : Cx} {e : Expr} {t t' : TE} (h : PE X e t) (k : ∀ σ H Q, t' σ H Q → t σ H Q) : PE X e t' := ⟨fun pins s σ H Q I q => h.run pins s σ H Q I (k σ H Q q)⟩
theorem PA.imp {X : Cx} {es : List Expr} {t t' : TA} (h : PA X es t) (k : ∀ σ H Q, t' σ H Q → t σ H Q) : PA X es t' := ⟨fun pos pins s σ H Q I q => h.run pos pins s σ H Q I (k σ H Q q)⟩
theorem PS.imp {X : Cx} {st : Stmt} {t t' : TS} (h : PS X st t) (k : ∀ D σ H, t' D σ H → t D σ H) : PS X st t' := ⟨fun pins s σ H D I q => h.run pins s σ H D I (k D σ H q)⟩
theorem PSs.imp {X : Cx} {st : List Stmt} {t t' : TS} (h : PSs X st t) (k : ∀ D σ H, t' D σ H → t D σ H) : PSs X st t' := ⟨fun pins s σ H D I q => h.run pins s σ H D I (k D σ H q)⟩

theorem Rs.bind_ok {α β : Type} {m : M α} {f : α → M β} {r : Rho} {s : Sto} {a : α} {r' : Rho} {s' : Sto} (h : m r s = .ok a r' s') : M.bind m f r s = f a r' s' := by
  show (m r s).bind f = _
  rw [h]; rfl
theorem Rs.bind_no {α β : Type} {m : M α} {f : α → M β} {r : Rho} {s : Sto} (h : m r s = .no) : M.bind m f r s = .no := by
  show (m r s).bind f = _
  rw [h]; rfl

section
variable {F : Fx} {σ : L2.St} {H : Hp} {r : Rho} {s : Sto} {A : List Addr} {Hd : Hp} {x : V}
/-- a container is laid to rest -/
theorem Good.frz (G : Good F σ H r s A Hd) {o : OD} (h : RvR F σ H Hd A r x (.fr o)) : ∃ Hd2, Good F σ H r s A Hd2 ∧ Le Hd Hd2 ∧ RepW F Hd2 A x (frzW o) := by
  obtain ⟨a, rfl, h1, h2, h3, h4, h5⟩ := h
  obtain ⟨u, hu⟩ := h4.some
  have e : Le Hd (upd Hd a u) := Le.upd h1
  refine ⟨upd Hd a u, ⟨fun b v q => ?_, G.len, G.shl, fun n b o' p q => ?_, G.nd, G.pre, G.new, G.keep, fun i c q => ?_, G.sep, fun b v q => by
    by_cases z : b = a
    · subst z; exact .inl h3
    · rw [upd_ne z] at q; exact G.hdr _ _ q⟩, e, ?_⟩
  · by_cases z : b = a
    · subst z; rw [upd_same] at q; cases q; exact hu
    · rw [upd_ne z] at q; exact G.le _ _ q
  · obtain ⟨k1, k2⟩ := G.sh n b o' p q
    have ne : b ≠ a := fun z => h2 (z ▸ List.mem_of_getElem? p)
    exact ⟨by rw [upd_ne ne]; exact k1, k2.le e fun _ z => z⟩
  · have k := G.env i c q
    cases c with
    | un => trivial
    | w v => obtain ⟨y, k1, k2⟩ := k; exact ⟨y, k1, k2.le e (List.prefix_refl _)⟩
    | ow d =>
      obtain ⟨b, k1, k2, k3, k4, k5⟩ := k
      have ne : b ≠ a := fun z => h5 i d q (by rw [k1, z])
      exact ⟨b, k1, by rw [upd_ne ne]; exact k2, k3, k4, k5.le e fun _ z => z⟩
  · cases o with
    | lst ds =>
      obtain ⟨vs, k1, k2⟩ := h4
      rw [hu] at k1; cases k1
      exact ⟨.lst upd_same (DqAll.le e k2.1), cl_lst.trans k2.2⟩
    | dic kvs => exact ⟨a, rfl, RepO.le (H := H) (H' := upd Hd a u) e (fun v q => by rw [hu] at q; cases q; exact upd_same) h4⟩
    | set xs => exact h4.elim
/-- the slot that owns a container lets it rest -/
theorem Good.frzS (G : Good F σ H r s A Hd) {i : Nat} {o : OD} (hi : r[i]? = some (.ow o)) (hx : σ[i]? = some (some x)) : ∃ Hd2, Good F σ H (r.set i (.w (frzW o))) s A Hd2 ∧ Le Hd Hd2 ∧ RepW F Hd2 A x (frzW o) := by
  obtain ⟨a, k1, k2, k3, k4, k5⟩ := G.env i _ hi
  rw [hx] at k1; cases k1
  have hl : i < r.length := (List.getElem?_eq_some_iff.mp hi).1
  -- the same state with the slot empty
  have G1 : Good F σ H (r.set i .un) s A Hd := by
    refine ⟨G.le, by rw [List.length_set]; exact G.len, G.shl, G.sh, G.nd, G.pre, G.new, G.keep, fun j c q => ?_, fun j k o1 o2 b q1 q2 e1 e2 => ?_, G.hdr⟩
    · by_cases z : j = i
      · subst z; rw [List.getElem?_set_self hl] at q; cases q; trivial
      · rw [List.getElem?_set_ne (Ne.symm z)] at q; exact G.env j c q
    · have f : ∀ {j : Nat} {o1 : OD}, (r.set i .un)[j]? = some (.ow o1) → r[j]? = some (.ow o1) := fun {j o1} q => by
        by_cases z : j = i
        · subst z; rw [List.getElem?_set_self hl] at q; cases q
        · rw [List.getElem?_set_ne (Ne.symm z)] at q; exact q
      exact G.sep j k o1 o2 b (f q1) (f q2) e1 e2
  have hR : RvR F σ H Hd A (r.set i .un) (.ref a) (.fr o) := ⟨a, rfl, k2, k3, k4, k5, fun j o' q e => by
    by_cases z : j = i
    · subst z; rw [List.getElem?_set_self hl] at q; cases q
    · rw [List.getElem?_set_ne (Ne.symm z)] at q
      exact z (G.sep j i o' o a q hi e hx)⟩
  obtain ⟨Hd2, G2, e, w⟩ := G1.frz hR
  refine ⟨Hd2, ⟨G2.le, by rw [List.length_set]; exact G.len, G2.shl, G2.sh, G2.nd, G2.pre, G2.new, G2.keep, fun j c q => ?_, fun j k o1 o2 b q1 q2 e1 e2 => ?_, G2.hdr⟩, e, w⟩
  · by_cases z : j = i
    · subst z; rw [List.getElem?_set_self hl] at q; cases q; exact ⟨_, hx, w⟩
    · have q' : (r.set i .un)[j]? = some c := by rw [List.getElem?_set_ne (Ne.symm z)] at q ⊢; exact q
      exact G2.env j c q'
  · have f : ∀ {j : Nat} {o1 : OD}, (r.set i (.w (frzW o)))[j]? = some (.ow o1) → r[j]? = some (.ow o1) := fun {j o1} q => by
      by_cases z : j = i
      · subst z; rw [List.getElem?_set_self hl] at q; cases q
      · rw [List.getElem?_set_ne (Ne.symm z)] at q; exact q
    exact G.sep j k o1 o2 b (f q1) (f q2) e1 e2
/-- what rest gives -/
theorem Good.rest (G : Good F σ H r s A Hd) {v : Rv} (h : RvR F σ H Hd A r x v) {w : Wv} {r' : Rho} {s' : Sto} (e : Mi.rest v r s = .ok w r' s') : s' = s ∧ ∃ Hd2, Good F σ H r' s A Hd2 ∧ Le Hd Hd2 ∧ RepW F Hd2 A x w := by
  cases v with
  | w v => cases e; exact ⟨rfl, Hd, G, Le.rfl, h⟩
  | fr o =>
    cases e
    exact ⟨rfl, G.frz h⟩
  | pk i =>
    have h1 : σ[i]? = some (some x) := h
    simp only [Mi.rest] at e
    cases h2 : r[i]? with
    | none => rw [h2] at e; cases e
    | some c =>
      rw [h2] at e
      cases c with
      | un => cases e
      | w v =>
        cases e
        obtain ⟨y, k1, k2⟩ := G.env i _ h2
        rw [h1] at k1; cases k1
        exact ⟨rfl, Hd, G, Le.rfl, k2⟩
      | ow o =>
        cases e
        exact ⟨rfl, G.frzS h2 h1⟩
/-- an operand after the next one has come -/
theorem RvR.later {r' : Rho} {H' Hd' : Hp} {A' : List Addr} (p : A <+: A') (e : Le Hd Hd') {v : Rv} (h : RvR F σ H Hd A r x (opd v)) : RvR F σ H' Hd' A' r' x (opd v) := by
  cases v with
  | w v => exact RepW.le e p h
  | fr o => exact RepW.le e p (show RepW F Hd A x (frzW o) from h)
  | pk i => exact h
/-- .. and before it -/
theorem Good.opd (G : Good F σ H r s A Hd) {v : Rv} (h : RvR F σ H Hd A r x v) : ∃ Hd2, Good F σ H r s A Hd2 ∧ Le Hd Hd2 ∧ RvR F σ H Hd2 A r x (Mi.opd v) := by
  cases v with
  | w v => exact ⟨Hd, G, Le.rfl, h⟩
  | fr o =>
    obtain ⟨Hd2, G2, e, w⟩ := G.frz h
    exact ⟨Hd2, G2, e, w⟩
  | pk i => exact ⟨Hd, G, Le.rfl, h⟩

/-! ### what stands there -/
/-- a container to be read -/
def RdO (F : Fx) (H Hd : Hp) (x : V) : OD → Prop
  | .lst ds => ∃ a vs, x = .ref a ∧ H a = some (.lst vs) ∧ DvAll F Hd vs ds
  | o => ∃ a, x = .ref a ∧ RepO F H Hd a o
def CtR (F : Fx) (H Hd : Hp) (x : V) : Ct → Prop
  | .d d => Dv F Hd x d ∧ ∀ xs, d ≠ .list xs
  | .o o => RdO F H Hd x o
  | .s ds => ∃ a vs, x = .ref a ∧ SqL F.K H a vs ∧ DvAll F Hd vs ds
theorem RepO.rd {a : Addr} {o : OD} (h : RepO F H Hd a o) : RdO F H Hd (.ref a) o := by
  cases o with
  | lst ds => obtain ⟨vs, h1, h2⟩ := h; exact ⟨a, vs, rfl, h1, h2⟩
  | dic kvs => exact ⟨a, rfl, h⟩
  | set xs => exact ⟨a, rfl, h⟩
theorem Good.ctW (G : Good F σ H r s A Hd) {v : Wv} {c : Ct} (h : RepW F Hd A x v) (e : Mi.ctW s v = some c) : CtR F H Hd x c := by
  cases v with
  | d d =>
    have gen : (∀ xs, d ≠ .list xs) → Mi.ctW s (.d d) = some (.d d) := fun n => by cases d <;> first | rfl | exact absurd rfl (n _)
    cases d with
    | list xs =>
      cases e
      obtain ⟨h1, h2⟩ := h
      cases h1 with
      | lst k1 k2 =>
        exact ⟨_, _, rfl, G.le _ _ k1, k2, cl_lst.symm.trans h2⟩
    | _ =>
      rw [gen (fun xs => by intro z; cases z)] at e
      cases e
      exact ⟨h, fun xs => by intro z; cases z⟩
  | c o =>
    cases e
    obtain ⟨a, rfl, k⟩ := h
    exact (RepO.le (H := Hd) (H' := H) Le.rfl (fun u q => G.le _ _ q) k).rd
  | obj n =>
    obtain ⟨a, rfl, k⟩ := h
    cases q : s[n]? with
    | none => simp [Mi.ctW, q] at e
    | some o =>
      simp [Mi.ctW, q] at e
      subst e
      exact (G.sh n a o k q).2.rd
  | raw y => cases e
  | ro ds =>
    cases e
    obtain ⟨a, vs, h1, h2, h3⟩ := h
    exact ⟨a, vs, h1, G.le.sql h2, h3⟩
theorem Good.ctR (G : Good F σ H r s A Hd) {v : Rv} {c : Ct} (h : RvR F σ H Hd A r x v) (e : Mi.ctR r s v = some c) : CtR F H Hd x c := by
  cases v with
  | w v => exact G.ctW h e
  | fr o =>
    cases e
    obtain ⟨a, rfl, _, _, _, h4, _⟩ := h
    exact h4.rd
  | pk i =>
    have h1 : σ[i]? = some (some x) := h
    simp only [Mi.ctR] at e
    cases h2 : r[i]? with
    | none => rw [h2] at e; cases e
    | some c' =>
      rw [h2] at e
      have k := G.env i _ h2
      cases c' with
      | un => cases e
      | w v =>
        obtain ⟨y, k1, k2⟩ := k
        rw [h1] at k1; cases k1
        exact G.ctW k2 e
      | ow o =>
        cases e
        obtain ⟨a, k1, _, _, _, k5⟩ := k
        rw [h1] at k1; cases k1
        exact k5.rd
/-- as data, over the whole heap -/
theorem Good.dat (G : Good F σ H r s A Hd) {c : Ct} {d : PyData} (h : CtR F H Hd x c) (e : c.data? = some d) : Dv F H x d := by
  cases c with
  | d y => cases e; exact h.1.le G.le
  | o o =>
    cases o with
    | lst xs =>
      cases e
      obtain ⟨a, vs, rfl, h1, h2⟩ := h
      exact ⟨.lst h1 (DqAll.le G.le h2.1), cl_lst.trans h2.2⟩
    | dic kvs => cases e
    | set xs => cases e
  | s xs => cases e
end

/-! ### argument lists -/
/-- the operands, one behind another -/
def evs : List (M Rv) → M (List Rv)
  | [] => M.pure []
  | m :: ms => M.bind m fun v => M.bind (evs ms) fun vs => M.pure (opd v :: vs)
def RvRs (F : Fx) (σ : L2.St) (H Hd : Hp) (A : List Addr) (r : Rho) : List V → List Rv → Prop
  | [], [] => True
  | x :: xs, v :: vs => RvR F σ H Hd A r x v ∧ RvRs F σ H Hd A r xs vs
  | _, _ => False
def tIs (F : Fx) (m : M (List Rv)) : TA := fun σ H Q => ∃ r s A Hd, Good F σ H r s A Hd ∧ match m r s with
  | .ok vs r' s' => ∀ xs H' A' Hd', Good F σ H' r' s' A' Hd' → A <+: A' → Le Hd Hd' → RvRs F σ H' Hd' A' r' xs vs → Q xs H'
  | .no => False
section
variable {F : Fx} {X : Cx}
theorem pa_nilI : PA X [] (tIs F (evs [])) := PA.imp pa_nil fun σ H Q ⟨r, s, A, Hd, G, h⟩ => h [] H A Hd G (List.prefix_refl _) Le.rfl trivial
theorem pa_consI {e : Expr} {es : List Expr} {m : M Rv} {ms : List (M Rv)} (he : PE X e (tI F m)) (hs : PA X es (tIs F (evs ms))) (hst : starEach (e :: es) X.env = (false, eval e X.env) :: starEach es X.env) : PA X (e :: es) (tIs F (evs (m :: ms))) := by
  refine PA.imp (pa_cons he hs hst) fun σ H Q ⟨r, s, A, Hd, G, h⟩ => ⟨r, s, A, Hd, G, ?_⟩
  cases e1 : m r s with
  | no => simp only [evs] at h; rw [Rs.bind_no e1] at h; exact h
  | ok v r1 s1 =>
    simp only [evs] at h
    rw [Rs.bind_ok e1] at h
    intro x H1 A1 Hd1 G1 p1 l1 k1
    obtain ⟨Hd2, G2, l2, k2⟩ := G1.opd k1
    refine ⟨r1, s1, A1, Hd2, G2, ?_⟩
    cases e2 : evs ms r1 s1 with
    | no => rw [Rs.bind_no e2] at h; exact h
    | ok vs r2 s2 =>
      rw [Rs.bind_ok e2] at h
      intro xs H3 A3 Hd3 G3 p3 l3 k3
      exact h (x :: xs) H3 A3 Hd3 G3 (p1.trans p3) (l1.tr (l2.tr l3)) ⟨RvR.later p3 l3 k2, k3⟩
end
end Mi
set_option Elab.async false
set_option linter.all false
set_option maxRecDepth 100000
/-! M4: operations by what stands at their operands. -/
namespace Mi
open PySem L2
def cts : List Rv → M (List Ct)
  | [] => M.pure []
  | v :: vs => M.bind (ct v) fun c => M.bind (cts vs) fun cs => M.pure (c :: cs)
/-- an operation: its operands in a row, then what it gives -/
def opM (op : List Ct → Option Rv) (ms : List (M Rv)) : M Rv := M.bind (evs ms) fun vs => M.bind (cts vs) fun cs => ofOpt (op cs)
/-- what is wished behind -/
def Wish (F : Fx) (σ : L2.St) (r : Rho) (s : Sto) (A : List Addr) (Hd : Hp) (v : Rv) (Q : VK) : Prop :=
  ∀ x H' A' Hd', Good F σ H' r s A' Hd' → A <+: A' → Le Hd Hd' → RvR F σ H' Hd' A' r x v → Q x H'
def All2 {α β : Type} (R : α → β → Prop) : List α → List β → Prop
  | [], [] => True
  | a :: as, b :: bs => R a b ∧ All2 R as bs
  | _, _ => False
section
variable {F : Fx} {σ : L2.St} {H : Hp} {r : Rho} {s : Sto} {A : List Addr} {Hd : Hp} {x : V} {Q : VK}
theorem cts_of (G : Good F σ H r s A Hd) : ∀ {xs : List V} {vs : List Rv} {cs : List Ct} {r' : Rho} {s' : Sto}, RvRs F σ H Hd A r xs vs → cts vs r s = .ok cs r' s' → r' = r ∧ s' = s ∧ All2 (CtR F H Hd) xs cs
  | [], [], _, _, _, _, e => by cases e; exact ⟨rfl, rfl, trivial⟩
  | x :: xs, v :: vs, cs, r', s', h, e => by
    simp only [cts] at e
    cases q : ctR r s v with
    | none =>
      have e0 : ct v r s = .no := by simp only [ct, q]
      rw [Rs.bind_no e0] at e; cases e
    | some c =>
      have e0 : ct v r s = .ok c r s := by simp only [ct, q]
      rw [Rs.bind_ok e0] at e
      cases q2 : cts vs r s with
      | no => rw [Rs.bind_no q2] at e; cases e
      | ok cs2 r2 s2 =>
        rw [Rs.bind_ok q2] at e
        obtain ⟨rfl, rfl, k⟩ := cts_of G h.2 q2
        cases e
        exact ⟨rfl, rfl, G.ctR h.1 q, k⟩
  | [], _ :: _, _, _, _, h, _ => h.elim
  | _ :: _, [], _, _, _, h, _ => h.elim
/-- a place that no one tracks is not of ours -/
theorem Good.notA (G : Good F σ H r s A Hd) {p : Addr} (hp : H p = none) : p ∉ A := fun h => by
  obtain ⟨n, hn⟩ := List.getElem?_of_mem h
  have hl : n < s.length := by rw [G.shl]; exact (List.getElem?_eq_some_iff.mp hn).1
  obtain ⟨u, hu⟩ := (G.sh n p _ hn (List.getElem?_eq_getElem hl)).2.some
  rw [hp] at hu; cases hu
theorem Good.notO (G : Good F σ H r s A Hd) {p : Addr} (hp : H p = none) {i : Nat} {o : OD} (hi : r[i]? = some (.ow o)) : σ[i]? ≠ some (some (.ref p)) := fun h => by
  obtain ⟨a, k1, _, _, _, k5⟩ := G.env i _ hi
  rw [h] at k1; cases k1
  obtain ⟨u, hu⟩ := k5.some
  rw [hp] at hu; cases hu
theorem Good.notH (G : Good F σ H r s A Hd) {p : Addr} (hp : H p = none) : F.H0 p = none := by
  cases q : F.H0 p with
  | none => rfl
  | some o =>
    by_cases z : p ∈ F.A0
    · obtain ⟨t, ht⟩ := G.pre
      exact absurd (ht ▸ List.mem_append_left t z) (G.notA hp)
    · rw [G.keep p o q z] at hp; cases hp
/-- the heap grows -/
theorem Good.grow (G : Good F σ H r s A Hd) {H' : Hp} (e : Le H H') : Good F σ H' r s A Hd :=
  ⟨G.le.tr e, G.len, G.shl, fun n a o p q => ⟨(G.sh n a o p q).1, (G.sh n a o p q).2.le Le.rfl fun u z => e _ _ z⟩, G.nd, G.pre, G.new, fun b o p q => e _ _ (G.keep b o p q),
    fun i c q => by
      have k := G.env i c q
      cases c with
      | un => trivial
      | w v => exact k
      | ow d => obtain ⟨a, k1, k2, k3, k4, k5⟩ := k; exact ⟨a, k1, k2, k3, k4, k5.le Le.rfl fun u z => e _ _ z⟩, G.sep, G.hdr⟩
/-- data at rest grow: at a place that was free -/
theorem Good.data (G : Good F σ H r s A Hd) {p : Addr} {u : HO} (hp : H p = none) : Good F σ (upd H p u) r s A (upd Hd p u) ∧ Le Hd (upd Hd p u) := by
  have hd : Hd p = none := G.le.none hp
  have e : Le Hd (upd Hd p u) := Le.upd hd
  have G1 := G.grow (Le.upd (o := u) hp)
  refine ⟨⟨fun b v q => ?_, G.len, G.shl, fun n a o q1 q2 => ?_, G.nd, G.pre, G.new, G1.keep, fun i c q => ?_, G.sep, fun b v q => by
    by_cases z : b = p
    · subst z; exact .inl (G.notH hp)
    · rw [upd_ne z] at q; exact G.hdr _ _ q⟩, e⟩
  · by_cases z : b = p
    · subst z; rw [upd_same] at q ⊢; exact q
    · rw [upd_ne z] at q ⊢; exact G.le _ _ q
  · obtain ⟨k1, k2⟩ := G1.sh n a o q1 q2
    have ne : a ≠ p := fun z => G.notA hp (z ▸ List.mem_of_getElem? q1)
    exact ⟨by rw [upd_ne ne]; exact k1, k2.le e fun _ z => z⟩
  · have k := G1.env i c q
    cases c with
    | un => trivial
    | w v => obtain ⟨y, k1, k2⟩ := k; exact ⟨y, k1, k2.le e (List.prefix_refl _)⟩
    | ow d =>
      obtain ⟨a, k1, k2, k3, k4, k5⟩ := k
      have ne : a ≠ p := fun z => G.notO hp q (by rw [k1, z])
      exact ⟨a, k1, by rw [upd_ne ne]; exact k2, k3, k4, k5.le e fun _ z => z⟩
/-- the three ends: a value, a new list, a new tuple -/
theorem fin_d (G : Good F σ H r s A Hd) {d : PyData} (h : Dv F Hd x d) (W : Wish F σ r s A Hd (ad d) Q) : Q x H := W x H A Hd G (List.prefix_refl _) Le.rfl h
theorem fin_int (G : Good F σ H r s A Hd) {i : Int} (W : Wish F σ r s A Hd (ad (.int i)) Q) : Q (.int i) H := fin_d G ⟨.int i, by unfold PyData.canLay0; rfl⟩ W
theorem fin_bl (G : Good F σ H r s A Hd) {b : Bool} (W : Wish F σ r s A Hd (ad (.bool b)) Q) : Q (.bl b) H := fin_d G ⟨.bl b, by unfold PyData.canLay0; rfl⟩ W
theorem fin_fr (G : Good F σ H r s A Hd) {p : Addr} {u : HO} {o : OD} (hp : H p = none) (hR : RepO F (upd H p u) Hd p o) (W : Wish F σ r s A Hd (.fr o) Q) : Q (.ref p) (upd H p u) :=
  W _ _ A Hd (G.grow (Le.upd hp)) (List.prefix_refl _) Le.rfl ⟨p, rfl, G.le.none hp, G.notA hp, G.notH hp, hR, fun i o' q => G.notO hp q⟩
theorem fin_lst (G : Good F σ H r s A Hd) {p : Addr} {vs : List V} {ds : List PyData} (hp : H p = none) (h : DvAll F Hd vs ds) (W : Wish F σ r s A Hd (.fr (.lst ds)) Q) : Q (.ref p) (upd H p (.lst vs)) :=
  fin_fr (o := .lst ds) G hp (show RepO F (upd H p (.lst vs)) Hd p (.lst ds) from ⟨vs, upd_same, h⟩) W
theorem fin_tup (G : Good F σ H r s A Hd) {p : Addr} {vs : List V} {ds : List PyData} (hp : H p = none) (h : DvAll F Hd vs ds) (W : Wish F σ r s A Hd (ad (.tuple ds)) Q) : Q (.ref p) (upd H p (.tup vs)) := by
  obtain ⟨G2, e⟩ := G.data (u := .tup vs) hp
  exact W _ _ A _ G2 (List.prefix_refl _) e ⟨.tup (SqT.of upd_same) (fun _ => upd_same) (DqAll.le e h.1), cl_tup.trans h.2⟩
end

/-- an operation's rule serves its small reading -/
def OpS (F : Fx) (op : List Ct → Option Rv) (R : List V → Hp → VK → Prop) : Prop :=
  ∀ (σ : L2.St) (H : Hp) (r : Rho) (s : Sto) (A : List Addr) (Hd : Hp) (xs : List V) (cs : List Ct) (v : Rv) (Q : VK), Good F σ H r s A Hd → All2 (CtR F H Hd) xs cs → op cs = some v → Wish F σ r s A Hd v Q → R xs H Q
section
variable {F : Fx} {X : Cx} {op : List Ct → Option Rv}
theorem opM_to {R : List V → Hp → VK → Prop} (hs : OpS F op R) {ms : List (M Rv)} {σ : L2.St} {H : Hp} {Q : VK} (h : tI F (opM op ms) σ H Q) : tIs F (evs ms) σ H fun xs H1 => R xs H1 Q := by
  obtain ⟨r, s, A, Hd, G, h⟩ := h
  refine ⟨r, s, A, Hd, G, ?_⟩
  simp only [opM] at h
  cases e1 : evs ms r s with
  | no => rw [Rs.bind_no e1] at h; exact h
  | ok vs r1 s1 =>
    rw [Rs.bind_ok e1] at h
    intro xs H1 A1 Hd1 G1 p1 l1 k1
    cases e2 : cts vs r1 s1 with
    | no => rw [Rs.bind_no e2] at h; exact h.elim
    | ok cs r2 s2 =>
      rw [Rs.bind_ok e2] at h
      obtain ⟨rfl, rfl, k⟩ := cts_of G1 k1 e2
      cases e3 : op cs with
      | none => rw [e3] at h; exact h.elim
      | some v =>
        rw [e3] at h
        exact hs σ H1 r2 s2 A1 Hd1 xs cs v Q G1 k e3 fun x H' A' Hd' G' p' l' k' => h x H' A' Hd' G' (p1.trans p') (l1.tr l') k'
/-- a test's answer by its operands -/
theorem tIs_two {ms : List (M Rv)} {m1 m2 : M Rv} {σ : L2.St} {H : Hp} {Q : V → V → Hp → Prop} (h : tIs F (evs [m1, m2]) σ H fun xs H1 => ∃ x y, xs = [x, y] ∧ Q x y H1) :
    tI F m1 σ H fun x H1 => tI F m2 σ H1 fun y H2 => Q x y H2 := by
  obtain ⟨r, s, A, Hd, G, h⟩ := h
  refine ⟨r, s, A, Hd, G, ?_⟩
  cases e1 : m1 r s with
  | no => simp only [evs] at h; rw [Rs.bind_no e1] at h; exact h
  | ok v r1 s1 =>
    simp only [evs] at h
    rw [Rs.bind_ok e1] at h
    intro x H1 A1 Hd1 G1 p1 l1 k1
    obtain ⟨Hd2, G2, l2, k2⟩ := G1.opd k1
    refine ⟨r1, s1, A1, Hd2, G2, ?_⟩
    cases e2 : m2 r1 s1 with
    | no => rw [show M.bind (M.bind m2 fun v => M.bind (M.pure []) fun vs => M.pure (opd v :: vs)) (fun vs => M.pure (opd v :: vs)) r1 s1 = .no from Rs.bind_no (Rs.bind_no e2)] at h; exact h
    | ok w r2 s2 =>
      rw [show M.bind (M.bind m2 fun v => M.bind (M.pure []) fun vs => M.pure (opd v :: vs)) (fun vs => M.pure (opd v :: vs)) r1 s1 = .ok [opd v, opd w] r2 s2 from by
        rw [Rs.bind_ok (show M.bind m2 (fun v => M.bind (M.pure []) fun vs => M.pure (opd v :: vs)) r1 s1 = .ok [opd w] r2 s2 from by rw [Rs.bind_ok e2]; rfl)]; rfl] at h
      intro y H3 A3 Hd3 G3 p3 l3 k3
      obtain ⟨Hd4, G4, l4, k4⟩ := G3.opd k3
      obtain ⟨x', y', e, q⟩ := h [x, y] H3 A3 Hd4 G4 (p1.trans p3) (l1.tr (l2.tr (l3.tr l4))) ⟨RvR.later p3 (l3.tr l4) k2, k4, trivial⟩
      cases e
      exact q
/-- binary operations -/
theorem pe_opI {o : Operator} {R : R2} (ho : OpR X (binaryOp o) R) (hs : OpS F op fun xs H Q => ∃ x y, xs = [x, y] ∧ R x y H Q) {a b : Expr} {pos : Pos} {m1 m2 : M Rv} (ha : PE X a (tI F m1)) (hb : PE X b (tI F m2)) : PE X (.BinOp a o b pos) (tI F (opM op [m1, m2])) :=
  PE.imp (pe_op ho ha hb) fun σ H Q h => tIs_two (ms := []) (opM_to hs h)
theorem pe_cmpI {o : CmpOp} {R : R2} (ho : OpR X (compareOp o) R) (hs : OpS F op fun xs H Q => ∃ x y, xs = [x, y] ∧ R x y H Q) {a b : Expr} {pos : Pos} {m1 m2 : M Rv} (ha : PE X a (tI F m1)) (hb : PE X b (tI F m2)) (hm : behindInMarks o b = false) : PE X (.Compare a [o] [b] pos) (tI F (opM op [m1, m2])) :=
  PE.imp (pe_cmpR ho ha hb hm) fun σ H Q h => tIs_two (ms := []) (opM_to hs h)
end
end Mi
set_option Elab.async false
set_option linter.all false
set_option maxRecDepth 100000
set_option maxHeartbeats 1000000
/-! M5: the operators. -/
namespace Mi
open PySem L2
section
variable {F : Fx} {H Hd : Hp} {x : V}
theorem Dv.non (h : Dv F Hd x .none) : x = .non := by cases h.1; rfl
theorem Dv.bl {b : Bool} (h : Dv F Hd x (.bool b)) : x = .bl b := by cases h.1; rfl
theorem Dv.int {i : Int} (h : Dv F Hd x (.int i)) : x = .int i := by cases h.1; rfl
theorem Dv.str {y : Str} (h : Dv F Hd x (.str y)) : x = .str y := by cases h.1; rfl
theorem Dv.lst {ds : List PyData} (h : Dv F Hd x (.list ds)) : ∃ a vs, x = .ref a ∧ Hd a = some (.lst vs) ∧ DvAll F Hd vs ds := by
  obtain ⟨h1, h2⟩ := h
  cases h1 with
  | lst k1 k2 => exact ⟨_, _, rfl, k1, k2, cl_lst.symm.trans h2⟩
theorem Dv.tup {ds : List PyData} (h : Dv F Hd x (.tuple ds)) : ∃ a vs, x = .ref a ∧ SqT F.K Hd a vs ∧ DvAll F Hd vs ds := by
  obtain ⟨h1, h2⟩ := h
  cases h1 with
  | tup k1 _ k2 => exact ⟨_, _, rfl, k1, k2, cl_tup.symm.trans h2⟩
theorem Dv.tupH {ds : List PyData} (h : Dv F Hd x (.tuple ds)) (n : ds ≠ []) : ∃ a vs, x = .ref a ∧ Hd a = some (.tup vs) ∧ DvAll F Hd vs ds := by
  obtain ⟨h1, h2⟩ := h
  cases h1 with
  | tup k1 k3 k2 => exact ⟨_, _, rfl, k3 (fun z => n (by subst z; cases k2; rfl)), k2, cl_tup.symm.trans h2⟩
theorem Dv.ofStr {y : Str} (h : PyData.canLay0 (.str y) = true) : Dv F Hd (.str y) (.str y) := ⟨.str y, h⟩
theorem DvAll.get {vs : List V} {ds : List PyData} {i : Nat} {d : PyData} (h : DvAll F Hd vs ds) (e : ds[i]? = some d) : ∃ v, vs[i]? = some v ∧ Dv F Hd v d := by
  obtain ⟨v, h1, h2⟩ := DqAll.get h.1 e
  exact ⟨v, h1, h2, cl_get h.2 e⟩
theorem DvAll.app {vs ws : List V} {ds es : List PyData} (h : DvAll F Hd vs ds) (k : DvAll F Hd ws es) : DvAll F Hd (vs ++ ws) (ds ++ es) := ⟨DqAll.app h.1 k.1, cl_app h.2 k.2⟩
theorem DvAll.len {vs : List V} {ds : List PyData} (h : DvAll F Hd vs ds) : vs.length = ds.length := DqAll.len h.1
theorem DvAll.nil : DvAll F Hd [] [] := ⟨.nil, by rw [PyData.canLayAll0]⟩
theorem DvAll.cons {v : V} {d : PyData} {vs : List V} {ds : List PyData} (h : Dv F Hd v d) (k : DvAll F Hd vs ds) : DvAll F Hd (v :: vs) (d :: ds) := ⟨.cons h.1 k.1, by rw [PyData.canLayAll0, h.2, k.2]; rfl⟩
theorem cl_str {y : Str} : PyData.canLay0 (.str y) = PyData.strOk y := by rw [PyData.canLay0]
theorem strOk_app {y z : Str} (h : PyData.strOk y = true) (k : PyData.strOk z = true) : PyData.strOk (y ++ z) = true := by
  unfold PyData.strOk at h k ⊢
  show (y.cps ++ z.cps).all _ = true
  rw [Array.all_append, h, k]; rfl
end

/-! ### + and its kin -/
section
variable {X : Cx}
/-- list + list, what is only read too -/
def rCatL : R2 := fun x y H Q => ∃ a b xs ys, x = .ref a ∧ y = .ref b ∧ Rd H a (.lst xs) ∧ Rd H b (.lst ys) ∧ xs.length + ys.length ≤ sizeLine ∧ ∀ p, H p = none → Q (.ref p) (upd H p (.lst (xs ++ ys)))
theorem op_catL : OpR X (binaryOp .Add) rCatL := by
  intro pins s σ H x y v u Q I rx ry h
  obtain ⟨a, b, xs, ys, rfl, rfl, h1, h2, hz, q⟩ := h
  obtain rfl : v = Value.ref a := rx
  obtain rfl : u = Value.ref b := ry
  have k1 : ObjOk X.prog X.w H s.heap a (.lst xs) := h1.ok I.hok
  have k2 : ObjOk X.prog X.w H s.heap b (.lst ys) := h2.ok I.hok
  obtain ⟨z1, i1, n1, r1, e1⟩ := k1
  obtain ⟨z2, i2, n2, r2, e2⟩ := k2
  have l1 := r1.length
  have l2 := r2.length
  refine PySem.P.add_list e1 e2 ?_ (by simp only [List.size_toArray]; omega)
  rw [show i1.toArray ++ i2.toArray = (i1 ++ i2).toArray by simp]
  exact ⟨.ref _, _, I.lnew (t' := s.toks) (r1.append r2) (by rw [List.length_append]; exact hz), rfl, q _ I.fresh⟩
abbrev rStrAdd : R2 := fun x y H Q => ∃ i j, x = .str i ∧ y = .str j ∧ i.length + j.length ≤ sizeLine ∧ Q (.str (i ++ j)) H
def rPlus (K : PySem.W.Frag) : R2 := fun x y H Q => rI0 (fun i j => .int (i + j)) x y H Q ∨ rStrAdd x y H Q ∨ rCatA K x y H Q ∨ rCatL x y H Q
theorem op_plus : OpR X (binaryOp .Add) (rPlus X.K) := OpR.or op_add (OpR.or op_add_str (OpR.or op_catA op_catL))
end
def two (f : Ct → Ct → Option Rv) : List Ct → Option Rv
  | [a, b] => f a b
  | _ => none
/-- a rule of two places -/
def Op2 (F : Fx) (f : Ct → Ct → Option Rv) (R : R2) : Prop :=
  ∀ (σ : L2.St) (H : Hp) (r : Rho) (s : Sto) (A : List Addr) (Hd : Hp) (x y : V) (c d : Ct) (v : Rv) (Q : VK), Good F σ H r s A Hd → CtR F H Hd x c → CtR F H Hd y d → f c d = some v → Wish F σ r s A Hd v Q → R x y H Q
theorem Op2.ops {F : Fx} {f : Ct → Ct → Option Rv} {R : R2} (h : Op2 F f R) : OpS F (two f) fun xs H Q => ∃ x y, xs = [x, y] ∧ R x y H Q := by
  intro σ H r s A Hd xs cs v Q G k e W
  unfold two at e
  split at e
  · rename_i c d
    match xs, k with
    | [x, y], k => exact ⟨x, y, rfl, h σ H r s A Hd x y c d v Q G k.1 k.2.1 e W⟩
    | [], k => exact k.elim
    | [_], k => exact k.2.elim
    | _ :: _ :: _ :: _, k => exact k.2.2.elim
  · cases e
theorem Op2.imp {F : Fx} {f : Ct → Ct → Option Rv} {R R' : R2} (h : Op2 F f R) (k : ∀ x y H Q, R x y H Q → R' x y H Q) : Op2 F f R' := fun σ H r s A Hd x y c d v Q G hc hd e W => k _ _ _ _ (h σ H r s A Hd x y c d v Q G hc hd e W)
section
variable {F : Fx}
theorem o2_add : Op2 F addC (rPlus F.K) := by
  intro σ H r s A Hd x y c d v Q G hc hd e W
  unfold addC at e
  split at e
  · rename_i i j
    have e1 := hc.1.int; have e2 := hd.1.int
    subst e1 e2
    cases e
    exact .inl ⟨i, j, rfl, rfl, fin_int G W⟩
  · rename_i a b
    split at e
    · rename_i hz
      cases e
      have e1 := hc.1.str; have e2 := hd.1.str
      subst e1 e2
      exact .inr (.inl ⟨a, b, rfl, rfl, of_decide_eq_true hz, fin_d G ⟨.str _, cl_str.trans (strOk_app (cl_str.symm.trans hc.1.2) (cl_str.symm.trans hd.1.2))⟩ W⟩)
    · cases e
  · rename_i xs ys
    split at e
    · rename_i hz
      cases e
      obtain ⟨a, vs, rfl, k1, k2⟩ := hc.1.tup
      obtain ⟨b, ws, rfl, k3, k4⟩ := hd.1.tup
      have l1 := k2.len
      have l2 := k4.len
      refine .inr (.inr (.inl ⟨a, b, vs, ws, rfl, rfl, G.le.sqt k1, G.le.sqt k3, by rw [l1, l2]; exact of_decide_eq_true hz, fun z => ?_, fun z1 z2 => ?_, fun _ _ p hp => ?_⟩))
      · have : xs = [] := by rw [z] at l1; exact List.length_eq_zero_iff.mp l1.symm
        subst this
        exact fin_d G (d := .tuple ([] ++ ys)) hd.1 W
      · have : ys = [] := by rw [z2] at l2; exact List.length_eq_zero_iff.mp l2.symm
        subst this
        rw [List.append_nil] at W
        exact fin_d G hc.1 W
      · exact fin_tup G hp (k2.app k4) W
    · cases e
  · rename_i xs ys
    split at e
    · rename_i hz
      cases e
      obtain ⟨a, vs, rfl, k1, k2⟩ := hc
      obtain ⟨b, ws, rfl, k3, k4⟩ := hd
      exact .inr (.inr (.inr ⟨a, b, vs, ws, rfl, rfl, Rd.of k1, Rd.of k3, by rw [k2.len, k4.len]; exact of_decide_eq_true hz, fun p hp => fin_lst G hp (k2.app k4) W⟩))
    · cases e
  · cases e
theorem o2_int {f : Int → Int → Option Int} {C : Int → Int → Prop} {g : Int → Int → Int} (hf : ∀ i j k, f i j = some k → C i j ∧ k = g i j) : Op2 F (intC f) (rI C fun i j => .int (g i j)) := by
  intro σ H r s A Hd x y c d v Q G hc hd e W
  unfold intC at e
  split at e
  · rename_i i j
    have e1 := hc.1.int; have e2 := hd.1.int
    subst e1 e2
    cases q : f i j with
    | none => rw [q] at e; cases e
    | some k =>
      rw [q] at e; cases e
      obtain ⟨h1, rfl⟩ := hf i j k q
      exact ⟨i, j, rfl, rfl, h1, fin_int G W⟩
  · cases e
theorem o2_sub : Op2 F (intC subI) (rI0 fun i j => .int (i - j)) := (o2_int (C := fun _ _ => True) (g := fun i j => i - j) fun i j k e => ⟨trivial, (Option.some.inj e).symm⟩).imp fun _ _ _ _ ⟨i, j, a, b, _, q⟩ => ⟨i, j, a, b, q⟩
theorem o2_mul : Op2 F (intC mulI) (rI CMul fun i j => .int (i * j)) := o2_int fun i j k e => by
  unfold mulI at e
  split at e
  · rename_i hz
    cases e
    refine ⟨?_, rfl⟩
    rcases Bool.or_eq_true_iff.mp hz with z | z
    · exact .inl (of_decide_eq_true z)
    · exact .inr (of_decide_eq_true z)
  · cases e
theorem o2_fdiv : Op2 F (intC fdivI) (rI CDivN fun i j => .int (i.fdiv j)) := o2_int fun i j k e => by
  unfold fdivI at e
  split at e
  · rename_i hz
    cases e
    have z := of_decide_eq_true hz
    exact ⟨z, rfl⟩
  · cases e
theorem o2_mod : Op2 F (intC modI) (rI (fun _ j => j ≠ 0) fun i j => .int (i.fmod j)) := o2_int fun i j k e => by
  unfold modI at e
  split at e
  · rename_i hz
    cases e
    exact ⟨of_decide_eq_true hz, rfl⟩
  · cases e
theorem o2_pow : Op2 F (intC powI) (rI CPow fun i j => .int (i ^ j.toNat)) := o2_int fun i j k e => by
  unfold powI at e
  split at e
  · rename_i hz
    cases e
    have z := of_decide_eq_true hz
    exact ⟨z, rfl⟩
  · cases e
/-- the binary operators but | -/
def operO : BinO → Operator
  | .add => .Add
  | .sub => .Sub
  | .mul => .Mult
  | .fdiv => .FloorDiv
  | .mod => .Mod
  | .pow => .Pow
  | .bor => .BitOr
theorem pe_binI {X : Cx} (hK : F.K = X.K) (o : BinO) (ho : o ≠ .bor) {a b : Expr} {pos : Pos} {m1 m2 : M Rv} (ha : PE X a (tI F m1)) (hb : PE X b (tI F m2)) : PE X (.BinOp a (operO o) b pos) (tI F (opM (two (binC o)) [m1, m2])) := by
  cases o with
  | add => exact pe_opI op_plus (by rw [← hK]; exact o2_add.ops) ha hb
  | sub => exact pe_opI op_sub o2_sub.ops ha hb
  | mul => exact pe_opI op_mul o2_mul.ops ha hb
  | fdiv => exact pe_opI op_fdivN o2_fdiv.ops ha hb
  | mod => exact pe_opI op_modN o2_mod.ops ha hb
  | pow => exact pe_opI op_pow o2_pow.ops ha hb
  | bor => exact absurd rfl ho
end

/-! ### comparisons -/
def cmpO : CmpO → PySem.CmpOp
  | .eq => .Eq
  | .ne => .NotEq
  | .lt => .Lt
  | .le => .LtE
  | .gt => .Gt
  | .ge => .GtE
  | .isn => .Is
  | .nisn => .IsNot
  | .inn => .In
  | .nin => .NotIn
/-- by the data at both places, over the whole heap -/
def rDat (F : Fx) (f : PyData → PyData → Option Bool) : R2 := fun x y H Q => ∃ d e b, Dv F H x d ∧ Dv F H y e ∧ f d e = some b ∧ Q (.bl b) H
theorem o2_dat {F : Fx} {f : PyData → PyData → Option Bool} : Op2 F (fun a b => a.data?.bind fun x => b.data?.bind fun y => (f x y).map bl) (rDat F f) := by
  intro σ H r s A Hd x y c d v Q G hc hd e W
  dsimp only at e
  cases q1 : c.data? with
  | none => rw [q1] at e; cases e
  | some dx =>
    cases q2 : d.data? with
    | none => rw [q1, q2] at e; cases e
    | some dy =>
      rw [q1, q2] at e
      cases q3 : f dx dy with
      | none => simp only [Option.bind, q3] at e; cases e
      | some b =>
        simp only [Option.bind, q3] at e
        cases e
        exact ⟨dx, dy, b, G.dat hc q1, G.dat hd q2, q3, fin_bl G W⟩
section
variable {X : Cx} {F : Fx}
theorem Dv.reads {pins : List (Addr × Obj)} {σ : L2.St} {H : Hp} {s : Shared} (hK : F.K = X.K) (I : Inv X pins σ H s) {x : V} {u : Value} {d : PyData} (h : Dv F H x d) (r : RelV x u) : ∃ as, Reads s.heap u d as := by
  have k := Dq.dp h.1
  rw [hK] at k
  exact Dp.reads I d x u k r
theorem shp_le {d : PyData} (h : shp d = true) : d.depth ≤ 60 := of_decide_eq_true h
theorem op_eqI (hK : F.K = X.K) (hu : X.A.units + 64 < cLine) : OpR X (compareOp .Eq) (rDat F eqD) := by
  intro pins s σ H x y v u Q I rx ry h
  obtain ⟨d, e, b, h1, h2, h3, q⟩ := h
  obtain ⟨as, r1⟩ := h1.reads hK I rx
  obtain ⟨bs, r2⟩ := h2.reads hK I ry
  unfold eqD at h3
  split at h3
  · rename_i hs
    cases h3
    refine SeqAt.compareEq_reads r1 r2 h1.2 h2.2 ?_ ⟨.bl _, H, I, rfl, q⟩
    rcases Bool.or_eq_true_iff.mp hs with z | z
    · have := shp_le z; omega
    · have := shp_le z; omega
  · cases h3
theorem op_neI (hK : F.K = X.K) (hu : X.A.units + 64 < cLine) : OpR X (compareOp .NotEq) (rDat F fun d e => (eqD d e).map (!·)) := by
  intro pins s σ H x y v u Q I rx ry h
  obtain ⟨d, e, b, h1, h2, h3, q⟩ := h
  obtain ⟨as, r1⟩ := h1.reads hK I rx
  obtain ⟨bs, r2⟩ := h2.reads hK I ry
  dsimp only at h3
  unfold eqD at h3
  split at h3
  · rename_i hs
    cases h3
    refine SeqAt.compareNe_reads r1 r2 h1.2 h2.2 ?_ ⟨.bl _, H, I, rfl, q⟩
    rcases Bool.or_eq_true_iff.mp hs with z | z
    · have := shp_le z; omega
    · have := shp_le z; omega
  · cases h3
theorem op_ltI (hK : F.K = X.K) (hu : X.A.units + 64 < cLine) : OpR X (compareOp .Lt) (rDat F ltD) := by
  intro pins s σ H x y v u Q I rx ry h
  obtain ⟨d, e, b, h1, h2, h3, q⟩ := h
  obtain ⟨as, r1⟩ := h1.reads hK I rx
  obtain ⟨bs, r2⟩ := h2.reads hK I ry
  have hn : d ≠ .none := fun z => by subst z; cases h3
  have h3' : (if shp d && W.alike d e then some (W.dataLt d e) else none) = some b := by
    cases d <;> first | exact absurd rfl hn | exact h3
  split at h3'
  · rename_i hs
    cases h3'
    obtain ⟨z1, z2⟩ := Bool.and_eq_true_iff.mp hs
    have z := shp_le z1
    exact W.rcLt_alike d e X.A s v u as bs r1 r2 z2 hn (by omega) X.prog X.w X.xe _ ⟨.bl _, H, I, rfl, q⟩
  · cases h3'
theorem op_ordI {o : PySem.CmpOp} {f : Int → Int → Bool} (h : OpR X (compareOp o) (rI0 fun i j => .bl (f i j))) : OpR X (compareOp o) (rDat F (ordI f)) := by
  intro pins s σ H x y v u Q I rx ry hh
  obtain ⟨d, e, b, h1, h2, h3, q⟩ := hh
  unfold ordI at h3
  split at h3
  · rename_i i j
    have e1 := h1.int; have e2 := h2.int
    subst e1 e2
    cases h3
    exact h pins s σ H _ _ v u Q I rx ry ⟨i, j, rfl, rfl, q⟩
  · cases h3
theorem op_isI : OpR X (compareOp .Is) (rDat F isD) := by
  intro pins s σ H x y v u Q I rx ry h
  obtain ⟨d, e, b, h1, h2, h3, q⟩ := h
  have nn : ∀ {x : V} {b : Bool}, y = .non → Q (.bl b) H → decide (x = V.non) = b → EP X pins σ Q (.bool b) s → EP X pins σ Q (.bool b) s := fun _ _ _ h => h
  cases e with
  | bool j =>
    cases d <;> first | cases h3 | skip
    rename_i i
    have e1 := h1.bl; have e2 := h2.bl
    subst e1 e2
    exact op_is_bl pins s σ H _ _ v u Q I rx ry ⟨i, j, rfl, rfl, q⟩
  | none =>
    have e2 := h2.non
    subst e2
    have hx : decide (x = V.non) = b := by
      cases d with
      | none => cases h3; have := h1.non; subst this; rfl
      | bool i => cases h3; have := h1.bl; subst this; rfl
      | int i => cases h3; have := h1.int; subst this; rfl
      | str i => cases h3; have := h1.str; subst this; rfl
      | tuple i => cases h3; obtain ⟨a, vs, this, _⟩ := h1.tup; subst this; rfl
      | list i => cases h3; obtain ⟨a, vs, this, _⟩ := h1.lst; subst this; rfl
      | dict i => cases h3
    exact op_isN pins s σ H x _ v u Q I rx ry ⟨rfl, by rw [hx]; exact q⟩
  | _ => cases d <;> cases h3
theorem op_nisI : OpR X (compareOp .IsNot) (rDat F fun d e => (isD d e).map (!·)) := by
  intro pins s σ H x y v u Q I rx ry h
  obtain ⟨d, e, b, h1, h2, h3, q⟩ := h
  cases e with
  | bool j =>
    cases d <;> first | cases h3 | skip
    rename_i i
    have e1 := h1.bl; have e2 := h2.bl
    subst e1 e2
    exact op_isnot_bl pins s σ H _ _ v u Q I rx ry ⟨i, j, rfl, rfl, q⟩
  | none =>
    have e2 := h2.non
    subst e2
    have hx : (!decide (x = V.non)) = b := by
      cases d with
      | none => cases h3; have := h1.non; subst this; rfl
      | bool i => cases h3; have := h1.bl; subst this; rfl
      | int i => cases h3; have := h1.int; subst this; rfl
      | str i => cases h3; have := h1.str; subst this; rfl
      | tuple i => cases h3; obtain ⟨a, vs, this, _⟩ := h1.tup; subst this; rfl
      | list i => cases h3; obtain ⟨a, vs, this, _⟩ := h1.lst; subst this; rfl
      | dict i => cases h3
    exact op_notN pins s σ H x _ v u Q I rx ry ⟨rfl, by rw [hx]; exact q⟩
  | _ => cases d <;> cases h3
/-- in -/
def rInI (F : Fx) (g : Bool → Bool) : R2 := fun x y H Q => (∃ d ys, Dv F H x d ∧ (Dv F H y (.tuple ys) ∨ Dv F H y (.list ys)) ∧ shp d = true ∧ Q (.bl (g (ys.any fun z => PyData.eqv z d))) H) ∨ ∃ i j, x = .str i ∧ y = .str j ∧ Q (.bl (g (!(Builtin.Str.occurrences j i 0 j.length 1).isEmpty))) H
theorem o2_in {g : Bool → Bool} : Op2 F (fun a b => (innC a b).map fun k => bl (g k)) (rInI F g) := by
  intro σ H r s A Hd x y c d v Q G hc hd e W
  dsimp only at e
  cases q : innC c d with
  | none => rw [q] at e; cases e
  | some k =>
    rw [q] at e
    cases e
    unfold innC at q
    split at q
    · rename_i ys
      cases q1 : c.data? with
      | none => rw [q1] at q; cases q
      | some dx =>
        rw [q1] at q
        simp only [Option.bind] at q
        split at q
        · rename_i hs
          cases q
          exact .inl ⟨dx, ys, G.dat hc q1, .inl (hd.1.le G.le), hs, fin_bl G W⟩
        · cases q
    · rename_i ys
      cases q1 : c.data? with
      | none => rw [q1] at q; cases q
      | some dx =>
        rw [q1] at q
        simp only [Option.bind] at q
        split at q
        · rename_i hs
          cases q
          exact .inl ⟨dx, ys, G.dat hc q1, .inr (G.dat hd rfl), hs, fin_bl G W⟩
        · cases q
    · cases q
      have e1 := hc.1.str; have e2 := hd.1.str
      subst e1 e2
      exact .inr ⟨_, _, rfl, rfl, fin_bl G W⟩
    · cases q
theorem op_inI (hK : F.K = X.K) (hu : X.A.units + 65 < cLine) : OpR X (compareOp .In) (rInI F id) := by
  intro pins s σ H x y v u Q I rx ry h
  rcases h with ⟨d, ys, h1, h2, h3, q⟩ | h
  · obtain ⟨as, r1⟩ := h1.reads hK I rx
    have z := shp_le h3
    rcases h2 with h2 | h2
    · obtain ⟨bs, r2⟩ := h2.reads hK I ry
      exact SeqAt.in_tuple_reads r2 r1 h2.2 h1.2 (by omega) ⟨.bl _, H, I, rfl, q⟩
    · obtain ⟨bs, r2⟩ := h2.reads hK I ry
      exact SeqAt.in_list_reads r2 r1 h2.2 h1.2 (by omega) ⟨.bl _, H, I, rfl, q⟩
  · exact op_in_str pins s σ H x y v u Q I rx ry h
theorem op_ninI (hK : F.K = X.K) (hu : X.A.units + 65 < cLine) : OpR X (compareOp .NotIn) (rInI F fun k => !k) := by
  intro pins s σ H x y v u Q I rx ry h
  rcases h with ⟨d, ys, h1, h2, h3, q⟩ | h
  · obtain ⟨as, r1⟩ := h1.reads hK I rx
    have z := shp_le h3
    rcases h2 with h2 | h2
    · obtain ⟨bs, r2⟩ := h2.reads hK I ry
      exact SeqAt.notIn_tuple_reads r2 r1 h2.2 h1.2 (by omega) ⟨.bl _, H, I, rfl, q⟩
    · obtain ⟨bs, r2⟩ := h2.reads hK I ry
      exact SeqAt.notIn_list_reads r2 r1 h2.2 h1.2 (by omega) ⟨.bl _, H, I, rfl, q⟩
  · exact op_notin_str pins s σ H x y v u Q I rx ry h
/-- every comparison -/
def rCmp (F : Fx) : CmpO → R2
  | .inn => rInI F id
  | .nin => rInI F fun k => !k
  | o => rDat F (cmpD o)
theorem op_cmpI (hK : F.K = X.K) (hu : X.A.units + 65 < cLine) (o : CmpO) : OpR X (compareOp (cmpO o)) (rCmp F o) := by
  cases o with
  | eq => exact op_eqI hK (by omega)
  | ne => exact op_neI hK (by omega)
  | lt => exact op_ltI hK (by omega)
  | le => exact op_ordI op_le
  | gt => exact op_ordI op_gt
  | ge => exact op_ordI op_ge
  | isn => exact op_isI
  | nisn => exact op_nisI
  | inn => exact op_inI hK hu
  | nin => exact op_ninI hK hu
theorem o2_cmp (o : CmpO) : Op2 F (cmpC o) (rCmp F o) := by
  cases o with
  | inn => exact o2_in (g := id)
  | nin => exact o2_in
  | eq => exact o2_dat (f := cmpD .eq)
  | ne => exact o2_dat (f := cmpD .ne)
  | lt => exact o2_dat (f := cmpD .lt)
  | le => exact o2_dat (f := cmpD .le)
  | gt => exact o2_dat (f := cmpD .gt)
  | ge => exact o2_dat (f := cmpD .ge)
  | isn => exact o2_dat (f := cmpD .isn)
  | nisn => exact o2_dat (f := cmpD .nisn)
end
end Mi
set_option Elab.async false
set_option linter.all false
set_option maxRecDepth 100000
/-! M6: names, displays, tests, choices. -/
namespace Mi
open PySem L2
/-- a name -/
def rd (i : Nat) : M Rv := fun r s => match r[i]? with
  | some (.w v) => .ok (.w v) r s
  | some (.ow _) => .ok (.pk i) r s
  | _ => .no
def kd (d : PyData) : M Rv := M.pure (ad d)
/-- an operand, laid to rest -/
def restO : Rv → M Wv
  | .fr _ => fail
  | v => rest v
def restD (v : Rv) : M PyData := M.bind (restO v) fun w => match w with
  | .d x => M.pure x
  | _ => fail
def restDs : List Rv → M (List PyData)
  | [] => M.pure []
  | v :: vs => M.bind (restD v) fun d => M.bind (restDs vs) fun ds => M.pure (d :: ds)
def tupM (ms : List (M Rv)) : M Rv := M.bind (evs ms) fun vs => M.bind (restDs vs) fun ds => if size ds.length then M.pure (ad (.tuple ds)) else fail
def lstM (ms : List (M Rv)) : M Rv := M.bind (evs ms) fun vs => M.bind (restDs vs) fun ds => if size ds.length then M.pure (.fr (.lst ds)) else fail
/-- a test -/
def truM (m : M Rv) : M Bool := M.bind m fun v => M.bind (ct v) fun c => ofOpt (truthC c)
def andB (a b : M Bool) : M Bool := M.bind a fun k => if k = true then b else M.pure false
def orB (a b : M Bool) : M Bool := M.bind a fun k => if k = true then M.pure true else b
def notB (a : M Bool) : M Bool := M.bind a fun k => M.pure (!k)
def andM (a b : M Rv) : M Rv := M.bind a fun v => M.bind (M.bind (ct v) fun c => ofOpt (truthC c)) fun k => if k = true then b else M.pure v
def orM (a b : M Rv) : M Rv := M.bind a fun v => M.bind (M.bind (ct v) fun c => ofOpt (truthC c)) fun k => if k = true then M.pure v else b
def notM (a : M Rv) : M Rv := M.bind (truM a) fun k => M.pure (bl (!k))
def ifM (c : M Bool) (a b : M Rv) : M Rv := M.bind c fun k => if k = true then a else b
def tTI (F : Fx) (m : M Bool) : TT := fun σ H Q => ∃ r s A Hd, Good F σ H r s A Hd ∧ match m r s with
  | .ok b r' s' => ∀ H' A' Hd', Good F σ H' r' s' A' Hd' → A <+: A' → Le Hd Hd' → Q b H'
  | .no => False
section
variable {F : Fx} {X : Cx} {σ : L2.St} {H : Hp} {r : Rho} {s : Sto} {A : List Addr} {Hd : Hp} {x : V} {Q : VK}
theorem pe_nameI {e : Expr} {i : Nat} (h : PE X e (tVar i)) : PE X e (tI F (rd i)) := PE.imp h fun σ H Q ⟨r, s, A, Hd, G, h⟩ => by
  unfold rd at h
  cases q : r[i]? with
  | none => rw [q] at h; exact h.elim
  | some c =>
    rw [q] at h
    have k := G.env i c q
    cases c with
    | un => exact h.elim
    | w v =>
      obtain ⟨x, k1, k2⟩ := k
      exact ⟨x, k1, h x H A Hd G (List.prefix_refl _) Le.rfl k2⟩
    | ow o =>
      obtain ⟨a, k1, _⟩ := k
      exact ⟨.ref a, k1, h (.ref a) H A Hd G (List.prefix_refl _) Le.rfl k1⟩
theorem pe_kdI {e : Expr} {v : V} {d : PyData} (h : PE X e (tC v)) (hd : ∀ Hd, Dv F Hd v d) : PE X e (tI F (kd d)) := PE.imp h fun σ H Q ⟨r, s, A, Hd, G, h⟩ => h v H A Hd G (List.prefix_refl _) Le.rfl (hd Hd)
theorem pe_intI {i : Int} {j pos} : PE X (.Constant (.int i) j pos) (tI F (kd (.int i))) := pe_kdI pe_int fun _ => ⟨.int i, by rw [PyData.canLay0]⟩
theorem pe_blI {b : Bool} {j pos} : PE X (.Constant (.bool b) j pos) (tI F (kd (.bool b))) := pe_kdI pe_bl fun _ => ⟨.bl b, by rw [PyData.canLay0]⟩
theorem pe_nonI {j pos} : PE X (.Constant .none j pos) (tI F (kd .none)) := pe_kdI pe_non fun _ => ⟨.non, by rw [PyData.canLay0]⟩
theorem pe_strI {y : Str} {j pos} (h : PyData.strOk y = true) : PE X (.Constant (.str y) j pos) (tI F (kd (.str y))) := pe_kdI pe_str fun _ => ⟨.str y, cl_str.trans h⟩

theorem Good.restO (G : Good F σ H r s A Hd) {v : Rv} (h : RvR F σ H Hd A r x v) {w : Wv} {r' : Rho} {s' : Sto} (e : Mi.restO v r s = .ok w r' s') : s' = s ∧ ∃ Hd2, Good F σ H r' s A Hd2 ∧ Le Hd Hd2 ∧ RepW F Hd2 A x w := by
  cases v with
  | fr o => cases e
  | w v => exact G.rest h e
  | pk i => exact G.rest h e
/-- an operand (nothing new) at a later state of the slots -/
def noFr : Rv → Bool
  | .fr _ => false
  | _ => true
theorem RvR.same {r' : Rho} {Hd' : Hp} (e : Le Hd Hd') {v : Rv} (n : noFr v = true) (h : RvR F σ H Hd A r x v) : RvR F σ H Hd' A r' x v := by
  cases v with
  | fr o => cases n
  | w v => exact RepW.le e (List.prefix_refl _) h
  | pk i => exact h
theorem restD_noFr {v : Rv} {d : PyData} {r' : Rho} {s' : Sto} (e : restD v r s = .ok d r' s') : noFr v = true := by
  cases v with
  | fr o => cases e
  | _ => rfl
theorem Good.restD (G : Good F σ H r s A Hd) {v : Rv} (h : RvR F σ H Hd A r x v) {d : PyData} {r' : Rho} {s' : Sto} (e : Mi.restD v r s = .ok d r' s') : s' = s ∧ ∃ Hd2, Good F σ H r' s A Hd2 ∧ Le Hd Hd2 ∧ Dv F Hd2 x d := by
  unfold Mi.restD at e
  cases q : Mi.restO v r s with
  | no => rw [Rs.bind_no q] at e; cases e
  | ok w r1 s1 =>
    rw [Rs.bind_ok q] at e
    obtain ⟨rfl, Hd2, G2, l, k⟩ := G.restO h q
    cases w with
    | d y => cases e; exact ⟨rfl, Hd2, G2, l, k⟩
    | _ => cases e
theorem restDs_noFr : ∀ {vs : List Rv} {ds : List PyData} {r r' : Rho} {s s' : Sto}, restDs vs r s = .ok ds r' s' → ∀ v ∈ vs, noFr v = true
  | [], _, _, _, _, _, _ => fun _ h => by cases h
  | v :: vs, ds, r, r', s, s', e => by
    simp only [restDs] at e
    cases q : Mi.restD v r s with
    | no => rw [Rs.bind_no q] at e; cases e
    | ok d r1 s1 =>
      rw [Rs.bind_ok q] at e
      cases q2 : restDs vs r1 s1 with
      | no => rw [Rs.bind_no q2] at e; cases e
      | ok ds2 r2 s2 =>
        intro w hw
        rcases List.mem_cons.mp hw with z | z
        · subst z; exact restD_noFr q
        · exact restDs_noFr q2 w z
theorem RvRs.same {r' : Rho} {Hd' : Hp} (e : Le Hd Hd') : ∀ {xs : List V} {vs : List Rv}, (∀ v ∈ vs, noFr v = true) → RvRs F σ H Hd A r xs vs → RvRs F σ H Hd' A r' xs vs
  | [], [], _, _ => trivial
  | _ :: _, v :: vs, n, h => ⟨RvR.same e (n v (List.mem_cons_self)) h.1, RvRs.same e (fun w hw => n w (List.mem_cons_of_mem _ hw)) h.2⟩
  | [], _ :: _, _, h => h.elim
  | _ :: _, [], _, h => h.elim
theorem Good.restDs : ∀ {xs : List V} {vs : List Rv} {ds : List PyData} {r r' : Rho} {s s' : Sto} {Hd : Hp}, Good F σ H r s A Hd → RvRs F σ H Hd A r xs vs → Mi.restDs vs r s = .ok ds r' s' → s' = s ∧ ∃ Hd2, Good F σ H r' s A Hd2 ∧ Le Hd Hd2 ∧ DvAll F Hd2 xs ds
  | [], [], _, _, _, _, _, Hd, G, _, e => by cases e; exact ⟨rfl, Hd, G, Le.rfl, DvAll.nil⟩
  | x :: xs, v :: vs, ds, r, r', s, s', Hd, G, h, e => by
    simp only [Mi.restDs] at e
    cases q : Mi.restD v r s with
    | no => rw [Rs.bind_no q] at e; cases e
    | ok d r1 s1 =>
      rw [Rs.bind_ok q] at e
      obtain ⟨rfl, Hd1, G1, l1, k1⟩ := G.restD h.1 q
      cases q2 : Mi.restDs vs r1 s1 with
      | no => rw [Rs.bind_no q2] at e; cases e
      | ok ds2 r2 s2 =>
        rw [Rs.bind_ok q2] at e
        cases e
        obtain ⟨rfl, Hd2, G2, l2, k2⟩ := Good.restDs G1 (RvRs.same l1 (restDs_noFr q2) h.2) q2
        exact ⟨rfl, Hd2, G2, l1.tr l2, DvAll.cons (k1.le l2) k2⟩
  | [], _ :: _, _, _, _, _, _, _, _, h, _ => h.elim
  | _ :: _, [], _, _, _, _, _, _, _, h, _ => h.elim
theorem pe_tupI {es : List Expr} {ms : List (M Rv)} {c pos} (h : PA X es (tIs F (evs ms))) : PE X (.Tuple es c pos) (tI F (tupM ms)) := by
  refine PE.imp (pe_tup h) fun σ H Q ⟨r, s, A, Hd, G, h⟩ => ⟨r, s, A, Hd, G, ?_⟩
  unfold tupM at h
  cases e1 : evs ms r s with
  | no => rw [Rs.bind_no e1] at h; exact h
  | ok vs r1 s1 =>
    rw [Rs.bind_ok e1] at h
    intro xs H1 A1 Hd1 G1 p1 l1 k1
    cases e2 : restDs vs r1 s1 with
    | no => rw [Rs.bind_no e2] at h; exact h.elim
    | ok ds r2 s2 =>
      rw [Rs.bind_ok e2] at h
      obtain ⟨rfl, Hd2, G2, l2, k2⟩ := G1.restDs k1 e2
      by_cases hz : size ds.length = true
      · rw [if_pos hz] at h
        refine ⟨by rw [k2.len]; exact of_decide_eq_true hz, fun p hp => fin_tup G2 hp k2 fun x H' A' Hd' G' p' l' k' => h x H' A' Hd' G' (p1.trans p') (l1.tr (l2.tr l')) k'⟩
      · rw [if_neg hz] at h; exact h.elim
theorem pe_lstI {es : List Expr} {ms : List (M Rv)} {pos} (h : PA X es (tIs F (evs ms))) : PE X (.List es pos) (tI F (lstM ms)) := by
  refine PE.imp (pe_lst h) fun σ H Q ⟨r, s, A, Hd, G, h⟩ => ⟨r, s, A, Hd, G, ?_⟩
  unfold lstM at h
  cases e1 : evs ms r s with
  | no => rw [Rs.bind_no e1] at h; exact h
  | ok vs r1 s1 =>
    rw [Rs.bind_ok e1] at h
    intro xs H1 A1 Hd1 G1 p1 l1 k1
    cases e2 : restDs vs r1 s1 with
    | no => rw [Rs.bind_no e2] at h; exact h.elim
    | ok ds r2 s2 =>
      rw [Rs.bind_ok e2] at h
      obtain ⟨rfl, Hd2, G2, l2, k2⟩ := G1.restDs k1 e2
      by_cases hz : size ds.length = true
      · rw [if_pos hz] at h
        refine ⟨by rw [k2.len]; exact of_decide_eq_true hz, fun p hp => fin_lst G2 hp k2 fun x H' A' Hd' G' p' l' k' => h x H' A' Hd' G' (p1.trans p') (l1.tr (l2.tr l')) k'⟩
      · rw [if_neg hz] at h; exact h.elim
/-! ### tests -/
theorem truV_of (hK : F.K = X.K) (G : Good F σ H r s A Hd) {c : Ct} {b : Bool} (h : CtR F H Hd x c) (e : truthC c = some b) : TruV X.K x H b := by
  cases c with
  | d y =>
    cases y with
    | none => cases e; have := h.1.non; subst this; rfl
    | bool k => cases e; have := h.1.bl; subst this; rfl
    | int k => cases e; have := h.1.int; subst this; rfl
    | str k =>
      have := h.1.str; subst this
      have e' : (if decide (k.length ≤ sizeLine) then some ((k.length : Int) != 0) else none) = some b := e
      split at e'
      · rename_i hz; cases e'; exact ⟨of_decide_eq_true hz, rfl⟩
      · cases e'
    | tuple k =>
      cases e
      obtain ⟨a, vs, rfl, k1, k2⟩ := h.1.tup
      refine .inr (.inl ⟨vs, by rw [← hK]; exact G.le.sqt k1, ?_⟩)
      have := k2.len
      cases vs <;> cases k <;> first | rfl | cases this
    | list k => exact absurd rfl (h.2 k)
    | dict k => cases e
  | o o =>
    cases o with
    | lst ds =>
      cases e
      obtain ⟨a, vs, rfl, k1, k2⟩ := h
      refine .inl ⟨vs, .inl (Rd.of k1), ?_⟩
      have := k2.len
      cases vs <;> cases ds <;> first | rfl | cases this
    | dic kvs => cases e
    | set xs => cases e
  | s xs => cases e
theorem ct_ok {v : Rv} {c : Ct} {r' : Rho} {s' : Sto} (e : ct v r s = .ok c r' s') : r' = r ∧ s' = s ∧ ctR r s v = some c := by
  unfold ct at e
  cases q : ctR r s v with
  | none => rw [q] at e; cases e
  | some c' => rw [q] at e; cases e; exact ⟨rfl, rfl, rfl⟩
theorem ofOpt_ok {α : Type} {o : Option α} {a : α} {r' : Rho} {s' : Sto} (e : ofOpt o r s = .ok a r' s') : r' = r ∧ s' = s ∧ o = some a := by
  cases o with
  | none => cases e
  | some b => cases e; exact ⟨rfl, rfl, rfl⟩
theorem bind_ok_inv {α β : Type} {m : M α} {f : α → M β} {b : β} {r' : Rho} {s' : Sto} (e : M.bind m f r s = .ok b r' s') : ∃ a r1 s1, m r s = .ok a r1 s1 ∧ f a r1 s1 = .ok b r' s' := by
  cases q : m r s with
  | no => rw [Rs.bind_no q] at e; cases e
  | ok a r1 s1 => rw [Rs.bind_ok q] at e; exact ⟨a, r1, s1, rfl, e⟩
theorem tru_ok' {v : Rv} {k : Bool} {r' : Rho} {s' : Sto} (e : M.bind (ct v) (fun c => ofOpt (truthC c)) r s = .ok k r' s') : r' = r ∧ s' = s ∧ ∃ c, ctR r s v = some c ∧ truthC c = some k := by
  obtain ⟨c, r1, s1, e1, e2⟩ := bind_ok_inv e
  obtain ⟨rfl, rfl, e3⟩ := ct_ok e1
  obtain ⟨rfl, rfl, e4⟩ := ofOpt_ok e2
  exact ⟨rfl, rfl, c, e3, e4⟩
theorem pt_truI (hK : F.K = X.K) {a : Expr} {m : M Rv} (ha : PE X a (tI F m)) (he : ∀ whole, isTrue a X.env whole = (do let v ← whole; standAt a.pos; holding [v] (truthy v))) : PT X a (tTI F (truM m)) := by
  refine ⟨fun pins s σ H Q I h => (pt_truth ha he).run pins s σ H Q I ?_⟩
  obtain ⟨r, s, A, Hd, G, h⟩ := h
  refine ⟨r, s, A, Hd, G, ?_⟩
  unfold truM at h
  cases e1 : m r s with
  | no => rw [Rs.bind_no e1] at h; exact h
  | ok v r1 s1 =>
    rw [Rs.bind_ok e1] at h
    intro x H1 A1 Hd1 G1 p1 l1 k1
    cases e2 : M.bind (ct v) (fun c => ofOpt (truthC c)) r1 s1 with
    | no => rw [e2] at h; exact h.elim
    | ok k r2 s2 =>
      rw [e2] at h
      obtain ⟨rfl, rfl, c, q1, q2⟩ := tru_ok' e2
      exact ⟨k, truV_of hK G1 (G1.ctR k1 q1) q2, h H1 A1 Hd1 G1 p1 l1⟩
theorem pt_cmpT {o : PySem.CmpOp} {op : List Ct → Option Rv} {R : R2} (ho : OpR X (compareOp o) R) (hs : OpS F op fun xs H Q => ∃ x y, xs = [x, y] ∧ R x y H Q) {a b : Expr} {pos : Pos} {m1 m2 : M Rv} (ha : PE X a (tI F m1)) (hb : PE X b (tI F m2)) (hm : behindInMarks o b = false)
    (hbl : ∀ cs v, op cs = some v → ∃ k, v = bl k) : PT X (.Compare a [o] [b] pos) (tTI F (truM (opM op [m1, m2]))) := by
  refine ⟨fun pins s σ H Q I h => (pt_cmpR ho ha hb hm).run pins s σ H Q I ?_⟩
  refine tIs_two (ms := []) (opM_to (op := op) hs (Q := fun x H' => ∃ k, x = .bl k ∧ Q k H') ?_)
  obtain ⟨r, s, A, Hd, G, h⟩ := h
  refine ⟨r, s, A, Hd, G, ?_⟩
  unfold truM at h
  cases e1 : opM op [m1, m2] r s with
  | no => rw [Rs.bind_no e1] at h; exact h
  | ok v r1 s1 =>
    rw [Rs.bind_ok e1] at h
    have hv : ∃ k, v = bl k := by
      unfold opM at e1
      obtain ⟨vs, r2, s2, _, e1⟩ := bind_ok_inv e1
      obtain ⟨cs, r3, s3, _, e1⟩ := bind_ok_inv e1
      obtain ⟨_, _, e1⟩ := ofOpt_ok e1
      exact hbl cs v e1
    obtain ⟨k, rfl⟩ := hv
    intro x H1 A1 Hd1 G1 p1 l1 k1
    have := Dv.bl (show Dv F Hd1 x (.bool k) from k1)
    exact ⟨k, this, h H1 A1 Hd1 G1 p1 l1⟩
theorem two_bl {f : Ct → Ct → Option Rv} (h : ∀ a b v, f a b = some v → ∃ k, v = bl k) : ∀ cs v, two f cs = some v → ∃ k, v = bl k := by
  intro cs v e
  unfold two at e
  split at e
  · exact h _ _ _ e
  · cases e
theorem cmpC_bl (o : CmpO) : ∀ a b v, cmpC o a b = some v → ∃ k, v = bl k := by
  intro a b v e
  have g : ∀ {f : PyData → PyData → Option Bool}, (a.data?.bind fun x => b.data?.bind fun y => (f x y).map bl) = some v → ∃ k, v = bl k := fun {f} e => by
    cases q1 : a.data? with
    | none => rw [q1] at e; cases e
    | some x =>
      cases q2 : b.data? with
      | none => rw [q1, q2] at e; cases e
      | some y =>
        rw [q1, q2] at e
        cases q3 : f x y with
        | none => simp only [Option.bind, q3] at e; cases e
        | some k => simp only [Option.bind, q3] at e; cases e; exact ⟨k, rfl⟩
  cases o with
  | inn =>
    have e' : (innC a b).map bl = some v := e
    cases q : innC a b with
    | none => rw [q] at e'; cases e'
    | some k => rw [q] at e'; cases e'; exact ⟨k, rfl⟩
  | nin =>
    have e' : (innC a b).map (fun k => bl (!k)) = some v := e
    cases q : innC a b with
    | none => rw [q] at e'; cases e'
    | some k => rw [q] at e'; cases e'; exact ⟨!k, rfl⟩
  | eq => exact g (f := cmpD .eq) e
  | ne => exact g (f := cmpD .ne) e
  | lt => exact g (f := cmpD .lt) e
  | le => exact g (f := cmpD .le) e
  | gt => exact g (f := cmpD .gt) e
  | ge => exact g (f := cmpD .ge) e
  | isn => exact g (f := cmpD .isn) e
  | nisn => exact g (f := cmpD .nisn) e
/-- tests one behind another -/
theorem tTI_imp {m : M Bool} {m' : Bool → M Bool} {Q : Bool → Hp → Prop} (h : tTI F (M.bind m m') σ H Q) : tTI F m σ H fun k H1 => tTI F (m' k) σ H1 Q := by
  obtain ⟨r, s, A, Hd, G, h⟩ := h
  refine ⟨r, s, A, Hd, G, ?_⟩
  cases e1 : m r s with
  | no => rw [Rs.bind_no e1] at h; exact h
  | ok k r1 s1 =>
    rw [Rs.bind_ok e1] at h
    intro H1 A1 Hd1 G1 p1 l1
    refine ⟨r1, s1, A1, Hd1, G1, ?_⟩
    cases e2 : m' k r1 s1 with
    | no => rw [e2] at h; exact h
    | ok k2 r2 s2 =>
      rw [e2] at h
      intro H2 A2 Hd2 G2 p2 l2
      exact h H2 A2 Hd2 G2 (p1.trans p2) (l1.tr l2)
theorem tTI_pure {b : Bool} {Q : Bool → Hp → Prop} (h : tTI F (M.pure b) σ H Q) : Q b H := by
  obtain ⟨r, s, A, Hd, G, h⟩ := h
  exact h H A Hd G (List.prefix_refl _) Le.rfl
theorem tTI_mono {m : M Bool} {Q Q' : Bool → Hp → Prop} (h : tTI F m σ H Q) (k : ∀ b H', Q b H' → Q' b H') : tTI F m σ H Q' := by
  obtain ⟨r, s, A, Hd, G, h⟩ := h
  refine ⟨r, s, A, Hd, G, ?_⟩
  cases e1 : m r s with
  | no => rw [e1] at h; exact h
  | ok b r1 s1 =>
    rw [e1] at h
    exact fun H1 A1 Hd1 G1 p1 l1 => k _ _ (h H1 A1 Hd1 G1 p1 l1)
theorem PW.imp {e : Expr} {t t' : TT} (h : PW X e t) (k : ∀ σ H Q, t' σ H Q → t σ H Q) : PW X e t' := ⟨fun w pins s σ H Q I q => h.run w pins s σ H Q I (k σ H Q q)⟩
theorem PT.imp {e : Expr} {t t' : TT} (h : PT X e t) (k : ∀ σ H Q, t' σ H Q → t σ H Q) : PT X e t' := ⟨fun pins s σ H Q I q => h.run pins s σ H Q I (k σ H Q q)⟩
theorem pw_andI {a b : Expr} {rest : List Expr} {pos : Pos} {m1 m2 : M Bool} (ha : PT X a (tTI F m1)) (hb : PW X (.BoolOp .And (b :: rest) pos) (tTI F m2)) : PW X (.BoolOp .And (a :: b :: rest) pos) (tTI F (andB m1 m2)) :=
  PW.imp (pw_and ha hb) fun σ H Q h => tTI_mono (tTI_imp h) fun k H1 h1 => by
    cases k with
    | true => exact h1
    | false => exact tTI_pure h1
theorem pw_orI {a b : Expr} {rest : List Expr} {pos : Pos} {m1 m2 : M Bool} (ha : PT X a (tTI F m1)) (hb : PW X (.BoolOp .Or (b :: rest) pos) (tTI F m2)) : PW X (.BoolOp .Or (a :: b :: rest) pos) (tTI F (orB m1 m2)) :=
  PW.imp (pw_or ha hb) fun σ H Q h => tTI_mono (tTI_imp h) fun k H1 h1 => by
    cases k with
    | false => exact h1
    | true => exact tTI_pure h1
theorem pt_notI {a : Expr} {pos : Pos} {m : M Bool} (ha : PT X a (tTI F m)) : PT X (.UnaryOp .Not a pos) (tTI F (notB m)) :=
  PT.imp (pt_not ha) fun σ H Q h => tTI_mono (tTI_imp h) fun k H1 h1 => tTI_pure h1
/-- a test, then a value -/
theorem tTI_val {m : M Bool} {m' : Bool → M Rv} (h : tI F (M.bind m m') σ H Q) : tTI F m σ H fun k H1 => tI F (m' k) σ H1 Q := by
  obtain ⟨r, s, A, Hd, G, h⟩ := h
  refine ⟨r, s, A, Hd, G, ?_⟩
  cases e1 : m r s with
  | no => rw [Rs.bind_no e1] at h; exact h
  | ok k r1 s1 =>
    rw [Rs.bind_ok e1] at h
    intro H1 A1 Hd1 G1 p1 l1
    refine ⟨r1, s1, A1, Hd1, G1, ?_⟩
    cases e2 : m' k r1 s1 with
    | no => rw [e2] at h; exact h
    | ok k2 r2 s2 =>
      rw [e2] at h
      intro x H2 A2 Hd2 G2 p2 l2
      exact h x H2 A2 Hd2 G2 (p1.trans p2) (l1.tr l2)
theorem pe_ifI {c a b : Expr} {pos : Pos} {mc : M Bool} {m1 m2 : M Rv} (hc : PT X c (tTI F mc)) (ha : PE X a (tI F m1)) (hb : PE X b (tI F m2)) : PE X (.IfExp c a b pos) (tI F (ifM mc m1 m2)) :=
  PE.imp (pe_ifExp hc ha hb) fun σ H Q h => tTI_mono (tTI_val h) fun k H1 h1 => by cases k <;> exact h1
theorem pe_andI (hK : F.K = X.K) {a b : Expr} {rest : List Expr} {pos : Pos} {m1 m2 : M Rv} (ha : PE X a (tI F m1)) (hb : PE X (.BoolOp .And (b :: rest) pos) (tI F m2)) : PE X (.BoolOp .And (a :: b :: rest) pos) (tI F (andM m1 m2)) := by
  refine PE.imp (pe_andT ha hb) fun σ H Q ⟨r, s, A, Hd, G, h⟩ => ⟨r, s, A, Hd, G, ?_⟩
  unfold andM at h
  cases e1 : m1 r s with
  | no => rw [Rs.bind_no e1] at h; exact h
  | ok v r1 s1 =>
    rw [Rs.bind_ok e1] at h
    intro x H1 A1 Hd1 G1 p1 l1 k1
    cases e2 : M.bind (ct v) (fun c => ofOpt (truthC c)) r1 s1 with
    | no => rw [Rs.bind_no e2] at h; exact h.elim
    | ok k r2 s2 =>
      rw [Rs.bind_ok e2] at h
      obtain ⟨rfl, rfl, c, q1, q2⟩ := tru_ok' e2
      refine ⟨k, truV_of hK G1 (G1.ctR k1 q1) q2, ?_⟩
      cases k with
      | true =>
        refine ⟨r2, s2, A1, Hd1, G1, ?_⟩
        simp only [if_true] at h
        cases e3 : m2 r2 s2 with
        | no => rw [e3] at h; exact h
        | ok v3 r3 s3 => rw [e3] at h; exact fun x H2 A2 Hd2 G2 p2 l2 => h x H2 A2 Hd2 G2 (p1.trans p2) (l1.tr l2)
      | false => exact h x H1 A1 Hd1 G1 p1 l1 k1
theorem pe_orI (hK : F.K = X.K) {a b : Expr} {rest : List Expr} {pos : Pos} {m1 m2 : M Rv} (ha : PE X a (tI F m1)) (hb : PE X (.BoolOp .Or (b :: rest) pos) (tI F m2)) : PE X (.BoolOp .Or (a :: b :: rest) pos) (tI F (orM m1 m2)) := by
  refine PE.imp (pe_orT ha hb) fun σ H Q ⟨r, s, A, Hd, G, h⟩ => ⟨r, s, A, Hd, G, ?_⟩
  unfold orM at h
  cases e1 : m1 r s with
  | no => rw [Rs.bind_no e1] at h; exact h
  | ok v r1 s1 =>
    rw [Rs.bind_ok e1] at h
    intro x H1 A1 Hd1 G1 p1 l1 k1
    cases e2 : M.bind (ct v) (fun c => ofOpt (truthC c)) r1 s1 with
    | no => rw [Rs.bind_no e2] at h; exact h.elim
    | ok k r2 s2 =>
      rw [Rs.bind_ok e2] at h
      obtain ⟨rfl, rfl, c, q1, q2⟩ := tru_ok' e2
      refine ⟨k, truV_of hK G1 (G1.ctR k1 q1) q2, ?_⟩
      cases k with
      | false =>
        refine ⟨r2, s2, A1, Hd1, G1, ?_⟩
        cases e3 : m2 r2 s2 with
        | no => rw [show (if false = true then M.pure v else m2) r2 s2 = m2 r2 s2 from rfl, e3] at h; exact h
        | ok v3 r3 s3 => rw [show (if false = true then M.pure v else m2) r2 s2 = m2 r2 s2 from rfl, e3] at h; exact fun x H2 A2 Hd2 G2 p2 l2 => h x H2 A2 Hd2 G2 (p1.trans p2) (l1.tr l2)
      | true => exact h x H1 A1 Hd1 G1 p1 l1 k1
theorem pe_notI (hK : F.K = X.K) {a : Expr} {pos : Pos} {m : M Rv} (ha : PE X a (tI F m)) : PE X (.UnaryOp .Not a pos) (tI F (notM m)) := by
  refine PE.imp (pe_notT ha) fun σ H Q ⟨r, s, A, Hd, G, h⟩ => ⟨r, s, A, Hd, G, ?_⟩
  unfold notM truM at h
  cases e1 : m r s with
  | no => rw [Rs.bind_no (Rs.bind_no e1)] at h; exact h
  | ok v r1 s1 =>
    intro x H1 A1 Hd1 G1 p1 l1 k1
    cases e2 : M.bind (ct v) (fun c => ofOpt (truthC c)) r1 s1 with
    | no => rw [Rs.bind_no (by rw [Rs.bind_ok e1]; exact e2)] at h; exact h.elim
    | ok k r2 s2 =>
      rw [Rs.bind_ok (by rw [Rs.bind_ok e1]; exact e2)] at h
      obtain ⟨rfl, rfl, c, q1, q2⟩ := tru_ok' e2
      exact ⟨k, truV_of hK G1 (G1.ctR k1 q1) q2, fin_bl G1 fun x H' A' Hd' G' p' l' k' => h x H' A' Hd' G' (p1.trans p') (l1.tr l') k'⟩
end
end Mi
set_option Elab.async false
set_option linter.all false
set_option maxRecDepth 100000
/-! M7: containers that change; methods; the general shape of an operation. -/
namespace Mi
open PySem L2
/-- the container behind a value is changed -/
def updO {β : Type} (v : Rv) (f : OD → Option (OD × β)) : M β := fun r s => match v with
  | .pk i => match r[i]? with
    | some (.ow o) => match f o with
      | some (o', b) => .ok b (r.set i (.ow o')) s
      | none => .no
    | some (.w (.obj n)) => match s[n]? with
      | some o => match f o with
        | some (o', b) => .ok b r (s.set n o')
        | none => .no
      | none => .no
    | _ => .no
  | .w (.obj n) => match s[n]? with
    | some o => match f o with
      | some (o', b) => .ok b r (s.set n o')
      | none => .no
    | none => .no
  | _ => .no
section
variable {F : Fx} {X : Cx} {σ : L2.St} {H : Hp} {r : Rho} {s : Sto} {A : List Addr} {Hd : Hp} {x : V} {Q : VK}
theorem Good.updI (G : Good F σ H r s A Hd) {i : Nat} {a : Addr} {o o' : OD} {u : HO} (hi : r[i]? = some (.ow o)) (hx : σ[i]? = some (some (.ref a))) (hR : RepO F (upd H a u) Hd a o') : Good F σ (upd H a u) (r.set i (.ow o')) s A Hd := by
  obtain ⟨a', k1, k2, k3, k4, k5⟩ := G.env i _ hi
  rw [hx] at k1; cases k1
  have hl : i < r.length := (List.getElem?_eq_some_iff.mp hi).1
  have old : ∀ {j : Nat} {c : Sl}, (r.set i (.ow o'))[j]? = some c → j ≠ i → r[j]? = some c := fun {j c} q z => by
    rw [List.getElem?_set_ne (Ne.symm z)] at q; exact q
  refine ⟨fun b v q => ?_, by rw [List.length_set]; exact G.len, G.shl, fun n b o1 q1 q2 => ?_, G.nd, G.pre, G.new, fun b v q1 q2 => ?_, fun j c q => ?_, fun j k o1 o2 b q1 q2 e1 e2 => ?_, G.hdr⟩
  · have ne : b ≠ a := fun z => by rw [z, k2] at q; cases q
    rw [upd_ne ne]; exact G.le _ _ q
  · obtain ⟨z1, z2⟩ := G.sh n b o1 q1 q2
    have ne : b ≠ a := fun z => k3 (z ▸ List.mem_of_getElem? q1)
    exact ⟨z1, z2.le Le.rfl fun u' z => by rw [upd_ne ne]; exact z⟩
  · have ne : b ≠ a := fun z => by rw [z, k4] at q1; cases q1
    rw [upd_ne ne]; exact G.keep _ _ q1 q2
  · by_cases z : j = i
    · subst z
      rw [List.getElem?_set_self hl] at q; cases q
      exact ⟨a, hx, k2, k3, k4, hR⟩
    · have q' := old q z
      have k := G.env j c q'
      cases c with
      | un => trivial
      | w v => exact k
      | ow d =>
        obtain ⟨b, m1, m2, m3, m4, m5⟩ := k
        have ne : b ≠ a := fun e => z (G.sep j i d o a q' hi (by rw [m1, e]) hx)
        exact ⟨b, m1, m2, m3, m4, m5.le Le.rfl fun u' y => by rw [upd_ne ne]; exact y⟩
  · have f : ∀ {j : Nat} {o1 : OD}, (r.set i (.ow o'))[j]? = some (.ow o1) → ∃ o3, r[j]? = some (.ow o3) := fun {j o1} q => by
      by_cases z : j = i
      · subst z; exact ⟨o, hi⟩
      · exact ⟨o1, old q z⟩
    obtain ⟨o3, f1⟩ := f q1
    obtain ⟨o4, f2⟩ := f q2
    exact G.sep j k o3 o4 b f1 f2 e1 e2
theorem Good.updS (G : Good F σ H r s A Hd) {n : Nat} {a : Addr} {o o' : OD} {u : HO} (hn : A[n]? = some a) (hs : s[n]? = some o) (hR : RepO F (upd H a u) Hd a o') : Good F σ (upd H a u) r (s.set n o') A Hd := by
  obtain ⟨k2, k5⟩ := G.sh n a o hn hs
  have hA : a ∈ A := List.mem_of_getElem? hn
  have hl : n < s.length := (List.getElem?_eq_some_iff.mp hs).1
  refine ⟨fun b v q => ?_, G.len, by rw [List.length_set]; exact G.shl, fun m b o1 q1 q2 => ?_, G.nd, G.pre, G.new, fun b v q1 q2 => ?_, fun j c q => ?_, G.sep, G.hdr⟩
  · have ne : b ≠ a := fun z => by rw [z, k2] at q; cases q
    rw [upd_ne ne]; exact G.le _ _ q
  · by_cases z : m = n
    · subst z
      rw [hn] at q1; cases q1
      rw [List.getElem?_set_self hl] at q2; cases q2
      exact ⟨k2, hR⟩
    · rw [List.getElem?_set_ne (Ne.symm z)] at q2
      obtain ⟨z1, z2⟩ := G.sh m b o1 q1 q2
      have ne : b ≠ a := fun e => by
        subst e
        have h1 := List.getElem?_eq_some_iff.mp q1
        have h2 := List.getElem?_eq_some_iff.mp hn
        obtain ⟨l1, e1⟩ := h1
        obtain ⟨l2, e2⟩ := h2
        exact z ((List.getElem_inj G.nd).mp (e1.trans e2.symm))
      exact ⟨z1, z2.le Le.rfl fun u' y => by rw [upd_ne ne]; exact y⟩
  · have ne : b ≠ a := fun z => by
      subst z
      by_cases w : b ∈ F.A0
      · exact q2 w
      · rw [G.new b hA w] at q1; cases q1
    rw [upd_ne ne]; exact G.keep _ _ q1 q2
  · have k := G.env j c q
    cases c with
    | un => trivial
    | w v => exact k
    | ow d =>
      obtain ⟨b, m1, m2, m3, m4, m5⟩ := k
      have ne : b ≠ a := fun e => m3 (e ▸ hA)
      exact ⟨b, m1, m2, m3, m4, m5.le Le.rfl fun u' y => by rw [upd_ne ne]; exact y⟩
/-- what updO asks and gives -/
theorem Good.updO {β : Type} (G : Good F σ H r s A Hd) {v : Rv} (h : RvR F σ H Hd A r x v) {f : OD → Option (OD × β)} {b : β} {r' : Rho} {s' : Sto} (e : Mi.updO v f r s = .ok b r' s') :
    ∃ a o o', x = .ref a ∧ RepO F H Hd a o ∧ Hd a = none ∧ f o = some (o', b) ∧ ∀ u, RepO F (upd H a u) Hd a o' → Good F σ (upd H a u) r' s' A Hd := by
  have shared : ∀ {n : Nat}, RepW F Hd A x (.obj n) → (match s[n]? with | some o => (match f o with | some (o', b) => Rs.ok b r (s.set n o') | none => .no) | none => .no) = Rs.ok b r' s' →
      ∃ a o o', x = .ref a ∧ RepO F H Hd a o ∧ Hd a = none ∧ f o = some (o', b) ∧ ∀ u, RepO F (upd H a u) Hd a o' → Good F σ (upd H a u) r' s' A Hd := fun {n} hw e => by
    obtain ⟨a, rfl, ha⟩ := hw
    cases q1 : s[n]? with
    | none => rw [q1] at e; cases e
    | some o =>
      rw [q1] at e
      cases q2 : f o with
      | none => simp only [q2] at e; cases e
      | some p =>
        obtain ⟨o', b'⟩ := p
        simp only [q2] at e
        cases e
        obtain ⟨k1, k2⟩ := G.sh n a o ha q1
        exact ⟨a, o, o', rfl, k2, k1, q2, fun u hR => G.updS ha q1 hR⟩
  cases v with
  | fr o => cases e
  | w w =>
    cases w with
    | obj n => exact shared h e
    | _ => cases e
  | pk i =>
    have hx : σ[i]? = some (some x) := h
    have e' : (match r[i]? with
      | some (.ow o) => (match f o with | some (o', b) => Rs.ok b (r.set i (.ow o')) s | none => .no)
      | some (.w (.obj n)) => (match s[n]? with | some o => (match f o with | some (o', b) => Rs.ok b r (s.set n o') | none => .no) | none => .no)
      | _ => .no) = Rs.ok b r' s' := e
    cases q : r[i]? with
    | none => rw [q] at e'; cases e'
    | some c =>
      rw [q] at e'
      cases c with
      | un => cases e'
      | w w =>
        cases w with
        | obj n =>
          obtain ⟨y, k1, k2⟩ := G.env i _ q
          rw [hx] at k1; cases k1
          exact shared k2 e'
        | _ => cases e'
      | ow o =>
        simp only at e'
        cases q2 : f o with
        | none => simp only [q2] at e'; cases e'
        | some p =>
          obtain ⟨o', b'⟩ := p
          simp only [q2] at e'
          cases e'
          obtain ⟨a, k1, k2, k3, k4, k5⟩ := G.env i _ q
          rw [hx] at k1; cases k1
          exact ⟨a, o, o', rfl, k5, k2, q2, fun u hR => G.updI q hx hR⟩

/-! ### operations that may change things -/
def OpG (F : Fx) (g : List Rv → M Rv) (R : List V → Hp → VK → Prop) : Prop :=
  ∀ (σ : L2.St) (H : Hp) (r : Rho) (s : Sto) (A : List Addr) (Hd : Hp) (xs : List V) (vs : List Rv) (v : Rv) (r' : Rho) (s' : Sto) (Q : VK), Good F σ H r s A Hd → RvRs F σ H Hd A r xs vs → g vs r s = .ok v r' s' →
    (∀ x H' A' Hd', Good F σ H' r' s' A' Hd' → A <+: A' → Le Hd Hd' → RvR F σ H' Hd' A' r' x v → Q x H') → R xs H Q
def gM (g : List Rv → M Rv) (ms : List (M Rv)) : M Rv := M.bind (evs ms) g
def ofOp (op : List Ct → Option Rv) (vs : List Rv) : M Rv := M.bind (cts vs) fun cs => ofOpt (op cs)
theorem OpS.g {op : List Ct → Option Rv} {R : List V → Hp → VK → Prop} (hs : OpS F op R) : OpG F (ofOp op) R := by
  intro σ H r s A Hd xs vs v r' s' Q G k e W
  unfold ofOp at e
  obtain ⟨cs, r1, s1, e1, e2⟩ := bind_ok_inv e
  obtain ⟨rfl, rfl, k1⟩ := cts_of G k e1
  obtain ⟨rfl, rfl, e3⟩ := ofOpt_ok e2
  exact hs σ H r' s' A Hd xs cs v Q G k1 e3 W
theorem gM_to {g : List Rv → M Rv} {R : List V → Hp → VK → Prop} (hs : OpG F g R) {ms : List (M Rv)} (h : tI F (gM g ms) σ H Q) : tIs F (evs ms) σ H fun xs H1 => R xs H1 Q := by
  obtain ⟨r, s, A, Hd, G, h⟩ := h
  refine ⟨r, s, A, Hd, G, ?_⟩
  unfold gM at h
  cases e1 : evs ms r s with
  | no => rw [Rs.bind_no e1] at h; exact h
  | ok vs r1 s1 =>
    rw [Rs.bind_ok e1] at h
    intro xs H1 A1 Hd1 G1 p1 l1 k1
    cases e2 : g vs r1 s1 with
    | no => rw [e2] at h; exact h.elim
    | ok v r2 s2 =>
      rw [e2] at h
      exact hs σ H1 r1 s1 A1 Hd1 xs vs v r2 s2 Q G1 k1 e2 fun x H' A' Hd' G' p' l' k' => h x H' A' Hd' G' (p1.trans p') (l1.tr l') k'
/-- one or another rule, by what the operation is -/
def altG (g1 g2 : List Rv → M Rv) (vs : List Rv) : M Rv := fun r s => match g1 vs r s with
  | .ok v r' s' => .ok v r' s'
  | .no => g2 vs r s
theorem altG_or {g1 g2 : List Rv → M Rv} {ms : List (M Rv)} (h : tI F (gM (altG g1 g2) ms) σ H Q) : tI F (gM g1 ms) σ H Q ∨ tI F (gM g2 ms) σ H Q := by
  obtain ⟨r, s, A, Hd, G, h⟩ := h
  unfold gM at h
  cases e1 : evs ms r s with
  | no => rw [Rs.bind_no e1] at h; exact h.elim
  | ok vs r1 s1 =>
    rw [Rs.bind_ok e1] at h
    unfold altG at h
    cases e2 : g1 vs r1 s1 with
    | ok v r2 s2 =>
      rw [e2] at h
      refine .inl ⟨r, s, A, Hd, G, ?_⟩
      unfold gM
      rw [Rs.bind_ok e1, e2]
      exact h
    | no =>
      rw [e2] at h
      refine .inr ⟨r, s, A, Hd, G, ?_⟩
      unfold gM
      rw [Rs.bind_ok e1]
      exact h
theorem OpG.alt {g1 g2 : List Rv → M Rv} {R1 R2 : List V → Hp → VK → Prop} (h1 : OpG F g1 R1) (h2 : OpG F g2 R2) : OpG F (altG g1 g2) fun xs H Q => R1 xs H Q ∨ R2 xs H Q := by
  intro σ H r s A Hd xs vs v r' s' Q G k e W
  unfold altG at e
  cases e2 : g1 vs r s with
  | ok v2 r2 s2 =>
    rw [e2] at e
    cases e
    exact .inl (h1 σ H r s A Hd xs vs v r' s' Q G k e2 W)
  | no =>
    rw [e2] at e
    exact .inr (h2 σ H r s A Hd xs vs v r' s' Q G k e W)
theorem PE.or {e : Expr} {t t' : TE} (h : PE X e t) (h' : PE X e t') : PE X e fun σ H Q => t σ H Q ∨ t' σ H Q := ⟨fun pins s σ H Q I q => q.elim (h.run pins s σ H Q I) (h'.run pins s σ H Q I)⟩
theorem tIs_twoG {ms : List (M Rv)} {m1 m2 : M Rv} {Q : V → V → Hp → Prop} (h : tIs F (evs [m1, m2]) σ H fun xs H1 => ∃ x y, xs = [x, y] ∧ Q x y H1) : tI F m1 σ H fun x H1 => tI F m2 σ H1 fun y H2 => Q x y H2 := tIs_two (ms := ms) h
/-- calls of built-ins -/
theorem pe_bfI {id : String} {R : List V → Hp → VK → Prop} {g : List Rv → M Rv} {y : Str} {p pos : Pos} {e : Expr} {es : List Expr} {ms : List (M Rv)} (hs : OpG F g R) (hc : CallR X (.builtin id) R) (hg : Gl X y) (hm : X.mg y = none) (hv : bootBuiltins y = some (.builtin id)) (ha : PA X (e :: es) (tIs F (evs ms)))
    (hn : y ≠ "__name__" := by decide) (hdb : (y == ("__debug__" : Str)) = false := by decide) (he : starEach (e :: es) X.env = (false, eval e X.env) :: starEach es X.env := by rfl) (hpl : (backTo pos (starEach es X.env)).any (·.1) = false := by rfl) :
    PE X (.Call (.Name y p) (e :: es) [] pos) (tI F (gM g ms)) := PE.imp (pe_callB hc hg hm hv ha hn hdb he hpl) fun σ H Q h => gM_to hs h
theorem pe_btI {T : String} {R : List V → Hp → VK → Prop} {g : List Rv → M Rv} {y : Str} {p pos : Pos} {e : Expr} {es : List Expr} {ms : List (M Rv)} (hs : OpG F g R) (hc : CallR X (.type T) R) (hg : Gl X y) (hm : X.mg y = none) (hv : bootBuiltins y = some (.type T)) (ha : PA X (e :: es) (tIs F (evs ms)))
    (hn : y ≠ "__name__" := by decide) (hdb : (y == ("__debug__" : Str)) = false := by decide) (he : starEach (e :: es) X.env = (false, eval e X.env) :: starEach es X.env := by rfl) (hpl : (backTo pos (starEach es X.env)).any (·.1) = false := by rfl) :
    PE X (.Call (.Name y p) (e :: es) [] pos) (tI F (gM g ms)) := PE.imp (pe_callTy hc hg hm hv ha hn hdb he hpl) fun σ H Q h => gM_to hs h
/-! ### methods -/
def isTy (T : String) : Ct → Bool
  | .d (.str _) => T == "str"
  | .o (.lst _) => T == "list"
  | .o (.dic _) => T == "dict"
  | _ => false
def tyM (T : String) (v : Rv) : M Unit := M.bind (ct v) fun c => if isTy T c = true then M.pure () else fail
def mthM (T : String) (mo : M Rv) (ms : List (M Rv)) (g : List Rv → M Rv) : M Rv := M.bind mo fun v => M.bind (tyM T v) fun _ => M.bind (evs ms) fun vs => g (opd v :: vs)
def tyR (F : Fx) (T : String) (x : V) (H : Hp) : Prop := match x with
  | .str _ => T = "str"
  | .ref p => (T = "list" ∧ ∃ xs, Rd H p (.lst xs)) ∨ (T = "dict" ∧ ((∃ kvs, H p = some (.dK kvs)) ∨ ∃ kvs, H p = some (.dT kvs)))
  | _ => False
theorem tyM_of (hK : F.K = X.K) (G : Good F σ H r s A Hd) {v : Rv} (h : RvR F σ H Hd A r x v) {T : String} {u : Unit} {r' : Rho} {s' : Sto} (e : tyM T v r s = .ok u r' s') : r' = r ∧ s' = s ∧ tyV X.K T x H := by
  unfold tyM at e
  obtain ⟨c, r1, s1, e1, e2⟩ := bind_ok_inv e
  obtain ⟨rfl, rfl, q⟩ := ct_ok e1
  have k := G.ctR h q
  by_cases hz : isTy T c = true
  · rw [if_pos hz] at e2
    cases e2
    refine ⟨rfl, rfl, ?_⟩
    cases c with
    | d y =>
      cases y with
      | str z => have := k.1.str; subst this; exact (beq_iff_eq.mp hz : T = "str")
      | _ => cases hz
    | o o =>
      cases o with
      | lst ds =>
        obtain ⟨a, vs, rfl, k1, _⟩ := k
        exact .inl ⟨beq_iff_eq.mp hz, vs, .inl (Rd.of k1)⟩
      | dic kvs =>
        obtain ⟨a, rfl, k1⟩ := k
        refine .inr (.inr (.inl ⟨beq_iff_eq.mp hz, ?_⟩))
        obtain ⟨ks, k1, _⟩ := k1
        exact .inl ⟨ks, k1⟩
      | set ys => cases hz
    | s ys => cases hz
  · rw [if_neg hz] at e2; cases e2
theorem mthM_to (hK : F.K = X.K) {T : String} {mo : M Rv} {ms : List (M Rv)} {g : List Rv → M Rv} {R : V → List V → Hp → VK → Prop} (hs : OpG F g fun xs H Q => ∃ x ys, xs = x :: ys ∧ R x ys H Q) (h : tI F (mthM T mo ms g) σ H Q) : tBM X.K T R (tI F mo) (tIs F (evs ms)) σ H Q := by
  obtain ⟨r, s, A, Hd, G, h⟩ := h
  refine ⟨r, s, A, Hd, G, ?_⟩
  unfold mthM at h
  cases e1 : mo r s with
  | no => rw [Rs.bind_no e1] at h; exact h
  | ok v r1 s1 =>
    rw [Rs.bind_ok e1] at h
    intro x H1 A1 Hd1 G1 p1 l1 k1
    cases e2 : tyM T v r1 s1 with
    | no => rw [Rs.bind_no e2] at h; exact h.elim
    | ok u r2 s2 =>
      rw [Rs.bind_ok e2] at h
      obtain ⟨rfl, rfl, ty⟩ := tyM_of hK G1 k1 e2
      obtain ⟨Hd2, G2, l2, k2⟩ := G1.opd k1
      refine ⟨ty, r2, s2, A1, Hd2, G2, ?_⟩
      cases e3 : evs ms r2 s2 with
      | no => rw [Rs.bind_no e3] at h; exact h
      | ok vs r3 s3 =>
        rw [Rs.bind_ok e3] at h
        intro xs H3 A3 Hd3 G3 p3 l3 k3
        cases e4 : g (opd v :: vs) r3 s3 with
        | no => rw [e4] at h; exact h.elim
        | ok w r4 s4 =>
          rw [e4] at h
          obtain ⟨x', ys, e, q⟩ := hs σ H3 r3 s3 A3 Hd3 (x :: xs) (opd v :: vs) w r4 s4 Q G3 ⟨RvR.later p3 l3 k2, k3⟩ e4 fun x H' A' Hd' G' p' l' k' => h x H' A' Hd' G' (p1.trans (p3.trans p')) (l1.tr (l2.tr (l3.tr l'))) k'
          cases e
          exact q
theorem pe_mI (hK : F.K = X.K) {T id : String} {R : V → List V → Hp → VK → Prop} {g : List Rv → M Rv} {name : Str} {o e : Expr} {es : List Expr} {apos cpos : Pos} {mo : M Rv} {ms : List (M Rv)} (hs : OpG F g fun xs H Q => ∃ x ys, xs = x :: ys ∧ R x ys H Q)
    (pa : PlainAttrs T) (slot : Slot T name id) (hty : typeOf (.builtin id) = pure (.type "method_descriptor")) (hm : MtR X id R) (ho : PE X o (tI F mo)) (ha : PA X (e :: es) (tIs F (evs ms)))
    (hbase : attributeBase o name X.env (eval o X.env) = eval o X.env := by rfl)
    (hfew : ((backTo cpos (starEach (e :: es) X.env)).all (fun x => !x.1) && (backToKw cpos (keywordEach [] X.env)).all (fun x => x.1.isSome)
      && decide ((e :: es).length + ([] : List Keyword).length + (if ([] : List Keyword).isEmpty then 0 else 1) < 30)) = true := by rfl)
    (hline : (apos.endLine == cpos.line) = true := by rfl) (hst : starEach (e :: es) X.env = (false, eval e X.env) :: starEach es X.env := by rfl) (hplain : (backTo cpos (starEach es X.env)).any (·.1) = false := by rfl) :
    PE X (.Call (.Attribute o name apos) (e :: es) [] cpos) (tI F (mthM T mo ms g)) := PE.imp (pe_bm pa slot hty hm ho ha hbase hfew hline hst hplain) fun σ H Q h => mthM_to hK hs h
end
end Mi
set_option Elab.async false
set_option linter.all false
set_option maxRecDepth 100000
/-! M8: subscripts, slices, methods of lists, len, list, tuple. -/
namespace Mi
open PySem L2
section
variable {F : Fx} {X : Cx} {σ : L2.St} {H : Hp} {r : Rho} {s : Sto} {A : List Addr} {Hd : Hp} {x : V} {Q : VK}
theorem DqAll.erase {K : PySem.W.Frag} {Hd : Hp} : ∀ {vs : List V} {ds : List PyData} (n : Nat), DqAll K Hd vs ds → DqAll K Hd (vs.eraseIdx n) (ds.eraseIdx n)
  | _, _, _, .nil => .nil
  | _, _, 0, .cons _ b => b
  | _, _, n + 1, .cons a b => .cons a (DqAll.erase n b)
theorem DvAll.sub {vs : List V} {ds : List PyData} {vs' : List V} {ds' : List PyData} (h : DvAll F Hd vs ds) (k : DqAll F.K Hd vs' ds') (z : ∀ d ∈ ds', d ∈ ds) : DvAll F Hd vs' ds' := ⟨k, cl_sub h.2 z⟩
theorem DvAll.tk {vs : List V} {ds : List PyData} (n : Nat) (h : DvAll F Hd vs ds) : DvAll F Hd (vs.take n) (ds.take n) := h.sub (DqAll.tk n h.1) fun _ z => List.mem_of_mem_take z
theorem DvAll.dr {vs : List V} {ds : List PyData} (n : Nat) (h : DvAll F Hd vs ds) : DvAll F Hd (vs.drop n) (ds.drop n) := h.sub (DqAll.dr n h.1) fun _ z => List.mem_of_mem_drop z
theorem DvAll.erase {vs : List V} {ds : List PyData} (n : Nat) (h : DvAll F Hd vs ds) : DvAll F Hd (vs.eraseIdx n) (ds.eraseIdx n) := h.sub (DqAll.erase n h.1) fun _ z => List.mem_of_mem_eraseIdx z
theorem DvAll.at {vs : List V} {ds : List PyData} {i : Int} {d : PyData} (h : DvAll F Hd vs ds) (e : atI ds i = some d) : ∃ v, atI vs i = some v ∧ Dv F Hd v d := by
  unfold atI at e ⊢
  rw [h.len]
  cases q : ixN ds.length i with
  | none => rw [q] at e; cases e
  | some j =>
    rw [q] at e
    obtain ⟨v, k1, k2⟩ := h.get (i := j) e
    exact ⟨v, k1, k2⟩
theorem strOk_char {y : Str} {c : Nat} (h : PyData.strOk y = true) (hc : c ∈ y.cps.toList) : PyData.strOk ⟨#[c]⟩ = true := by
  unfold PyData.strOk at h ⊢
  have h1 := Array.all_eq_true'.mp h c (by simpa using hc)
  simpa using h1
theorem strOk_sub {y z : Str} (h : PyData.strOk y = true) (hs : ∀ c ∈ z.cps.toList, c ∈ y.cps.toList) : PyData.strOk z = true := by
  unfold PyData.strOk at h ⊢
  exact Array.all_eq_true'.mpr fun c hc => Array.all_eq_true'.mp h c (by simpa using hs c (by simpa using hc))
theorem atI_mem {α : Type} {xs : List α} {i : Int} {v : α} (h : atI xs i = some v) : v ∈ xs := by
  obtain ⟨j, _, h2, _⟩ := atI_get h
  exact List.mem_of_getElem? h2

/-! ### subscripts -/
def ixC : Ct → Ct → Option Rv
  | .d (.tuple xs), .d (.int i) => (atI xs i).map ad
  | .o (.lst xs), .d (.int i) => (atI xs i).map ad
  | .d (.str z), .d (.int i) => if size z.length then (atI z.cps.toList i).map fun c => ad (.str ⟨#[c]⟩) else none
  | _, _ => none
theorem o2_ix : Op2 F ixC (rIx F.K) := by
  intro σ H r s A Hd x y c d v Q G hc hd e W
  unfold ixC at e
  split at e
  · rename_i xs i
    cases q : atI xs i with
    | none => rw [q] at e; cases e
    | some z =>
      rw [q] at e; cases e
      obtain ⟨a, vs, rfl, k1, k2⟩ := hc.1.tup
      have := hd.1.int; subst this
      obtain ⟨w, k3, k4⟩ := k2.at q
      exact .inr (.inl ⟨a, vs, i, w, rfl, rfl, G.le.sqt k1, k3, fin_d G k4 W⟩)
  · rename_i xs i
    cases q : atI xs i with
    | none => rw [q] at e; cases e
    | some z =>
      rw [q] at e; cases e
      obtain ⟨a, vs, rfl, k1, k2⟩ := hc
      have := hd.1.int; subst this
      obtain ⟨w, k3, k4⟩ := k2.at q
      exact .inl ⟨a, vs, i, w, rfl, rfl, .inl (Rd.of k1), k3, fin_d G k4 W⟩
  · rename_i z i
    split at e
    · rename_i hz
      cases q : atI z.cps.toList i with
      | none => rw [q] at e; cases e
      | some ch =>
        rw [q] at e; cases e
        have := hc.1.str; subst this
        have := hd.1.int; subst this
        exact .inr (.inr ⟨z, i, ch, rfl, rfl, of_decide_eq_true hz, q, fin_d G ⟨.str _, cl_str.trans (strOk_char (cl_str.symm.trans hc.1.2) (atI_mem q))⟩ W⟩)
    · cases e
  · cases e
/-! a dict's -/
def valD : List (PyData × PyData) → Key → Option PyData
  | [], _ => none
  | (d, e) :: r, k => if keyK d = some k then some e else valD r k
def keyC (c : Ct) : Option Key := c.data?.bind keyK
def dgC : Ct → Ct → Option Rv
  | .o (.dic kvs), b => (keyC b).bind fun k => (valD kvs k).map ad
  | _, _ => none
theorem KvK.val : ∀ {ks : List (Key × V)} {kvs : List (PyData × PyData)} {κ : Key}, KvK F Hd ks kvs → match valD kvs κ with
    | some e => ∃ v, valV ks κ = some v ∧ Dv F Hd v e
    | none => valV ks κ = none
  | [], [], _, _ => rfl
  | (k1, v) :: ks, (d, e) :: kvs, κ, h => by
    obtain ⟨⟨h1, _⟩, h2, h3⟩ := h
    unfold valD
    by_cases z : k1 = κ
    · subst z
      rw [if_pos h1]
      exact ⟨v, valV_pos rfl, h2⟩
    · rw [if_neg (fun y => z (by rw [h1] at y; exact Option.some.inj y)), valV_neg (p := (k1, v)) z]
      exact KvK.val h3
  | [], _ :: _, _, h => h.elim
  | _ :: _, [], _, h => h.elim
theorem key_V {k : PyData} {κ : Key} (h : keyK k = some κ) (hv : Dv F Hd x k) : x = kV κ := by
  cases k with
  | int i => cases h; exact hv.int
  | str z => cases h; exact hv.str
  | _ => cases h
theorem keyC_V (G : Good F σ H r s A Hd) {c : Ct} {κ : Key} (hc : CtR F H Hd x c) (h : keyC c = some κ) : ∃ d, c.data? = some d ∧ keyK d = some κ ∧ x = kV κ ∧ Dv F H x d := by
  unfold keyC at h
  cases q : c.data? with
  | none => rw [q] at h; cases h
  | some d =>
    rw [q] at h
    have hd := G.dat hc q
    exact ⟨d, rfl, h, key_V h hd, hd⟩
def rDGet : R2 := fun x y H Q => ∃ a v, x = .ref a ∧ DGet H a y (some v) ∧ Q v H
theorem o2_dg : Op2 F dgC rDGet := by
  intro σ H r s A Hd x y c d v Q G hc hd e W
  unfold dgC at e
  split at e
  · rename_i kvs
    cases q1 : keyC d with
    | none => rw [q1] at e; cases e
    | some κ =>
      rw [q1] at e
      simp only [Option.bind] at e
      obtain ⟨k, _, _, rfl, _⟩ := keyC_V G hd q1
      obtain ⟨a, rfl, ks, h1, h2⟩ := hc
      have m := h2.val (κ := κ)
      cases q2 : valD kvs κ with
      | none => rw [q2] at e; cases e
      | some w =>
        rw [q2] at e m; cases e
        obtain ⟨v', m1, m2⟩ := m
        exact ⟨a, v', rfl, by rw [← m1]; exact DGet.k h1, fin_d G m2 W⟩
  · cases e
/-- x[y] -/
def gIx : List Rv → M Rv := altG (ofOp (two ixC)) (ofOp (two dgC))
theorem pe_ixI (hK : F.K = X.K) (hu : X.A.units + 1 < cLine) {a b : Expr} {pos : Pos} {m1 m2 : M Rv} (ha : PE X a (tI F m1)) (hb : PE X b (tI F m2)) (hs : PlainIx b) : PE X (.Subscript a b pos) (tI F (gM gIx [m1, m2])) := by
  refine PE.imp (PE.or (pe_ix ix_seq ha hb hs) (pe_dget hu ha hb hs)) fun σ H Q h => ?_
  rcases altG_or h with h | h
  · exact .inl (tIs_twoG (ms := []) (by rw [← hK]; exact gM_to (o2_ix.ops.g) h))
  · exact .inr (tIs_twoG (ms := []) (gM_to ((o2_dg (F := F)).ops.g) h))

/-! ### k in d -/
def dinC (g : Bool → Bool) : Ct → Ct → Option Rv
  | b, .o (.dic kvs) => (keyC b).map fun k => bl (g (valD kvs k).isSome)
  | _, _ => none
def rDIn (g : Bool → Bool) : R2 := fun y x H Q => ∃ a o, x = .ref a ∧ DGet H a y o ∧ Q (.bl (g o.isSome)) H
theorem o2_din {g : Bool → Bool} : Op2 F (dinC g) (rDIn g) := by
  intro σ H r s A Hd x y c d v Q G hc hd e W
  unfold dinC at e
  split at e
  · rename_i kvs
    cases q1 : keyC c with
    | none => rw [q1] at e; cases e
    | some κ =>
      rw [q1] at e; cases e
      obtain ⟨k, _, _, rfl, _⟩ := keyC_V G hc q1
      obtain ⟨a, rfl, ks, h1, h2⟩ := hd
      have m := h2.val (κ := κ)
      refine ⟨a, valV ks κ, rfl, DGet.k h1, ?_⟩
      have W : Wish F σ r s A Hd (bl (g (valD kvs κ).isSome)) Q := W
      cases q2 : valD kvs κ with
      | none => rw [q2] at m W; rw [m]; exact fin_bl G W
      | some w => rw [q2] at m W; obtain ⟨v', m1, _⟩ := m; rw [m1]; exact fin_bl G W
  · cases e
/-- in, of sequences, texts and dicts -/
def gIn : List Rv → M Rv := altG (ofOp (two (cmpC .inn))) (ofOp (two (dinC id)))
def gNin : List Rv → M Rv := altG (ofOp (two (cmpC .nin))) (ofOp (two (dinC fun k => !k)))
theorem pe_inI (hK : F.K = X.K) (hu : X.A.units + 65 < cLine) {a b : Expr} {pos : Pos} {m1 m2 : M Rv} (ha : PE X a (tI F m1)) (hb : PE X b (tI F m2)) (hm : behindInMarks .In b = false) : PE X (.Compare a [.In] [b] pos) (tI F (gM gIn [m1, m2])) := by
  refine PE.imp (PE.or (pe_cmpR (op_cmpI hK hu .inn) ha hb hm) (pe_cmp (pc_din (by omega) ha hb) hm)) fun σ H Q h => ?_
  rcases altG_or h with h | h
  · exact .inl (tIs_twoG (ms := []) (gM_to ((o2_cmp .inn).ops.g) h))
  · exact .inr (tIs_twoG (ms := []) (gM_to ((o2_din (F := F) (g := id)).ops.g) h))
theorem pe_ninI (hK : F.K = X.K) (hu : X.A.units + 65 < cLine) {a b : Expr} {pos : Pos} {m1 m2 : M Rv} (ha : PE X a (tI F m1)) (hb : PE X b (tI F m2)) (hm : behindInMarks .NotIn b = false) : PE X (.Compare a [.NotIn] [b] pos) (tI F (gM gNin [m1, m2])) := by
  refine PE.imp (PE.or (pe_cmpR (op_cmpI hK hu .nin) ha hb hm) (pe_cmp (pc_dnotin (by omega) ha hb) hm)) fun σ H Q h => ?_
  rcases altG_or h with h | h
  · exact .inl (tIs_twoG (ms := []) (gM_to ((o2_cmp .nin).ops.g) h))
  · exact .inr (tIs_twoG (ms := []) (gM_to ((o2_din (F := F) (g := fun k => !k)).ops.g) h))

/-! ### comparisons as tests -/
def BlM (m : M Rv) : Prop := ∀ r s v r' s', m r s = .ok v r' s' → ∃ k, v = bl k
theorem tI_bl {m : M Rv} {Q : Bool → Hp → Prop} (hbl : BlM m) (h : tTI F (truM m) σ H Q) : tI F m σ H fun x H' => ∃ c, x = .bl c ∧ Q c H' := by
  obtain ⟨r, s, A, Hd, G, h⟩ := h
  refine ⟨r, s, A, Hd, G, ?_⟩
  unfold truM at h
  cases e1 : m r s with
  | no => rw [Rs.bind_no e1] at h; exact h
  | ok v r1 s1 =>
    rw [Rs.bind_ok e1] at h
    obtain ⟨k, rfl⟩ := hbl _ _ _ _ _ e1
    intro x H1 A1 Hd1 G1 p1 l1 k1
    have := Dv.bl (show Dv F Hd1 x (.bool k) from k1)
    exact ⟨k, this, h H1 A1 Hd1 G1 p1 l1⟩
theorem BlM.gM {g : List Rv → M Rv} {ms : List (M Rv)} (h : ∀ vs, BlM (g vs)) : BlM (gM g ms) := by
  intro r s v r' s' e
  obtain ⟨vs, r1, s1, _, e2⟩ := bind_ok_inv e
  exact h vs _ _ _ _ _ e2
theorem BlM.ofOp {op : List Ct → Option Rv} (h : ∀ cs v, op cs = some v → ∃ k, v = bl k) (vs : List Rv) : BlM (ofOp op vs) := by
  intro r s v r' s' e
  obtain ⟨cs, r1, s1, _, e2⟩ := bind_ok_inv e
  exact h cs v (ofOpt_ok e2).2.2
theorem BlM.alt {g1 g2 : List Rv → M Rv} {vs : List Rv} (h1 : BlM (g1 vs)) (h2 : BlM (g2 vs)) : BlM (altG g1 g2 vs) := by
  intro r s v r' s' e
  unfold altG at e
  cases q : g1 vs r s with
  | ok v2 r2 s2 => rw [q] at e; cases e; exact h1 _ _ _ _ _ q
  | no => rw [q] at e; exact h2 _ _ _ _ _ e
theorem dinC_bl {g : Bool → Bool} : ∀ a b v, dinC g a b = some v → ∃ k, v = bl k := by
  intro a b v e
  unfold dinC at e
  split at e
  · cases q : keyC a with
    | none => rw [q] at e; cases e
    | some κ => rw [q] at e; cases e; exact ⟨_, rfl⟩
  · cases e
theorem PT.or {e : Expr} {t t' : TT} (h : PT X e t) (h' : PT X e t') : PT X e fun σ H Q => t σ H Q ∨ t' σ H Q := ⟨fun pins s σ H Q I q => q.elim (h.run pins s σ H Q I) (h'.run pins s σ H Q I)⟩
theorem bl_in : BlM (gM gIn ms) := BlM.gM fun vs => BlM.alt (BlM.ofOp (two_bl (cmpC_bl .inn)) vs) (BlM.ofOp (two_bl dinC_bl) vs)
theorem bl_nin : BlM (gM gNin ms) := BlM.gM fun vs => BlM.alt (BlM.ofOp (two_bl (cmpC_bl .nin)) vs) (BlM.ofOp (two_bl dinC_bl) vs)
def gCmp (o : CmpO) : List Rv → M Rv := ofOp (two (cmpC o))
theorem bl_cmp {o : CmpO} : BlM (gM (gCmp o) ms) := BlM.gM fun vs => BlM.ofOp (two_bl (cmpC_bl o)) vs
theorem pt_inI (hK : F.K = X.K) (hu : X.A.units + 65 < cLine) {a b : Expr} {pos : Pos} {m1 m2 : M Rv} (ha : PE X a (tI F m1)) (hb : PE X b (tI F m2)) (hm : behindInMarks .In b = false) : PT X (.Compare a [.In] [b] pos) (tTI F (truM (gM gIn [m1, m2]))) := by
  refine PT.imp (PT.or (pt_cmpR (op_cmpI hK hu .inn) ha hb hm) (pt_cmp (pc_din (by omega) ha hb) hm)) fun σ H Q h => ?_
  rcases altG_or (tI_bl bl_in h) with h | h
  · exact .inl (tIs_twoG (ms := []) (gM_to ((o2_cmp .inn).ops.g) h))
  · exact .inr (tIs_twoG (ms := []) (gM_to ((o2_din (F := F) (g := id)).ops.g) h))
theorem pt_ninI (hK : F.K = X.K) (hu : X.A.units + 65 < cLine) {a b : Expr} {pos : Pos} {m1 m2 : M Rv} (ha : PE X a (tI F m1)) (hb : PE X b (tI F m2)) (hm : behindInMarks .NotIn b = false) : PT X (.Compare a [.NotIn] [b] pos) (tTI F (truM (gM gNin [m1, m2]))) := by
  refine PT.imp (PT.or (pt_cmpR (op_cmpI hK hu .nin) ha hb hm) (pt_cmp (pc_dnotin (by omega) ha hb) hm)) fun σ H Q h => ?_
  rcases altG_or (tI_bl bl_nin h) with h | h
  · exact .inl (tIs_twoG (ms := []) (gM_to ((o2_cmp .nin).ops.g) h))
  · exact .inr (tIs_twoG (ms := []) (gM_to ((o2_din (F := F) (g := fun k => !k)).ops.g) h))
theorem pe_cmI (hK : F.K = X.K) (hu : X.A.units + 65 < cLine) (o : CmpO) {a b : Expr} {pos : Pos} {m1 m2 : M Rv} (ha : PE X a (tI F m1)) (hb : PE X b (tI F m2)) (hm : behindInMarks (cmpO o) b = false) : PE X (.Compare a [cmpO o] [b] pos) (tI F (gM (gCmp o) [m1, m2])) :=
  PE.imp (pe_cmpR (op_cmpI hK hu o) ha hb hm) fun σ H Q h => tIs_twoG (ms := []) (gM_to ((o2_cmp o).ops.g) h)
theorem pt_cmI (hK : F.K = X.K) (hu : X.A.units + 65 < cLine) (o : CmpO) {a b : Expr} {pos : Pos} {m1 m2 : M Rv} (ha : PE X a (tI F m1)) (hb : PE X b (tI F m2)) (hm : behindInMarks (cmpO o) b = false) : PT X (.Compare a [cmpO o] [b] pos) (tTI F (truM (gM (gCmp o) [m1, m2]))) :=
  PT.imp (pt_cmpR (op_cmpI hK hu o) ha hb hm) fun σ H Q h => tIs_twoG (ms := []) (gM_to ((o2_cmp o).ops.g) (tI_bl bl_cmp h))
def gBin (o : BinO) : List Rv → M Rv := ofOp (two (binC o))
theorem pe_bnI {X : Cx} (hK : F.K = X.K) (o : BinO) (ho : o ≠ .bor) {a b : Expr} {pos : Pos} {m1 m2 : M Rv} (ha : PE X a (tI F m1)) (hb : PE X b (tI F m2)) : PE X (.BinOp a (operO o) b pos) (tI F (gM (gBin o) [m1, m2])) := pe_binI hK o ho ha hb
/-! ### a op b op c -/
def chM (o o' : CmpO) (ma mb mc : M Rv) : M Rv := M.bind ma fun va => M.bind mb fun vb => M.bind (gCmp o [opd va, opd vb]) fun k => M.bind (M.bind (ct k) fun c => ofOpt (truthC c)) fun t => if t = true then M.bind mc fun vc => gCmp o' [opd vb, opd vc] else M.pure (bl false)

/-! ### slices -/
def cutD {α : Type} (xs : List α) (lo hi : Option Int) : List α := (xs.drop (HT.sIx xs.length 0 lo)).take (HT.sIx xs.length xs.length hi - HT.sIx xs.length 0 lo)
def slC : Ct → Option Int → Option Int → Option Rv
  | .d (.tuple xs), lo, hi => some (ad (.tuple (cutD xs lo hi)))
  | .o (.lst xs), lo, hi => some (.fr (.lst (cutD xs lo hi)))
  | .s xs, lo, hi => some (.fr (.lst (cutD xs lo hi)))
  | .d (.str z), lo, hi => if size z.length then some (ad (.str (cutS z lo hi))) else none
  | _, _, _ => none
def intC? : Ct → Option Int
  | .d (.int i) => some i
  | _ => none
/-- a slice's part -/
def prM : Option (M Rv) → M (Option Int)
  | none => M.pure none
  | some m => M.bind m fun v => M.bind (ct v) fun c => M.bind (ofOpt (intC? c)) fun i => M.pure (some i)
def slM (m : M Rv) (lo hi : Option (M Rv)) : M Rv := M.bind m fun v => M.bind (prM lo) fun l => M.bind (prM hi) fun u => M.bind (ct (opd v)) fun c => ofOpt (slC c l u)
def tO (F : Fx) (m : M (Option Int)) : TO := fun σ H Q => ∃ r s A Hd, Good F σ H r s A Hd ∧ match m r s with
  | .ok o r' s' => ∀ H' A' Hd', Good F σ H' r' s' A' Hd' → A <+: A' → Le Hd Hd' → Q o H'
  | .no => False
theorem po_nI : PO X none (tO F (prM none)) := ⟨fun pins s σ H Q I h => po_none.run pins s σ H Q I (by
  obtain ⟨r, s, A, Hd, G, h⟩ := h
  exact h H A Hd G (List.prefix_refl _) Le.rfl)⟩
theorem po_sI {e : Expr} {m : M Rv} (he : PE X e (tI F m)) : PO X (some e) (tO F (prM (some m))) := ⟨fun pins s σ H Q I h => (po_some he).run pins s σ H Q I (by
  obtain ⟨r, s, A, Hd, G, h⟩ := h
  refine ⟨r, s, A, Hd, G, ?_⟩
  simp only [prM] at h
  cases e1 : m r s with
  | no => rw [Rs.bind_no e1] at h; exact h
  | ok v r1 s1 =>
    rw [Rs.bind_ok e1] at h
    intro x H1 A1 Hd1 G1 p1 l1 k1
    cases e2 : ct v r1 s1 with
    | no => rw [Rs.bind_no e2] at h; exact h.elim
    | ok c r2 s2 =>
      rw [Rs.bind_ok e2] at h
      obtain ⟨rfl, rfl, q⟩ := ct_ok e2
      have k := G1.ctR k1 q
      cases q2 : intC? c with
      | none => rw [q2] at h; exact h.elim
      | some i =>
        rw [q2] at h
        have hc : c = .d (.int i) := by
          unfold intC? at q2
          split at q2
          · cases q2; rfl
          · cases q2
        subst hc
        have := k.1.int; subst this
        exact ⟨i, rfl, h H1 A1 Hd1 G1 p1 l1⟩)⟩
def rSl (K : PySem.W.Frag) : V → Option Int → Option Int → Hp → VK → Prop := fun x lo hi H Q => rSlL K x lo hi H Q ∨ rSlA K x lo hi H Q ∨ rSlS x lo hi H Q
theorem sl_any : L2.SlR X (rSl X.K) := L2.SlR.or sl_list (L2.SlR.or sl_tupA sl_str)
theorem DvAll.cut {vs : List V} {ds : List PyData} (lo hi : Option Int) (h : DvAll F Hd vs ds) : DvAll F Hd (cutV vs lo hi) (cutD ds lo hi) := by
  unfold cutV cutD
  rw [h.len]
  exact (h.dr _).tk _
theorem pe_slI (hK : F.K = X.K) {e : Expr} {lo hi : Option Expr} {m : M Rv} {ml mh : Option (M Rv)} {p2 pos : Pos} (he : PE X e (tI F m)) (hl : PO X lo (tO F (prM ml))) (hh : PO X hi (tO F (prM mh))) : PE X (.Subscript e (.Slice lo hi none p2) pos) (tI F (slM m ml mh)) := by
  refine PE.imp (pe_slice sl_any he hl hh) fun σ H Q ⟨r, s, A, Hd, G, h⟩ => ⟨r, s, A, Hd, G, ?_⟩
  unfold slM at h
  cases e1 : m r s with
  | no => rw [Rs.bind_no e1] at h; exact h
  | ok v r1 s1 =>
    rw [Rs.bind_ok e1] at h
    intro x H1 A1 Hd1 G1 p1 l1 k1
    obtain ⟨Hd2, G2, l2, k2⟩ := G1.opd k1
    refine ⟨r1, s1, A1, Hd2, G2, ?_⟩
    cases e2 : prM ml r1 s1 with
    | no => rw [Rs.bind_no e2] at h; exact h
    | ok l r2 s2 =>
      rw [Rs.bind_ok e2] at h
      intro H3 A3 Hd3 G3 p3 l3
      refine ⟨r2, s2, A3, Hd3, G3, ?_⟩
      cases e3 : prM mh r2 s2 with
      | no => rw [Rs.bind_no e3] at h; exact h
      | ok u r3 s3 =>
        rw [Rs.bind_ok e3] at h
        intro H4 A4 Hd4 G4 p4 l4
        cases e4 : ct (opd v) r3 s3 with
        | no => rw [Rs.bind_no e4] at h; exact h.elim
        | ok c r4 s4 =>
          rw [Rs.bind_ok e4] at h
          obtain ⟨rfl, rfl, q⟩ := ct_ok e4
          have k := G4.ctR (RvR.later p4 l4 (RvR.later (r' := r2) (H' := H3) p3 l3 k2)) q
          cases q2 : slC c l u with
          | none => rw [q2] at h; exact h.elim
          | some w =>
            rw [q2] at h
            have W : Wish F σ r4 s4 A4 Hd4 w Q := fun x H' A' Hd' G' p' l' k' => h x H' A' Hd' G' (p1.trans (p3.trans (p4.trans p'))) (l1.tr (l2.tr (l3.tr (l4.tr l')))) k'
            unfold slC at q2
            split at q2
            · rename_i lo hi xs
              cases q2
              obtain ⟨a, vs, rfl, k1, k2⟩ := k.1.tup
              refine .inr (.inl ⟨a, vs, rfl, by rw [← hK]; exact G4.le.sqt k1, fun hw => ?_, fun _ p hp => fin_tup G4 hp (k2.cut l u) W⟩)
              have ec : cutD xs l u = xs := by
                have hl := k2.len
                rw [hl] at hw
                unfold cutD
                rw [hw.1, hw.2]
                simp
              rw [ec] at W
              exact fin_d G4 k.1 W
            · rename_i lo hi xs
              cases q2
              obtain ⟨a, vs, rfl, k1, k2⟩ := k
              exact .inl ⟨a, vs, rfl, .inl (Rd.of k1), fun p hp => fin_lst G4 hp (k2.cut l u) W⟩
            · rename_i lo hi xs
              cases q2
              obtain ⟨a, vs, rfl, k1, k2⟩ := k
              exact .inl ⟨a, vs, rfl, hK ▸ k1, fun p hp => fin_lst G4 hp (k2.cut l u) W⟩
            · rename_i lo hi z
              split at q2
              · rename_i hz
                cases q2
                have := k.1.str; subst this
                refine .inr (.inr ⟨z, rfl, of_decide_eq_true hz, fin_d G4 ⟨.str _, cl_str.trans (strOk_sub (cl_str.symm.trans k.1.2) fun c hc => ?_)⟩ W⟩)
                have hc' : c ∈ (z.cps.toList.drop (HT.sIx z.length 0 l)).take (HT.sIx z.length z.length u - HT.sIx z.length 0 l) := by
                  have := hc
                  unfold cutS at this
                  simpa using this
                exact List.mem_of_mem_drop (List.mem_of_mem_take hc')
              · cases q2
            · cases q2
end
end Mi
set_option Elab.async false
set_option linter.all false
set_option maxRecDepth 100000
/-! M9: append, pop; len, tuple, list, int, any, all, isinstance. -/
namespace Mi
open PySem L2
def gAppend : List Rv → M Rv
  | [v, a] => M.bind (restD a) fun d => updO v fun o => match o with
    | .lst xs => if decide (xs.length < sizeLine) = true then some (.lst (xs ++ [d]), ad .none) else none
    | _ => none
  | _ => fail
def gPop : List Rv → M Rv
  | [v, a] => M.bind (ct a) fun c => M.bind (ofOpt (intC? c)) fun i => updO v fun o => match o with
    | .lst xs => if size xs.length = true then (ixN xs.length i).bind fun k => (xs[k]?).map fun d => (.lst (xs.eraseIdx k), ad d) else none
    | _ => none
  | _ => fail
section
variable {F : Fx} {X : Cx} {σ : L2.St} {H : Hp} {r : Rho} {s : Sto} {A : List Addr} {Hd : Hp} {x : V} {Q : VK}
theorem updO_noFr {β : Type} {v : Rv} {f : OD → Option (OD × β)} {b : β} {r' : Rho} {s' : Sto} (e : updO v f r s = .ok b r' s') : noFr v = true := by
  cases v with
  | fr o => cases e
  | _ => rfl
theorem intC?_eq {c : Ct} {i : Int} (h : intC? c = some i) : c = .d (.int i) := by
  unfold intC? at h
  split at h
  · cases h; rfl
  · cases h
theorem og_append : OpG F gAppend fun xs H Q => ∃ x ys, xs = x :: ys ∧ rAppend x ys H Q := by
  intro σ H r s A Hd xs vs v r' s' Q G k e W
  unfold gAppend at e
  split at e
  · rename_i v a
    obtain ⟨d, r1, s1, e1, e2⟩ := bind_ok_inv e
    match xs, k with
    | [x, y], k =>
      obtain ⟨k1, k2, _⟩ := k
      obtain ⟨rfl, Hd1, G1, l1, kd⟩ := G.restD k2 e1
      obtain ⟨ad', o, o', rfl, hR, hn, hf, hG⟩ := G1.updO (RvR.same l1 (updO_noFr e2) k1) e2
      cases o with
      | lst ds =>
        simp only at hf
        split at hf
        · rename_i hz
          cases hf
          obtain ⟨ws, h1, h2⟩ := hR
          have hl := h2.len
          refine ⟨_, _, rfl, ad', ws, y, rfl, rfl, h1, by rw [hl]; exact of_decide_eq_true hz, ?_⟩
          have hR' : RepO F (upd H ad' (.lst (ws ++ [y]))) Hd1 ad' (.lst (ds ++ [d])) := ⟨_, upd_same, h2.app (DvAll.cons kd DvAll.nil)⟩
          exact W .non _ A Hd1 (hG _ hR') (List.prefix_refl _) l1 ⟨.non, by rw [PyData.canLay0]⟩
        · cases hf
      | _ => cases hf
    | [], k => exact k.elim
    | [_], k => exact k.2.elim
    | _ :: _ :: _ :: _, k => exact k.2.2.elim
  · cases e
theorem og_pop : OpG F gPop fun xs H Q => ∃ x ys, xs = x :: ys ∧ rPopAt x ys H Q := by
  intro σ H r s A Hd xs vs v r' s' Q G k e W
  unfold gPop at e
  split at e
  · rename_i v a
    obtain ⟨c, r1, s1, e1, e2⟩ := bind_ok_inv e
    obtain ⟨rfl, rfl, q1⟩ := ct_ok e1
    obtain ⟨i, r2, s2, e3, e4⟩ := bind_ok_inv e2
    obtain ⟨rfl, rfl, q2⟩ := ofOpt_ok e3
    match xs, k with
    | [x, y], k =>
      obtain ⟨k1, k2, _⟩ := k
      have hc := G.ctR k2 q1
      rw [intC?_eq q2] at hc
      have hy := hc.1.int
      obtain ⟨ad', o, o', rfl, hR, hn, hf, hG⟩ := G.updO k1 e4
      cases o with
      | lst ds =>
        simp only at hf
        split at hf
        · rename_i hz
          cases q3 : ixN ds.length i with
          | none => rw [q3] at hf; cases hf
          | some j =>
            rw [q3] at hf
            simp only [Option.bind] at hf
            cases q4 : ds[j]? with
            | none => rw [q4] at hf; cases hf
            | some d =>
              rw [q4] at hf
              cases hf
              obtain ⟨ws, h1, h2⟩ := hR
              have hl := h2.len
              obtain ⟨w, hw, hdw⟩ := h2.get q4
              obtain ⟨z1, z2, z3, z4⟩ := ixN_seq q3
              have hz' : ds.length ≤ sizeLine := of_decide_eq_true hz
              have h63 := line63
              refine ⟨_, _, rfl, ad', ws, i, j, w, rfl, by rw [hy], h1, by omega, by omega, by rw [hl]; exact z1, hw, ?_⟩
              have hR' : RepO F (upd H ad' (.lst (ws.eraseIdx j))) Hd ad' (.lst (ds.eraseIdx j)) := ⟨_, upd_same, h2.erase j⟩
              exact W w _ A Hd (hG _ hR') (List.prefix_refl _) Le.rfl hdw
        · cases hf
      | _ => cases hf
    | [], k => exact k.elim
    | [_], k => exact k.2.elim
    | _ :: _ :: _ :: _, k => exact k.2.2.elim
  · cases e
theorem MtM.to {X : Cx} {id : String} {R : V → List V → Hp → VK → Prop} (h : MtM X id R) : MtR X id R := h
/-! ### calls of one place -/
def one (f : Ct → Option Rv) : List Ct → Option Rv
  | [a] => f a
  | _ => none
def Op1 (F : Fx) (f : Ct → Option Rv) (R : List V → Hp → VK → Prop) : Prop :=
  ∀ (σ : L2.St) (H : Hp) (r : Rho) (s : Sto) (A : List Addr) (Hd : Hp) (x : V) (c : Ct) (v : Rv) (Q : VK), Good F σ H r s A Hd → CtR F H Hd x c → f c = some v → Wish F σ r s A Hd v Q → R [x] H Q
theorem Op1.ops {f : Ct → Option Rv} {R : List V → Hp → VK → Prop} (h : Op1 F f R) : OpS F (one f) R := by
  intro σ H r s A Hd xs cs v Q G k e W
  unfold one at e
  split at e
  · rename_i c
    match xs, k with
    | [x], k => exact h σ H r s A Hd x c v Q G k.1 e W
    | [], k => exact k.elim
    | _ :: _ :: _, k => exact k.2.elim
  · cases e
def gOne (f : Ct → Option Rv) : List Rv → M Rv := ofOp (one f)
def lenC : Ct → Option Rv
  | .d (.tuple xs) => some (ad (.int xs.length))
  | .o (.lst xs) => some (ad (.int xs.length))
  | .d (.str z) => if size z.length then some (ad (.int z.length)) else none
  | .o (.dic kvs) => some (ad (.int kvs.length))
  | _ => none
def rLenI (K : PySem.W.Frag) : List V → Hp → VK → Prop := fun xs H Q => (∃ p ys, xs = [.ref p] ∧ (SqL K H p ys ∨ SqT K H p ys) ∧ Q (.int ys.length) H) ∨ (∃ z, xs = [.str z] ∧ z.length ≤ sizeLine ∧ Q (.int z.length) H) ∨ ∃ a kvs, xs = [V.ref a] ∧ H a = some (.dK kvs) ∧ Q (.int kvs.length) H
theorem cr_lenI : CallR X (.builtin "len") (rLenI X.K) := CallR.or call_len_seq (CallR.or call_len_str call_lenD)
theorem KvK.len : ∀ {ks : List (Key × V)} {kvs : List (PyData × PyData)}, KvK F Hd ks kvs → ks.length = kvs.length
  | [], [], _ => rfl
  | _ :: _, _ :: _, h => by rw [List.length_cons, List.length_cons, KvK.len h.2.2]
  | [], _ :: _, h => h.elim
  | _ :: _, [], h => h.elim
theorem o1_len : Op1 F lenC (rLenI F.K) := by
  intro σ H r s A Hd x c v Q G hc e W
  unfold lenC at e
  split at e
  · cases e
    obtain ⟨a, vs, rfl, k1, k2⟩ := hc.1.tup
    exact .inl ⟨a, vs, rfl, .inr (G.le.sqt k1), by rw [k2.len]; exact fin_int G W⟩
  · cases e
    obtain ⟨a, vs, rfl, k1, k2⟩ := hc
    exact .inl ⟨a, vs, rfl, .inl (.inl (Rd.of k1)), by rw [k2.len]; exact fin_int G W⟩
  · rename_i z
    split at e
    · rename_i hz
      cases e
      have := hc.1.str; subst this
      exact .inr (.inl ⟨z, rfl, of_decide_eq_true hz, fin_int G W⟩)
    · cases e
  · cases e
    obtain ⟨a, rfl, ks, h1, h2⟩ := hc
    exact .inr (.inr ⟨a, ks, rfl, h1, by rw [h2.len]; exact fin_int G W⟩)
  · cases e
def tupC : Ct → Option Rv
  | .d (.tuple xs) => some (ad (.tuple xs))
  | .o (.lst xs) => some (ad (.tuple xs))
  | _ => none
def rTupI (K : PySem.W.Frag) : List V → Hp → VK → Prop := fun xs H Q => ∃ p ys, xs = [.ref p] ∧ ((SqL K H p ys ∧ ∀ l, H l = none → Q (.ref l) (upd H l (.tup ys))) ∨ (SqT K H p ys ∧ Q (.ref p) H))
theorem o1_tup : Op1 F tupC (rTupI F.K) := by
  intro σ H r s A Hd x c v Q G hc e W
  unfold tupC at e
  split at e
  · cases e
    obtain ⟨a, vs, rfl, k1, k2⟩ := hc.1.tup
    exact ⟨a, vs, rfl, .inr ⟨G.le.sqt k1, fin_d G hc.1 W⟩⟩
  · cases e
    obtain ⟨a, vs, rfl, k1, k2⟩ := hc
    exact ⟨a, vs, rfl, .inl ⟨.inl (Rd.of k1), fun p hp => fin_tup G hp k2 W⟩⟩
  · cases e
def lstC : Ct → Option Rv
  | .d (.tuple xs) => some (.fr (.lst xs))
  | .o (.lst xs) => some (.fr (.lst xs))
  | .s xs => some (.fr (.lst xs))
  | _ => none
def rLstI (K : PySem.W.Frag) : List V → Hp → VK → Prop := fun xs H Q => ∃ p ys, xs = [.ref p] ∧ (SqL K H p ys ∨ SqT K H p ys) ∧ ∀ l, H l = none → Q (.ref l) (upd H l (.lst ys))
theorem o1_lst : Op1 F lstC (rLstI F.K) := by
  intro σ H r s A Hd x c v Q G hc e W
  unfold lstC at e
  split at e
  · cases e
    obtain ⟨a, vs, rfl, k1, k2⟩ := hc.1.tup
    exact ⟨a, vs, rfl, .inr (G.le.sqt k1), fun p hp => fin_lst G hp k2 W⟩
  · cases e
    obtain ⟨a, vs, rfl, k1, k2⟩ := hc
    exact ⟨a, vs, rfl, .inl (.inl (Rd.of k1)), fun p hp => fin_lst G hp k2 W⟩
  · cases e
    obtain ⟨a, vs, rfl, k1, k2⟩ := hc
    exact ⟨a, vs, rfl, .inl k1, fun p hp => fin_lst G hp k2 W⟩
  · cases e
def intTC : Ct → Option Rv
  | .d (.int i) => some (ad (.int i))
  | .d (.bool b) => some (ad (.int (if b then 1 else 0)))
  | _ => none
def rIntI : List V → Hp → VK → Prop := fun xs H Q => (∃ i, xs = [.int i] ∧ Q (.int i) H) ∨ ∃ k, xs = [.bl k] ∧ Q (.int (if k then 1 else 0)) H
theorem o1_int : Op1 F intTC rIntI := by
  intro σ H r s A Hd x c v Q G hc e W
  unfold intTC at e
  split at e
  · cases e
    have := hc.1.int; subst this
    exact .inl ⟨_, rfl, fin_int G W⟩
  · cases e
    have := hc.1.bl; subst this
    exact .inr ⟨_, rfl, fin_int G W⟩
  · cases e
def bools? : List PyData → Option (List Bool)
  | [] => some []
  | .bool b :: r => (bools? r).map (b :: ·)
  | _ => none
theorem bools_V : ∀ {ds : List PyData} {bs : List Bool} {vs : List V}, bools? ds = some bs → DqAll F.K Hd vs ds → vs = bs.map V.bl
  | [], bs, vs, h, k => by cases h; cases k; rfl
  | d :: ds, bs, vs, h, k => by
    cases d with
    | bool b =>
      have h' : (bools? ds).map (b :: ·) = some bs := h
      cases q : bools? ds with
      | none => rw [q] at h'; cases h'
      | some bs' =>
        rw [q] at h'; cases h'
        cases k with
        | cons a t =>
          cases a
          rw [bools_V q t]; rfl
    | _ => cases h
def qunC (f : List Bool → Bool) : Ct → Option Rv
  | .o (.lst xs) => (bools? xs).map fun bs => bl (f bs)
  | _ => none
theorem o1_any : Op1 F (qunC fun bs => bs.any id) (rAny F.K) := by
  intro σ H r s A Hd x c v Q G hc e W
  unfold qunC at e
  split at e
  · rename_i xs
    cases q : bools? xs with
    | none => rw [q] at e; cases e
    | some bs =>
      rw [q] at e; cases e
      obtain ⟨a, vs, rfl, k1, k2⟩ := hc
      have := bools_V q k2.1; subst this
      exact ⟨a, bs, rfl, .inl (Rd.of k1), fin_bl G W⟩
  · cases e
theorem o1_all : Op1 F (qunC fun bs => bs.all id) (rAll F.K) := by
  intro σ H r s A Hd x c v Q G hc e W
  unfold qunC at e
  split at e
  · rename_i xs
    cases q : bools? xs with
    | none => rw [q] at e; cases e
    | some bs =>
      rw [q] at e; cases e
      obtain ⟨a, vs, rfl, k1, k2⟩ := hc
      have := bools_V q k2.1; subst this
      exact ⟨a, bs, rfl, .inl (Rd.of k1), fin_bl G W⟩
  · cases e
/-! ### isinstance(x, T) -/
def tyNm : Ct → Option String
  | .d .none => some "NoneType"
  | .d (.bool _) => some "bool"
  | .d (.int _) => some "int"
  | .d (.str _) => some "str"
  | .d (.tuple (_ :: _)) => some "tuple"
  | .d (.tuple []) => some "tuple"
  | .o (.lst _) => some "list"
  | .o (.dic _) => some "dict"
  | _ => none
def isiC (T : String) (c : Ct) : Option Rv := (tyNm c).bind fun a => (kitB a T).map bl
def isiM (T : String) (m : M Rv) : M Rv := M.bind m fun v => M.bind (ct (opd v)) fun c => ofOpt (isiC T c)
theorem tyX_of (hK : F.K = X.K) (G : Good F σ H r s A Hd) {c : Ct} {a : String} (h : CtR F H Hd x c) (e : tyNm c = some a) : TyX X.K H x (.type a) := by
  have tup : ∀ {ds : List PyData}, Dv F Hd x (.tuple ds) → TyX X.K H x (.type "tuple") := fun {ds} h => by
    obtain ⟨p, vs, rfl, k1, k2⟩ := h.tup
    rcases G.le.sqt k1 with k | ⟨o, its, n, k3, k4, _⟩
    · rcases k with k | ⟨o, k⟩
      · exact .base (.tup k)
      · exact .fTuple k
    · exact .kTuple (by rw [← hK]; exact k3) k4
  unfold tyNm at e
  split at e <;> cases e
  · have := h.1.non; subst this; exact .base .non
  · have := h.1.bl; subst this; exact .base (.bl _)
  · have := h.1.int; subst this; exact .base (.int _)
  · have := h.1.str; subst this; exact .base (.str _)
  · exact tup h.1
  · exact tup h.1
  · obtain ⟨p, vs, rfl, k1, _⟩ := h
    exact .base (.lst k1)
  · obtain ⟨p, rfl, ks, k1, _⟩ := h
    exact .base (.dK k1)
/-- a value, then the written class -/
theorem pe_isiI (hK : F.K = X.K) {T : String} {Tn : Str} {e : Expr} {p p2 pos : Pos} {m : M Rv} (he : PE X e (tI F m)) (hg : Gl X "isinstance") (hm : X.mg "isinstance" = none) (hg2 : Gl X Tn) (hm2 : X.mg Tn = none) (hv2 : bootBuiltins Tn = some (.type T))
    (hn2 : Tn ≠ "__name__" := by decide) (hd2 : (Tn == ("__debug__" : Str)) = false := by decide)
    (hb : bootBuiltins "isinstance" = some (.builtin "isinstance") := by decide +kernel)
    (hs : starEach (e :: [.Name Tn p2]) X.env = (false, eval e X.env) :: starEach [.Name Tn p2] X.env := by rfl) (hs2 : starEach [.Name Tn p2] X.env = (false, eval (.Name Tn p2) X.env) :: starEach [] X.env := by rfl)
    (hpl : (backTo pos (starEach [.Name Tn p2] X.env)).any (·.1) = false := by rfl) : PE X (.Call (.Name "isinstance" p) [e, .Name Tn p2] [] pos) (tI F (isiM T m)) := by
  refine PE.imp (pe_callB call_isi hg hm hb (pa_cons he (pa_cons (pe_bltn (v := .ty T) hg2 hm2 hv2 rfl hn2 hd2) pa_nil hs2) hs) (by decide) (by decide) hs hpl) fun σ H Q ⟨r, s, A, Hd, G, h⟩ => ⟨r, s, A, Hd, G, ?_⟩
  unfold isiM at h
  cases e1 : m r s with
  | no => rw [Rs.bind_no e1] at h; exact h
  | ok v r1 s1 =>
    rw [Rs.bind_ok e1] at h
    intro x H1 A1 Hd1 G1 p1 l1 k1
    obtain ⟨Hd2, G2, l2, k2⟩ := G1.opd k1
    cases e2 : ct (opd v) r1 s1 with
    | no => rw [Rs.bind_no e2] at h; exact h.elim
    | ok c r2 s2 =>
      rw [Rs.bind_ok e2] at h
      obtain ⟨rfl, rfl, q⟩ := ct_ok e2
      have k := G2.ctR k2 q
      cases q2 : isiC T c with
      | none => rw [q2] at h; exact h.elim
      | some w =>
        rw [q2] at h
        unfold isiC at q2
        cases q3 : tyNm c with
        | none => rw [q3] at q2; cases q2
        | some a =>
          rw [q3] at q2
          simp only [Option.bind] at q2
          cases q4 : kitB a T with
          | none => rw [q4] at q2; cases q2
          | some b =>
            rw [q4] at q2; cases q2
            refine ⟨x, .ty T, .type a, .type T, b, rfl, .ty T, tyX_of hK G2 k q3, kit_ty q4, fin_bl G2 fun x H' A' Hd' G' p' l' k' => h x H' A' Hd' G' (p1.trans p') (l1.tr (l2.tr l')) k'⟩
end
end Mi
set_option Elab.async false
set_option linter.all false
set_option maxRecDepth 100000
/-! M10: statements, targets, walks over sequences. -/
namespace Mi
open PySem L2
inductive Out where
  | nx | bk | ct
  | rt (v : Rv)
def outD (F : Fx) (D : Ends) (σ : L2.St) (H Hd : Hp) (A : List Addr) (r : Rho) : Out → Prop
  | .nx => D.nx σ H
  | .bk => D.bk σ H
  | .ct => D.ct σ H
  | .rt v => ∀ x, RvR F σ H Hd A r x v → D.rt x H
def tSx (F : Fx) (HdB : Hp) (m : M Out) : TS := fun D σ H => ∃ r s A Hd, Good F σ H r s A Hd ∧ Le HdB Hd ∧ match m r s with
  | .ok o r' s' => ∀ σ' H' A' Hd', Good F σ' H' r' s' A' Hd' → A <+: A' → Le Hd Hd' → outD F D σ' H' Hd' A' r' o
  | .no => False
def Hp0 : Hp := fun _ => none
theorem Le.zero {H : Hp} : Le Hp0 H := fun _ _ h => by cases h
abbrev tS (F : Fx) (m : M Out) : TS := tSx F Hp0 m
/-- one after another -/
def seqM (m1 m2 : M Out) : M Out := M.bind m1 fun o => match o with
  | .nx => m2
  | o => M.pure o
section
variable {F : Fx} {X : Cx} {σ : L2.St} {H : Hp} {r : Rho} {s : Sto} {A : List Addr} {Hd : Hp} {x : V} {Q : VK}
theorem pss_nilI : PSs X [] (tS F (M.pure .nx)) := PSs.imp pss_nil fun D σ H ⟨r, s, A, Hd, G, _, h⟩ => h σ H A Hd G (List.prefix_refl _) Le.rfl
theorem pss_consI {st : Stmt} {rest : List Stmt} {m1 m2 : M Out} (h1 : PS X st (tS F m1)) (h2 : PSs X rest (tS F m2)) : PSs X (st :: rest) (tS F (seqM m1 m2)) := by
  refine PSs.imp (pss_cons h1 h2) fun D σ H ⟨r, s, A, Hd, G, l, h⟩ => ⟨r, s, A, Hd, G, l, ?_⟩
  unfold seqM at h
  cases e1 : m1 r s with
  | no => rw [Rs.bind_no e1] at h; exact h
  | ok o r1 s1 =>
    rw [Rs.bind_ok e1] at h
    intro σ1 H1 A1 Hd1 G1 p1 l1
    cases o with
    | nx =>
      refine ⟨r1, s1, A1, Hd1, G1, Le.zero, ?_⟩
      dsimp only at h
      cases e2 : m2 r1 s1 with
      | no => rw [e2] at h; exact h
      | ok o2 r2 s2 =>
        rw [e2] at h
        exact fun σ2 H2 A2 Hd2 G2 p2 l2 => h σ2 H2 A2 Hd2 G2 (p1.trans p2) (l1.tr l2)
    | bk => exact h σ1 H1 A1 Hd1 G1 p1 l1
    | ct => exact h σ1 H1 A1 Hd1 G1 p1 l1
    | rt v => exact h σ1 H1 A1 Hd1 G1 p1 l1
theorem pss_oneI {st : Stmt} {m : M Out} (h : PS X st (tS F m)) : PSs X [st] (tS F m) := pss_one h
theorem pss_failI {sts : List Stmt} : PSs X sts (tS F fail) := PSs.imp pss_never fun D σ H ⟨r, s, A, Hd, G, _, h⟩ => h
theorem ps_failI {st : Stmt} : PS X st (tS F fail) := PS.imp ps_never fun D σ H ⟨r, s, A, Hd, G, _, h⟩ => h
theorem ps_docI {x j pos pos'} : PS X (.Expr (.Constant (.str x) j pos) pos') (tS F (M.pure .nx)) := PS.imp ps_doc fun D σ H ⟨r, s, A, Hd, G, _, h⟩ => h σ H A Hd G (List.prefix_refl _) Le.rfl
def exM (m : M Rv) : M Out := M.bind m fun _ => M.pure .nx
def reM (m : M Rv) : M Out := M.bind m fun v => M.pure (.rt v)
def ifS (c : M Bool) (a b : M Out) : M Out := M.bind c fun k => if k = true then a else b
theorem ps_exI {e : Expr} {pos : Pos} {m : M Rv} (he : PE X e (tI F m)) (hs : swapsWith e none pos.line X.env = pure false := by rfl) : PS X (.Expr e pos) (tS F (exM m)) := by
  refine PS.imp (ps_expr he hs) fun D σ H ⟨r, s, A, Hd, G, _, h⟩ => ⟨r, s, A, Hd, G, ?_⟩
  unfold exM at h
  cases e1 : m r s with
  | no => rw [Rs.bind_no e1] at h; exact h
  | ok v r1 s1 =>
    rw [Rs.bind_ok e1] at h
    exact fun x H1 A1 Hd1 G1 p1 l1 _ => h σ H1 A1 Hd1 G1 p1 l1
theorem ps_reI {e : Expr} {pos : Pos} {m : M Rv} (he : PE X e (tI F m)) : PS X (.Return (some e) pos) (tS F (reM m)) := by
  refine PS.imp (ps_ret he) fun D σ H ⟨r, s, A, Hd, G, _, h⟩ => ⟨r, s, A, Hd, G, ?_⟩
  unfold reM at h
  cases e1 : m r s with
  | no => rw [Rs.bind_no e1] at h; exact h
  | ok v r1 s1 =>
    rw [Rs.bind_ok e1] at h
    exact fun x H1 A1 Hd1 G1 p1 l1 k1 => h σ H1 A1 Hd1 G1 p1 l1 x k1
theorem ps_reNI {pos : Pos} : PS X (.Return none pos) (tS F (M.pure (.rt (ad .none)))) := PS.imp ps_retN fun D σ H ⟨r, s, A, Hd, G, _, h⟩ => h σ H A Hd G (List.prefix_refl _) Le.rfl .non ⟨.non, by rw [PyData.canLay0]⟩
theorem ps_brI {pos : Pos} : PS X (.Break pos) (tS F (M.pure .bk)) := PS.imp ps_break fun D σ H ⟨r, s, A, Hd, G, _, h⟩ => h σ H A Hd G (List.prefix_refl _) Le.rfl
theorem ps_ctI {pos : Pos} : PS X (.Continue pos) (tS F (M.pure .ct)) := PS.imp ps_continue fun D σ H ⟨r, s, A, Hd, G, _, h⟩ => h σ H A Hd G (List.prefix_refl _) Le.rfl
/-- a test, then what follows -/
theorem tTI_st {D : Ends} {HdB : Hp} {m : M Bool} {m' : Bool → M Out} (h : tSx F HdB (M.bind m m') D σ H) : tTI F m σ H fun k H1 => tSx F HdB (m' k) D σ H1 := by
  obtain ⟨r, s, A, Hd, G, l0, h⟩ := h
  refine ⟨r, s, A, Hd, G, ?_⟩
  cases e1 : m r s with
  | no => rw [Rs.bind_no e1] at h; exact h
  | ok k r1 s1 =>
    rw [Rs.bind_ok e1] at h
    intro H1 A1 Hd1 G1 p1 l1
    refine ⟨r1, s1, A1, Hd1, G1, l0.tr l1, ?_⟩
    cases e2 : m' k r1 s1 with
    | no => rw [e2] at h; exact h
    | ok o r2 s2 =>
      rw [e2] at h
      exact fun σ2 H2 A2 Hd2 G2 p2 l2 => h σ2 H2 A2 Hd2 G2 (p1.trans p2) (l1.tr l2)
theorem ps_ifI {c : Expr} {a b : List Stmt} {pos : Pos} {mc : M Bool} {ma mb : M Out} (hc : PT X c (tTI F mc)) (ha : PSs X a (tS F ma)) (hb : PSs X b (tS F mb)) : PS X (.If c a b pos) (tS F (ifS mc ma mb)) :=
  PS.imp (ps_if hc ha hb) fun D σ H h => tTI_mono (tTI_st h) fun k H1 h1 => by cases k <;> exact h1

/-! ### slots are set -/
theorem set_old {r : Rho} {i j : Nat} {c c' : Sl} (q : (r.set i c')[j]? = some c) (z : j ≠ i) : r[j]? = some c := by
  rw [List.getElem?_set_ne (Ne.symm z)] at q; exact q
theorem set_oldσ {σ : L2.St} {i j : Nat} {c c' : Option V} (q : (σ.set i c')[j]? = some c) (z : j ≠ i) : σ[j]? = some c := by
  rw [List.getElem?_set_ne (Ne.symm z)] at q; exact q
theorem Good.setW (G : Good F σ H r s A Hd) {w : Wv} (h : RepW F Hd A x w) (i : Nat) : Good F (σ.set i (some x)) H (r.set i (.w w)) s A Hd := by
  refine ⟨G.le, by rw [List.length_set, List.length_set]; exact G.len, G.shl, G.sh, G.nd, G.pre, G.new, G.keep, fun j c q => ?_, fun j k o1 o2 b q1 q2 e1 e2 => ?_, G.hdr⟩
  · by_cases z : j = i
    · subst z
      have hl : j < r.length := by
        have := (List.getElem?_eq_some_iff.mp q).1
        rwa [List.length_set] at this
      rw [List.getElem?_set_self hl] at q; cases q
      exact ⟨x, by rw [List.getElem?_set_self (by rw [G.len]; exact hl)], h⟩
    · have k := G.env j c (set_old q z)
      rw [List.getElem?_set_ne (Ne.symm z)]
      exact k
  · have f : ∀ {j : Nat} {o1 : OD}, (r.set i (.w w))[j]? = some (.ow o1) → j ≠ i := fun {j o1} q z => by
      subst z
      have hl : j < r.length := by
        have := (List.getElem?_eq_some_iff.mp q).1
        rwa [List.length_set] at this
      rw [List.getElem?_set_self hl] at q; cases q
    have n1 := f q1
    have n2 := f q2
    exact G.sep j k o1 o2 b (set_old q1 n1) (set_old q2 n2) (set_oldσ e1 n1) (set_oldσ e2 n2)
theorem Good.setO (G : Good F σ H r s A Hd) {o : OD} (h : RvR F σ H Hd A r x (.fr o)) (i : Nat) : Good F (σ.set i (some x)) H (r.set i (.ow o)) s A Hd := by
  obtain ⟨a, rfl, h1, h2, h3, h4, h5⟩ := h
  refine ⟨G.le, by rw [List.length_set, List.length_set]; exact G.len, G.shl, G.sh, G.nd, G.pre, G.new, G.keep, fun j c q => ?_, fun j k o1 o2 b q1 q2 e1 e2 => ?_, G.hdr⟩
  · by_cases z : j = i
    · subst z
      have hl : j < r.length := by
        have := (List.getElem?_eq_some_iff.mp q).1
        rwa [List.length_set] at this
      rw [List.getElem?_set_self hl] at q; cases q
      exact ⟨a, by rw [List.getElem?_set_self (by rw [G.len]; exact hl)], h1, h2, h3, h4⟩
    · have k := G.env j c (set_old q z)
      rw [List.getElem?_set_ne (Ne.symm z)]
      exact k
  · have f : ∀ {j : Nat} {o1 : OD}, (r.set i (.ow o))[j]? = some (.ow o1) → (σ.set i (some (V.ref a)))[j]? = some (some (V.ref b)) → b = a → j = i := fun {j o1} q e z => by
      by_cases w : j = i
      · exact w
      · exfalso
        subst z
        exact h5 j o1 (set_old q w) (set_oldσ e w)
    have g : ∀ {j : Nat} {o1 : OD}, (r.set i (.ow o))[j]? = some (.ow o1) → (σ.set i (some (V.ref a)))[j]? = some (some (V.ref b)) → j = i → b = a := fun {j o1} q e z => by
      subst z
      have hl : j < r.length := by
        have := (List.getElem?_eq_some_iff.mp q).1
        rwa [List.length_set] at this
      rw [List.getElem?_set_self (by rw [G.len]; exact hl)] at e
      cases e; rfl
    by_cases w : b = a
    · rw [f q1 e1 w, f q2 e2 w]
    · have n1 : j ≠ i := fun z => w (g q1 e1 z)
      have n2 : k ≠ i := fun z => w (g q2 e2 z)
      exact G.sep j k o1 o2 b (set_old q1 n1) (set_old q2 n2) (set_oldσ e1 n1) (set_oldσ e2 n2)
/-- a value goes into a slot -/
def stM (i : Nat) (v : Rv) : M Out := match v with
  | .fr o => fun r s => .ok .nx (r.set i (.ow o)) s
  | v => M.bind (rest v) fun w => fun r s => .ok .nx (r.set i (.w w)) s
def asM (i : Nat) (m : M Rv) : M Out := M.bind m (stM i)
theorem asg_ok {D : Ends} {i : Nat} {v : Rv} {o : Out} {r' : Rho} {s' : Sto} (G : Good F σ H r s A Hd) (k : RvR F σ H Hd A r x v) (e : stM i v r s = .ok o r' s') : o = .nx ∧ ∃ Hd', Good F (σ.set i (some x)) H r' s' A Hd' ∧ Le Hd Hd' := by
  have gen : M.bind (rest v) (fun w => fun r s => Rs.ok Out.nx (r.set i (Sl.w w)) s) r s = .ok o r' s' → o = .nx ∧ ∃ Hd', Good F (σ.set i (some x)) H r' s' A Hd' ∧ Le Hd Hd' := fun e => by
    obtain ⟨w, r1, s1, e1, e2⟩ := bind_ok_inv e
    obtain ⟨rfl, Hd2, G2, l2, kw⟩ := G.rest k e1
    cases e2
    exact ⟨rfl, Hd2, G2.setW kw i, l2⟩
  cases v with
  | fr o' => cases e; exact ⟨rfl, Hd, G.setO k i, Le.rfl⟩
  | w w => exact gen e
  | pk j => exact gen e
theorem asM_to {D : Ends} {i : Nat} {m : M Rv} (h : tS F (asM i m) D σ H) : tAsg (tI F m) (gName i) D σ H := by
  obtain ⟨r, s, A, Hd, G, _, h⟩ := h
  refine ⟨r, s, A, Hd, G, ?_⟩
  unfold asM at h
  cases e1 : m r s with
  | no => rw [Rs.bind_no e1] at h; exact h
  | ok v r1 s1 =>
    rw [Rs.bind_ok e1] at h
    intro x H1 A1 Hd1 G1 p1 l1 k1
    cases e2 : stM i v r1 s1 with
    | no => rw [e2] at h; exact h.elim
    | ok o r2 s2 =>
      rw [e2] at h
      obtain ⟨rfl, Hd2, G2, l2⟩ := asg_ok (D := D) G1 k1 e2
      exact h _ H1 A1 Hd2 G2 p1 (l1.tr l2)
theorem ps_asI {i : Nat} {y : Str} {e : Expr} {pos pos' : Pos} {m : M Rv} (hN : X.N.Nodup) (hi : X.N[i]? = some y) (hx : Loc X.env.scope y) (he : PE X e (tI F m)) (hs : swapsWith e (some (.Name y pos')) pos.line X.env = pure false := by rfl) (hf : X.fn y = true ∨ X.env.scope.names.lookup y = some .local := by first | exact .inl rfl | exact .inr rfl | assumption) :
    PS X (.Assign [.Name y pos'] e pos) (tS F (asM i m)) := PS.imp (ps_set hN hi hx he hs hf) fun D σ H h => asM_to h
/-- shared from now on -/
def shM (i : Nat) (m : M Rv) : M Out := M.bind m fun v => match v with
  | .fr o => fun r s => .ok .nx (r.set i (.w (.obj s.length))) (s ++ [o])
  | _ => fail
theorem Good.shr (G : Good F σ H r s A Hd) {o : OD} (h : RvR F σ H Hd A r x (.fr o)) : ∃ a, x = .ref a ∧ Good F σ H r (s ++ [o]) (A ++ [a]) Hd := by
  obtain ⟨a, rfl, h1, h2, h3, h4, h5⟩ := h
  refine ⟨a, rfl, G.le, G.len, by rw [List.length_append, List.length_append, G.shl]; rfl, fun n b o' p q => ?_, ?_, ?_, fun b hb nb => ?_, G.keep, fun j c q => ?_, G.sep, G.hdr⟩
  · by_cases z : n < A.length
    · rw [List.getElem?_append_left z] at p
      rw [List.getElem?_append_left (by rw [G.shl]; exact z)] at q
      exact G.sh n b o' p q
    · have hz : n = A.length := by
        have := (List.getElem?_eq_some_iff.mp p).1
        rw [List.length_append, List.length_singleton] at this
        omega
      subst hz
      rw [List.getElem?_append_right (Nat.le_refl _)] at p
      rw [List.getElem?_append_right (by rw [G.shl]; exact Nat.le_refl _), G.shl] at q
      simp at p q
      subst p q
      exact ⟨h1, h4⟩
  · refine List.nodup_append.mpr ⟨G.nd, by simp, fun b hb c hc => ?_⟩
    simp at hc
    subst hc
    exact fun e => h2 (e ▸ hb)
  · exact List.IsPrefix.trans G.pre (List.prefix_append _ _)
  · rcases List.mem_append.mp hb with z | z
    · exact G.new b z nb
    · simp at z; subst z; exact h3
  · have k := G.env j c q
    cases c with
    | un => trivial
    | w v =>
      obtain ⟨y, k1, k2⟩ := k
      exact ⟨y, k1, k2.le Le.rfl (List.prefix_append _ _)⟩
    | ow d =>
      obtain ⟨b, k1, k2, k3, k4, k5⟩ := k
      refine ⟨b, k1, k2, fun hm => ?_, k4, k5⟩
      rcases List.mem_append.mp hm with z | z
      · exact k3 z
      · simp at z; subst z; exact h5 j d q k1
theorem ps_shI {i : Nat} {y : Str} {e : Expr} {pos pos' : Pos} {m : M Rv} (hN : X.N.Nodup) (hi : X.N[i]? = some y) (hx : Loc X.env.scope y) (he : PE X e (tI F m)) (hs : swapsWith e (some (.Name y pos')) pos.line X.env = pure false := by rfl) (hf : X.fn y = true ∨ X.env.scope.names.lookup y = some .local := by first | exact .inl rfl | exact .inr rfl | assumption) :
    PS X (.Assign [.Name y pos'] e pos) (tS F (shM i m)) := PS.imp (ps_set hN hi hx he hs hf) fun D σ H ⟨r, s, A, Hd, G, _, h⟩ => by
  refine ⟨r, s, A, Hd, G, ?_⟩
  unfold shM at h
  cases e1 : m r s with
  | no => rw [Rs.bind_no e1] at h; exact h
  | ok v r1 s1 =>
    rw [Rs.bind_ok e1] at h
    intro x H1 A1 Hd1 G1 p1 l1 k1
    cases v with
    | fr o =>
      obtain ⟨a, rfl, G2⟩ := G1.shr k1
      exact h _ H1 _ Hd1 (G2.setW (w := .obj s1.length) ⟨a, rfl, by rw [G1.shl, List.getElem?_append_right (Nat.le_refl _)]; simp⟩ i) (p1.trans (List.prefix_append _ _)) l1
    | w w => exact h.elim
    | pk j => exact h.elim

/-! ### targets of data -/
mutual
inductive Tgt where
  | nm (i : Nat)
  | tp (ts : Tgs)
inductive Tgs where
  | nil
  | cons (t : Tgt) (r : Tgs)
end
def Tgs.len : Tgs → Nat
  | .nil => 0
  | .cons _ r => r.len + 1
mutual
def setT : Tgt → PyData → Rho → Option Rho
  | .nm i, d, r => some (r.set i (.w (.d d)))
  | .tp ts, .tuple ds, r => setTs ts ds r
  | .tp _, _, _ => none
def setTs : Tgs → List PyData → Rho → Option Rho
  | .nil, [], r => some r
  | .cons t ts, d :: ds, r => match setT t d r with
    | some r' => setTs ts ds r'
    | none => none
  | _, _, _ => none
end
mutual
def gT (K : PySem.W.Frag) : Tgt → TG
  | .nm i => gName i
  | .tp ts => gTup K ts.len (gTs K ts)
def gTs (K : PySem.W.Frag) : Tgs → TGs
  | .nil => gNil
  | .cons t ts => gCons (gT K t) (gTs K ts)
end
mutual
def Tgt.sl : Tgt → List Nat
  | .nm i => [i]
  | .tp ts => ts.sl
def Tgs.sl : Tgs → List Nat
  | .nil => []
  | .cons t r => t.sl ++ r.sl
end
theorem setTs_len : ∀ {ts : Tgs} {ds : List PyData} {r r' : Rho}, setTs ts ds r = some r' → ds.length = ts.len
  | .nil, [], _, _, _ => rfl
  | .nil, _ :: _, _, _, h => by cases h
  | .cons t ts, [], _, _, h => by cases h
  | .cons t ts, d :: ds, r, r', h => by
    simp only [setTs] at h
    cases q : setT t d r with
    | none => rw [q] at h; cases h
    | some r1 => rw [q] at h; rw [List.length_cons, Tgs.len, setTs_len h]
/-- agree outside some slots -/
def Agr (ss : List Nat) (σ σ' : L2.St) : Prop := σ'.length = σ.length ∧ ∀ j, j ∉ ss → σ'[j]? = σ[j]?
theorem Agr.rfl {ss : List Nat} {σ : L2.St} : Agr ss σ σ := ⟨Eq.refl _, fun _ _ => Eq.refl _⟩
theorem Agr.tr {ss tt : List Nat} {σ σ1 σ2 : L2.St} (a : Agr ss σ σ1) (b : Agr tt σ1 σ2) : Agr (ss ++ tt) σ σ2 := ⟨b.1.trans a.1, fun j h => (b.2 j fun z => h (List.mem_append_right _ z)).trans (a.2 j fun z => h (List.mem_append_left _ z))⟩
mutual
theorem gT_ok : ∀ {t : Tgt} {d : PyData} {r r' : Rho} {σ : L2.St} {x : V} {Q : L2.St → Hp → Prop}, setT t d r = some r' → Dv F Hd x d → Good F σ H r s A Hd → (∀ σ', Agr t.sl σ σ' → Good F σ' H r' s A Hd → Q σ' H) → gT F.K t x σ H Q
  | .nm i, d, r, r', σ, x, Q, h, k, G, W => by
    cases h
    refine W _ ⟨by rw [List.length_set], fun j hj => ?_⟩ (G.setW (w := .d d) k i)
    rw [List.getElem?_set_ne]
    intro z; subst z; exact hj (List.mem_singleton.mpr rfl)
  | .tp ts, .tuple ds, r, r', σ, x, Q, h, k, G, W => by
    obtain ⟨a, vs, rfl, k1, k2⟩ := k.tup
    have h' : setTs ts ds r = some r' := by simpa only [setT] using h
    exact ⟨a, vs, rfl, G.le.sqt k1, by rw [k2.len]; exact setTs_len h', gTs_ok h' k2 G W⟩
  | .tp ts, .none, _, _, _, _, _, h, _, _, _ => by simp [setT] at h
  | .tp ts, .bool _, _, _, _, _, _, h, _, _, _ => by simp [setT] at h
  | .tp ts, .int _, _, _, _, _, _, h, _, _, _ => by simp [setT] at h
  | .tp ts, .str _, _, _, _, _, _, h, _, _, _ => by simp [setT] at h
  | .tp ts, .list _, _, _, _, _, _, h, _, _, _ => by simp [setT] at h
  | .tp ts, .dict _, _, _, _, _, _, h, _, _, _ => by simp [setT] at h
theorem gTs_ok : ∀ {ts : Tgs} {ds : List PyData} {r r' : Rho} {σ : L2.St} {xs : List V} {Q : L2.St → Hp → Prop}, setTs ts ds r = some r' → DvAll F Hd xs ds → Good F σ H r s A Hd → (∀ σ', Agr ts.sl σ σ' → Good F σ' H r' s A Hd → Q σ' H) → gTs F.K ts xs σ H Q
  | .nil, [], r, r', σ, xs, Q, h, k, G, W => by
    cases h
    cases k.1
    exact ⟨rfl, W σ Agr.rfl G⟩
  | .nil, _ :: _, _, _, _, _, _, h, _, _, _ => by cases h
  | .cons t ts, [], _, _, _, _, _, h, _, _, _ => by cases h
  | .cons t ts, d :: ds, r, r', σ, xs, Q, h, k, G, W => by
    simp only [setTs] at h
    cases q : setT t d r with
    | none => rw [q] at h; cases h
    | some r1 =>
      rw [q] at h
      obtain ⟨k1, k2⟩ := k
      have c := cl_all.mp k2
      cases k1 with
      | @cons v vs _ _ a b =>
        refine ⟨v, vs, rfl, gT_ok q ⟨a, c d List.mem_cons_self⟩ G fun σ1 a1 G1 => gTs_ok h ⟨b, cl_all.mpr fun e he => c e (List.mem_cons_of_mem _ he)⟩ G1 fun σ2 a2 G2 => W σ2 ?_ G2⟩
        exact a1.tr a2
end
def tgM (t : Tgt) (d : PyData) : M Unit := fun r s => match setT t d r with
  | some r' => .ok () r' s
  | none => .no

/-! ### walks -/
/-- J walks over the data ds -/
structure ItOk (K : PySem.W.Frag) (HdB : Hp) (J : It) (ds : List PyData) : Prop where
  go : ∀ F, F.K = K → ∀ i σ H r s A Hd, Le HdB Hd → Good F σ H r s A Hd → i < ds.length → J.go i H
  yld : ∀ F, F.K = K → ∀ i σ H r s A Hd x H', Le HdB Hd → Good F σ H r s A Hd → i < ds.length → J.yld i H x H' → ∃ Hd' d, Good F σ H' r s A Hd' ∧ Le Hd Hd' ∧ ds[i]? = some d ∧ Dv F Hd' x d
  stop : ∀ F, F.K = K → ∀ i σ H r s A Hd, Le HdB Hd → Good F σ H r s A Hd → i = ds.length → J.stop i H
def iI (F : Fx) (m : M (List PyData)) : TI := fun σ H R => ∃ r s A Hd, Good F σ H r s A Hd ∧ match m r s with
  | .ok ds r' s' => ∀ H' A' Hd' J, Good F σ H' r' s' A' Hd' → A <+: A' → Le Hd Hd' → ItOk F.K Hd' J ds → R J H'
  | .no => False
def seqL : PyData → Option (List PyData)
  | .list xs => some xs
  | .tuple xs => some xs
  | _ => none
/-- a sequence, laid to rest -/
def sqM (m : M Rv) : M (List PyData) := M.bind m fun v => M.bind (restD (opd v)) fun d => ofOpt (seqL d)
theorem PI.or {tg iter : Expr} {t t' : TI} (h : PI X tg iter t) (h' : PI X tg iter t') : PI X tg iter fun σ H R => t σ H R ∨ t' σ H R := ⟨fun pins s σ H R I q => q.elim (h.run pins s σ H R I) (h'.run pins s σ H R I)⟩
theorem PI.imp {tg iter : Expr} {t t' : TI} (h : PI X tg iter t) (k : ∀ σ H R, t' σ H R → t σ H R) : PI X tg iter t' := ⟨fun pins s σ H R I q => h.run pins s σ H R I (k σ H R q)⟩
theorem dvK {F1 F2 : Fx} (e : F1.K = F2.K) {Hd : Hp} {x : V} {d : PyData} (h : Dv F1 Hd x d) : Dv F2 Hd x d := ⟨e ▸ h.1, h.2⟩
theorem itl_ok {a : Addr} {vs : List V} {ds : List PyData} (h1 : Hd a = some (.lst vs)) (h2 : DvAll F Hd vs ds) : ItOk F.K Hd (Itl F.K a) ds := by
  have uni : ∀ {F1 : Fx} {H' Hd' : Hp} {σ r s A}, Le Hd Hd' → Good F1 σ H' r s A Hd' → SqL F.K H' a vs := fun l G => .inl (Rd.of (G.le _ _ (l _ _ h1)))
  refine ⟨fun F1 eK i σ H' r s A Hd' l G hi => ?_, fun F1 eK i σ H' r s A Hd' x H2 l G hi y => ?_, fun F1 eK i σ H' r s A Hd' l G hi => ⟨vs, uni l G, by rw [h2.len, hi]; exact Nat.le_refl _⟩⟩
  · obtain ⟨w, k1, _⟩ := h2.get (List.getElem?_eq_getElem hi)
    exact ⟨vs, w, uni l G, k1⟩
  · obtain ⟨rfl, y⟩ := y
    obtain ⟨w, k1, k2⟩ := h2.get (List.getElem?_eq_getElem hi)
    have e := y vs (uni l G)
    rw [k1] at e; cases e
    exact ⟨Hd', _, G, Le.rfl, List.getElem?_eq_getElem hi, dvK eK.symm (k2.le l)⟩
theorem itt_ok {a : Addr} {vs : List V} {ds : List PyData} (h1 : SqT F.K Hd a vs) (h2 : DvAll F Hd vs ds) : ItOk F.K Hd (Itt F.K a) ds := by
  have uni : ∀ {F1 : Fx} {H' Hd' : Hp} {σ r s A}, Le Hd Hd' → Good F1 σ H' r s A Hd' → SqT F.K H' a vs := fun l G => G.le.sqt (l.sqt h1)
  refine ⟨fun F1 eK i σ H' r s A Hd' l G hi => ?_, fun F1 eK i σ H' r s A Hd' x H2 l G hi y => ?_, fun F1 eK i σ H' r s A Hd' l G hi => ⟨vs, uni l G, by rw [h2.len, hi]; exact Nat.le_refl _⟩⟩
  · obtain ⟨w, k1, _⟩ := h2.get (List.getElem?_eq_getElem hi)
    exact ⟨vs, w, uni l G, k1⟩
  · obtain ⟨rfl, y⟩ := y
    obtain ⟨w, k1, k2⟩ := h2.get (List.getElem?_eq_getElem hi)
    have e := y vs (uni l G)
    rw [k1] at e; cases e
    exact ⟨Hd', _, G, Le.rfl, List.getElem?_eq_getElem hi, dvK eK.symm (k2.le l)⟩
theorem opd_opd (v : Rv) : opd (opd v) = opd v := by cases v <;> rfl
theorem pi_sqI (hK : F.K = X.K) {tg l : Expr} {m : M Rv} (hl : PE X l (tI F m)) : PI X tg l (iI F (sqM m)) := by
  refine PI.imp (PI.or (pi_list hl) (pi_tup hl)) fun σ H R ⟨r, s, A, Hd, G, h⟩ => ?_
  unfold sqM at h
  cases e1 : m r s with
  | no => rw [Rs.bind_no e1] at h; exact h.elim
  | ok v r1 s1 =>
    rw [Rs.bind_ok e1] at h
    cases e2 : restD (opd v) r1 s1 with
    | no => rw [Rs.bind_no e2] at h; exact h.elim
    | ok d r2 s2 =>
      rw [Rs.bind_ok e2] at h
      cases q : seqL d with
      | none => rw [q] at h; exact h.elim
      | some ds =>
        rw [q] at h
        unfold seqL at q
        split at q
        · cases q
          refine .inl ⟨r, s, A, Hd, G, ?_⟩
          rw [e1]
          intro x H1 A1 Hd1 G1 p1 l1 k1
          obtain ⟨Hd2, G2, l2, k2⟩ := G1.opd k1
          obtain ⟨rfl, Hd3, G3, l3, k3⟩ := G2.restD k2 e2
          obtain ⟨a, vs, rfl, z1, z2⟩ := k3.lst
          exact ⟨a, rfl, ⟨vs, .inl (Rd.of (G3.le _ _ z1))⟩, h H1 A1 Hd3 _ G3 p1 (l1.tr (l2.tr l3)) (by rw [← hK]; exact itl_ok z1 z2)⟩
        · cases q
          refine .inr ⟨r, s, A, Hd, G, ?_⟩
          rw [e1]
          intro x H1 A1 Hd1 G1 p1 l1 k1
          obtain ⟨Hd2, G2, l2, k2⟩ := G1.opd k1
          obtain ⟨rfl, Hd3, G3, l3, k3⟩ := G2.restD k2 e2
          obtain ⟨a, vs, rfl, z1, z2⟩ := k3.tup
          exact ⟨a, rfl, ⟨vs, by rw [← hK]; exact G3.le.sqt z1⟩, h H1 A1 Hd3 _ G3 p1 (l1.tr (l2.tr l3)) (by rw [← hK]; exact itt_ok z1 z2)⟩
        · cases q
/-- range(n) -/
def rgD (n : Int) : List PyData := (List.range n.toNat).map fun (i : Nat) => PyData.int (0 + (i : Int))
def rg1M (m : M Rv) : M (List PyData) := M.bind m fun v => M.bind (ct (opd v)) fun c => M.bind (ofOpt (intC? c)) fun i => if decide (-(2 ^ 62) ≤ i ∧ i < 2 ^ 62) = true then M.pure (rgD i) else fail
theorem itr_ok {K : PySem.W.Frag} {n : Int} : ItOk K Hd (Itr 0 n.toNat) (rgD n) := by
  have hl : (rgD n).length = n.toNat := by unfold rgD; rw [List.length_map, List.length_range]
  refine ⟨fun F1 eK i σ H' r s A Hd' l G hi => by rw [hl] at hi; exact hi, fun F1 eK i σ H' r s A Hd' x H2 l G hi y => ?_, fun F1 eK i σ H' r s A Hd' l G hi => by rw [hl] at hi; exact Nat.le_of_eq hi.symm⟩
  obtain ⟨rfl, rfl⟩ := y
  rw [hl] at hi
  refine ⟨Hd', .int (0 + i), G, Le.rfl, ?_, ⟨.int _, by rw [PyData.canLay0]⟩⟩
  unfold rgD
  rw [List.getElem?_map, List.getElem?_range hi]; rfl
theorem pi_rgI {tg a : Expr} {p pos : Pos} {m : M Rv} (hg : Gl X "range") (hm : X.mg "range" = none) (ha : PE X a (tI F m)) (hs : starEach [a] X.env = [(false, eval a X.env)] := by rfl) (hs0 : starEach [a] X.env = (false, eval a X.env) :: starEach [] X.env := by rfl) : PI X tg (.Call (.Name "range" p) [a] [] pos) (iI F (rg1M m)) := by
  refine PI.imp (pi_range1 hg hm (pa_cons ha pa_nil hs0) hs) fun σ H R ⟨r, s, A, Hd, G, h⟩ => ⟨r, s, A, Hd, G, ?_⟩
  unfold rg1M at h
  cases e1 : m r s with
  | no => rw [Rs.bind_no e1] at h; exact h
  | ok v r1 s1 =>
    rw [Rs.bind_ok e1] at h
    intro x H1 A1 Hd1 G1 p1 l1 k1
    obtain ⟨Hd2, G2, l2, k2⟩ := G1.opd k1
    cases e2 : ct (opd v) r1 s1 with
    | no => rw [Rs.bind_no e2] at h; exact h.elim
    | ok c r2 s2 =>
      rw [Rs.bind_ok e2] at h
      obtain ⟨rfl, rfl, q⟩ := ct_ok e2
      have k := G2.ctR k2 q
      cases q2 : intC? c with
      | none => rw [q2] at h; exact h.elim
      | some i =>
        rw [q2] at h
        rw [intC?_eq q2] at k
        have := k.1.int; subst this
        have h' : match (if decide (-(2 ^ 62) ≤ i ∧ i < 2 ^ 62) = true then M.pure (rgD i) else fail : M (List PyData)) r2 s2 with
          | .ok ds r' s' => ∀ H' A' Hd' J, Good F σ H' r' s' A' Hd' → A <+: A' → Le Hd Hd' → ItOk F.K Hd' J ds → R J H'
          | .no => False := h
        by_cases hz : decide (-(2 ^ 62) ≤ i ∧ i < 2 ^ 62) = true
        · rw [if_pos hz] at h'
          obtain ⟨z1, z2⟩ := of_decide_eq_true hz
          exact ⟨i, rfl, z1, z2, h' H1 A1 Hd2 _ G2 p1 (l1.tr l2) itr_ok⟩
        · rw [if_neg hz] at h'; exact h'.elim

/-! ### for -/
def forL (t : Tgt) (body : M Out) : List PyData → M Out
  | [] => M.pure .nx
  | d :: ds => M.bind (tgM t d) fun _ => M.bind body fun o => match o with
    | .nx => forL t body ds
    | .ct => forL t body ds
    | .bk => M.pure .nx
    | .rt v => M.pure (.rt v)
def forM (it : M (List PyData)) (t : Tgt) (body : M Out) : M Out := M.bind it fun ds => forL t body ds
theorem ps_forI {tg iter : Expr} {body : List Stmt} {pos : Pos} {it : M (List PyData)} {t : Tgt} {mb : M Out} (hK : F.K = X.K) (hp : PassesOwn (model X.prog X.w) X.A X.env X.xe) (hc : X.calm = true) (hi : PI X tg iter (iI F it)) (hg : PG X tg (gT X.K t)) (hb : PSs X body (tS F mb))
    (hs : ∀ x, foldedSetIterable iter X.env x = pure x := by intro _; rfl) : PS X (.For tg iter body [] pos) (tS F (forM it t mb)) := by
  refine PS.imp (ps_for hp hc hi hg hb hs) fun D σ H ⟨r, s, A, Hd, G, _, h⟩ => ⟨r, s, A, Hd, G, ?_⟩
  unfold forM at h
  cases e1 : it r s with
  | no => rw [Rs.bind_no e1] at h; exact h
  | ok ds r1 s1 =>
    rw [Rs.bind_ok e1] at h
    intro H1 A1 Hd1 J G1 p1 l1 hJ
    have start : tSx F Hd1 (forL t mb (ds.drop 0)) D σ H1 := by
      refine ⟨r1, s1, A1, Hd1, G1, Le.rfl, ?_⟩
      rw [List.drop_zero]
      cases e2 : forL t mb ds r1 s1 with
      | no => rw [e2] at h; exact h
      | ok o r2 s2 =>
        rw [e2] at h
        exact fun σ2 H2 A2 Hd2 G2 p2 l2 => h σ2 H2 A2 Hd2 G2 (p1.trans p2) (l1.tr l2)
    refine ⟨fun i m σ H => m = ds.length - i ∧ i ≤ ds.length ∧ tSx F Hd1 (forL t mb (ds.drop i)) D σ H, ⟨_, rfl, Nat.zero_le _, start⟩, ?_⟩
    rintro i m σ2 H2 ⟨rfl, hi, r2, s2, A2, Hd2, G2, l2, h2⟩
    by_cases hlt : i < ds.length
    · refine .inr ⟨hJ.go F rfl i σ2 H2 r2 s2 A2 Hd2 l2 G2 hlt, fun σ H => tSx F Hd1 (forL t mb (ds.drop (i + 1))) D σ H, fun σ' H' w => ⟨ds.length - (i + 1), by omega, rfl, hlt, w⟩, fun x H3 y => ?_⟩
      obtain ⟨Hd3, d, G3, l3, hd, kd⟩ := hJ.yld F rfl i σ2 H2 r2 s2 A2 Hd2 x H3 l2 G2 hlt y
      have ed : ds.drop i = d :: ds.drop (i + 1) := by
        have := List.drop_eq_getElem_cons hlt
        rw [List.getElem?_eq_getElem hlt] at hd
        cases hd
        exact this
      rw [ed] at h2
      simp only [forL] at h2
      cases e3 : tgM t d r2 s2 with
      | no => rw [Rs.bind_no e3] at h2; exact h2.elim
      | ok u r3 s3 =>
        rw [Rs.bind_ok e3] at h2
        have hset : setT t d r2 = some r3 ∧ s3 = s2 := by
          unfold tgM at e3
          cases q : setT t d r2 with
          | none => rw [q] at e3; cases e3
          | some r4 => rw [q] at e3; cases e3; exact ⟨rfl, rfl⟩
        obtain ⟨hset, rfl⟩ := hset
        rw [← hK]
        refine gT_ok hset kd G3 fun σ4 _ G4 => ⟨r3, s3, A2, Hd3, G4, Le.zero, ?_⟩
        cases e4 : mb r3 s3 with
        | no => rw [Rs.bind_no e4] at h2; exact h2
        | ok o r5 s5 =>
          rw [Rs.bind_ok e4] at h2
          intro σ5 H5 A5 Hd5 G5 p5 l5
          have again : (match forL t mb (ds.drop (i + 1)) r5 s5 with
              | .ok o r' s' => ∀ σ' H' A' Hd', Good F σ' H' r' s' A' Hd' → A2 <+: A' → Le Hd2 Hd' → outD F D σ' H' Hd' A' r' o
              | .no => False) → tSx F Hd1 (forL t mb (ds.drop (i + 1))) D σ5 H5 := fun z => by
            refine ⟨r5, s5, A5, Hd5, G5, l2.tr (l3.tr l5), ?_⟩
            cases e6 : forL t mb (ds.drop (i + 1)) r5 s5 with
            | no => rw [e6] at z; exact z
            | ok o2 r6 s6 =>
              rw [e6] at z
              exact fun σ6 H6 A6 Hd6 G6 p6 l6 => z σ6 H6 A6 Hd6 G6 (p5.trans p6) ((l3.tr l5).tr l6)
          cases o with
          | nx => exact again h2
          | ct => exact again h2
          | bk => exact h2 σ5 H5 A5 Hd5 G5 p5 (l3.tr l5)
          | rt v => exact h2 σ5 H5 A5 Hd5 G5 p5 (l3.tr l5)
    · have e : i = ds.length := by omega
      subst e
      refine .inl ⟨hJ.stop F rfl _ σ2 H2 r2 s2 A2 Hd2 l2 G2 rfl, ?_⟩
      rw [List.drop_length] at h2
      exact h2 σ2 H2 A2 Hd2 G2 (List.prefix_refl _) Le.rfl
/-! ### while -/
def whL (c : M Bool) (body : M Out) : Nat → M Out
  | 0 => fail
  | n + 1 => M.bind c fun k => if k = true then (M.bind body fun o => match o with
    | .nx => whL c body n
    | .ct => whL c body n
    | .bk => M.pure .nx
    | .rt v => M.pure (.rt v)) else M.pure .nx
theorem ps_whI {c : Expr} {body : List Stmt} {pos : Pos} {mc : M Bool} {mb : M Out} (n : Nat) (hp : PassesOwn (model X.prog X.w) X.A X.env X.xe) (hc : PT X c (tTI F mc)) (hb : PSs X body (tS F mb)) : PS X (.While c body [] pos) (tS F (whL mc mb n)) := by
  refine PS.imp (ps_while hp hc hb) fun D σ H h => ⟨fun m σ H => tS F (whL mc mb m) D σ H, ⟨n, h⟩, fun m σ H h => ?_⟩
  cases m with
  | zero => obtain ⟨r, s, A, Hd, G, _, h⟩ := h; exact h.elim
  | succ m =>
    simp only [whL] at h
    refine tTI_mono (tTI_st h) fun k H1 h1 => ?_
    cases k with
    | false =>
      obtain ⟨r, s, A, Hd, G, _, h1⟩ := h1
      exact h1 σ H1 A Hd G (List.prefix_refl _) Le.rfl
    | true =>
      refine ⟨fun σ H => tS F (whL mc mb m) D σ H, fun σ' H' w => ⟨m, Nat.lt_succ_self _, w⟩, ?_⟩
      obtain ⟨r, s, A, Hd, G, l, h1⟩ := h1
      refine ⟨r, s, A, Hd, G, l, ?_⟩
      simp only [if_true] at h1
      cases e4 : mb r s with
      | no => rw [Rs.bind_no e4] at h1; exact h1
      | ok o r5 s5 =>
        rw [Rs.bind_ok e4] at h1
        intro σ5 H5 A5 Hd5 G5 p5 l5
        have again : (match whL mc mb m r5 s5 with
            | .ok o r' s' => ∀ σ' H' A' Hd', Good F σ' H' r' s' A' Hd' → A <+: A' → Le Hd Hd' → outD F D σ' H' Hd' A' r' o
            | .no => False) → tS F (whL mc mb m) D σ5 H5 := fun z => by
          refine ⟨r5, s5, A5, Hd5, G5, Le.zero, ?_⟩
          cases e6 : whL mc mb m r5 s5 with
          | no => rw [e6] at z; exact z
          | ok o2 r6 s6 =>
            rw [e6] at z
            exact fun σ6 H6 A6 Hd6 G6 p6 l6 => z σ6 H6 A6 Hd6 G6 (p5.trans p6) (l5.tr l6)
        cases o with
        | nx => exact again h1
        | ct => exact again h1
        | bk => exact h1 σ5 H5 A5 Hd5 G5 p5 l5
        | rt v => exact h1 σ5 H5 A5 Hd5 G5 p5 l5
end
end Mi
set_option Elab.async false
set_option linter.all false
set_option maxRecDepth 100000
/-! M11: comprehensions. -/
namespace Mi
open PySem L2
def wipeR (r : Rho) : List Nat → Rho
  | [] => r
  | v :: vs => (wipeR r vs).set v .un
def wpM (vs : List Nat) : M Unit := fun r s => .ok () (wipeR r vs) s
/-- the elements, one by one -/
def lcL (vs : List Nat) (t : Tgt) (tt : M Bool) (te : M Rv) : List PyData → List PyData → M (List PyData)
  | [], acc => M.pure acc
  | d :: ds, acc => M.bind (tgM t d) fun _ => M.bind tt fun k => if k = true then (M.bind te fun v => M.bind (restD (opd v)) fun x => if decide (acc.length < sizeLine) = true then (M.bind (wpM vs) fun _ => lcL vs t tt te ds (acc ++ [x])) else fail) else (M.bind (wpM vs) fun _ => lcL vs t tt te ds acc)
def lcM (it : M (List PyData)) (vs : List Nat) (t : Tgt) (tt : M Bool) (te : M Rv) : M Rv := M.bind it fun ds => M.bind (wpM vs) fun _ => M.bind (lcL vs t tt te ds []) fun out => M.bind (wpM vs) fun _ => M.pure (.fr (.lst out))
section
variable {F : Fx} {X : Cx} {σ : L2.St} {H : Hp} {r : Rho} {s : Sto} {A : List Addr} {Hd : Hp} {x : V} {Q : VK}
theorem KvK.k {F1 F2 : Fx} (e : F1.K = F2.K) : ∀ {ks : List (Key × V)} {kvs : List (PyData × PyData)}, KvK F1 Hd ks kvs → KvK F2 Hd ks kvs
  | [], [], _ => trivial
  | (_, _) :: _, (_, _) :: _, h => ⟨h.1, dvK e h.2.1, KvK.k e h.2.2⟩
  | [], _ :: _, h => h.elim
  | _ :: _, [], h => h.elim
theorem RepO.k {F1 F2 : Fx} (e : F1.K = F2.K) {H Hd : Hp} {a : Addr} {o : OD} (h : RepO F1 H Hd a o) : RepO F2 H Hd a o := by
  cases o with
  | lst ds => obtain ⟨vs, h1, h2⟩ := h; exact ⟨vs, h1, e ▸ h2.1, h2.2⟩
  | dic kvs => obtain ⟨ks, h1, h2⟩ := h; exact ⟨ks, h1, h2.k e⟩
  | set xs => exact h.elim
theorem RepW.k {F1 F2 : Fx} (e : F1.K = F2.K) {Hd : Hp} {A : List Addr} {x : V} {w : Wv} (h : RepW F1 Hd A x w) : RepW F2 Hd A x w := by
  cases w with
  | d d => exact dvK e h
  | c o => obtain ⟨a, h1, h2⟩ := h; exact ⟨a, h1, h2.k e⟩
  | obj n => exact h
  | raw y => exact h
  | ro ds => obtain ⟨a, vs, h1, h2, h3⟩ := h; exact ⟨a, vs, h1, e ▸ h2, e ▸ h3.1, h3.2⟩
theorem wipeR_len (r : Rho) : ∀ vs, (wipeR r vs).length = r.length
  | [] => rfl
  | v :: vs => by rw [wipeR, List.length_set, wipeR_len r vs]
theorem wipeR_out {r : Rho} {j : Nat} : ∀ {vs : List Nat}, j ∉ vs → (wipeR r vs)[j]? = r[j]?
  | [], _ => rfl
  | v :: vs, h => by
    rw [wipeR, List.getElem?_set_ne (fun z => h (by rw [z]; exact List.mem_cons_self)), wipeR_out fun z => h (List.mem_cons_of_mem _ z)]
theorem wipeR_in {r : Rho} {j : Nat} {c : Sl} : ∀ {vs : List Nat}, j ∈ vs → (wipeR r vs)[j]? = some c → c = .un
  | v :: vs, h, e => by
    rw [wipeR] at e
    by_cases z : j = v
    · subst z
      have hl : j < (wipeR r vs).length := by
        have := (List.getElem?_eq_some_iff.mp e).1
        rwa [List.length_set] at this
      rw [List.getElem?_set_self hl] at e
      cases e; rfl
    · rw [List.getElem?_set_ne (Ne.symm z)] at e
      rcases List.mem_cons.mp h with y | y
      · exact absurd y z
      · exact wipeR_in y e
theorem wipe_in {σ : L2.St} {j : Nat} : ∀ {vs : List Nat}, j ∈ vs → (wipe σ vs)[j]? = if j < σ.length then some none else none
  | v :: vs, h => by
    rw [wipe]
    by_cases z : j = v
    · subst z
      by_cases hl : j < σ.length
      · rw [if_pos hl, List.getElem?_set_self (by rw [wipe_length]; exact hl)]
      · rw [if_neg hl, List.getElem?_eq_none (by rw [List.length_set, wipe_length]; omega)]
    · rw [List.getElem?_set_ne (Ne.symm z)]
      rcases List.mem_cons.mp h with y | y
      · exact absurd y z
      · exact wipe_in y
theorem wipe_agr {σ σ' : L2.St} {ss vs : List Nat} (h : Agr ss (wipe σ vs) σ') (hs : ∀ i ∈ ss, i ∈ vs) : wipe σ' vs = wipe σ vs := by
  have hl : σ'.length = σ.length := by rw [h.1, wipe_length]
  refine List.ext_getElem? fun j => ?_
  by_cases hj : j ∈ vs
  · rw [wipe_in hj, wipe_in hj, hl]
  · rw [wipe_out hj, wipe_out hj, h.2 j (fun z => hj (hs j z)), wipe_out hj]
/-- the slots of a block are emptied -/
theorem Good.wipe (G : Good F σ H r s A Hd) (vs : List Nat) : Good F (L2.wipe σ vs) H (wipeR r vs) s A Hd := by
  have old : ∀ {j : Nat} {c : Sl}, (wipeR r vs)[j]? = some c → c ≠ .un → j ∉ vs ∧ r[j]? = some c := fun {j c} q n => by
    have hj : j ∉ vs := fun z => n (wipeR_in z q)
    exact ⟨hj, by rw [wipeR_out hj] at q; exact q⟩
  refine ⟨G.le, by rw [wipeR_len, wipe_length]; exact G.len, G.shl, G.sh, G.nd, G.pre, G.new, G.keep, fun j c q => ?_, fun j k o1 o2 b q1 q2 e1 e2 => ?_, G.hdr⟩
  · by_cases n : c = .un
    · subst n; trivial
    · obtain ⟨hj, q'⟩ := old q n
      have k := G.env j c q'
      rw [wipe_out hj]; exact k
  · obtain ⟨h1, q1'⟩ := old q1 (by intro z; cases z)
    obtain ⟨h2, q2'⟩ := old q2 (by intro z; cases z)
    rw [wipe_out h1] at e1
    rw [wipe_out h2] at e2
    exact G.sep j k o1 o2 b q1' q2' e1 e2
/-- .. and the state outside again -/
theorem Good.unwipe {σ' : L2.St} {vs : List Nat} (G : Good F σ' H r s A Hd) (h : L2.wipe σ' vs = L2.wipe σ vs) : Good F σ H (wipeR r vs) s A Hd := by
  have hl : σ'.length = σ.length := by rw [← wipe_length σ' vs, h, wipe_length]
  have same : ∀ {j : Nat}, j ∉ vs → σ'[j]? = σ[j]? := fun {j} hj => by rw [← wipe_out (σ := σ') hj, h, wipe_out hj]
  have old : ∀ {j : Nat} {c : Sl}, (wipeR r vs)[j]? = some c → c ≠ .un → j ∉ vs ∧ r[j]? = some c := fun {j c} q n => by
    have hj : j ∉ vs := fun z => n (wipeR_in z q)
    exact ⟨hj, by rw [wipeR_out hj] at q; exact q⟩
  refine ⟨G.le, by rw [wipeR_len, ← hl]; exact G.len, G.shl, G.sh, G.nd, G.pre, G.new, G.keep, fun j c q => ?_, fun j k o1 o2 b q1 q2 e1 e2 => ?_, G.hdr⟩
  · by_cases n : c = .un
    · subst n; trivial
    · obtain ⟨hj, q'⟩ := old q n
      have k := G.env j c q'
      rw [← same hj]; exact k
  · obtain ⟨h1, q1'⟩ := old q1 (by intro z; cases z)
    obtain ⟨h2, q2'⟩ := old q2 (by intro z; cases z)
    rw [← same h1] at e1
    rw [← same h2] at e2
    exact G.sep j k o1 o2 b q1' q2' e1 e2
/-! ### a thing under way, pinned -/
abbrev Fx.at (F : Fx) (D : Addr) (u : HO) : Fx := { F with H0 := upd F.H0 D u }
theorem Good.pinH {D : Addr} {u : HO} (G : Good F σ H r s A Hd) (h0 : F.H0 D = none) (h1 : H D = some u) (h2 : Hd D = none) (h3 : D ∉ A) (h4 : ∀ (i : Nat) (o : OD), r[i]? = some (.ow o) → σ[i]? ≠ some (some (.ref D))) : Good (F.at D u) σ H r s A Hd := by
  refine ⟨G.le, G.len, G.shl, fun n b o q1 q2 => ⟨(G.sh n b o q1 q2).1, RepO.k (F1 := F) (F2 := F.at D u) rfl (G.sh n b o q1 q2).2⟩, G.nd, G.pre, fun b hb nb => ?_, fun b o q nb => ?_, fun i c q => ?_, G.sep, fun b o q => ?_⟩
  · have ne : b ≠ D := fun z => h3 (z ▸ hb)
    show upd F.H0 D u b = none
    rw [upd_ne ne]; exact G.new b hb nb
  · have q' : upd F.H0 D u b = some o := q
    by_cases z : b = D
    · subst z; rw [upd_same] at q'; cases q'; exact h1
    · rw [upd_ne z] at q'; exact G.keep b o q' nb
  · have k := G.env i c q
    cases c with
    | un => trivial
    | w v => obtain ⟨y, m1, m2⟩ := k; exact ⟨y, m1, RepW.k (F1 := F) (F2 := F.at D u) rfl m2⟩
    | ow d =>
      obtain ⟨a, m1, m2, m3, m4, m5⟩ := k
      have ne : a ≠ D := fun z => h4 i d q (by rw [m1, z])
      exact ⟨a, m1, m2, m3, by show upd F.H0 D u a = none; rw [upd_ne ne]; exact m4, RepO.k (F1 := F) (F2 := F.at D u) rfl m5⟩
  · have ne : b ≠ D := fun z => by rw [z, h2] at q; cases q
    rcases G.hdr b o q with k | k
    · exact .inl (by show upd F.H0 D u b = none; rw [upd_ne ne]; exact k)
    · exact .inr k
theorem at_get {D : Addr} {u : HO} : (F.at D u).H0 D = some u := upd_same
theorem Good.pinned {D : Addr} {u : HO} (G : Good (F.at D u) σ H r s A Hd) (h0 : F.R0 D = none) (hA : D ∉ F.A0) : H D = some u ∧ Hd D = none ∧ D ∉ A ∧ ∀ (i : Nat) (o : OD), r[i]? = some (.ow o) → σ[i]? ≠ some (some (.ref D)) := by
  refine ⟨G.keep D u at_get hA, ?_, fun h => ?_, fun i o q e => ?_⟩
  · cases q : Hd D with
    | none => rfl
    | some o =>
      rcases G.hdr D o q with k | k
      · rw [at_get] at k; cases k
      · exact absurd h0 k
  · have := G.new D h hA
    rw [at_get] at this; cases this
  · obtain ⟨a, k1, _, _, k4, _⟩ := G.env i _ q
    rw [e] at k1; cases k1
    rw [at_get] at k4; cases k4
theorem Good.unpin {D : Addr} {u : HO} (G : Good (F.at D u) σ H r s A Hd) (h0 : F.H0 D = none) : Good F σ H r s A Hd := by
  have dn : ∀ {b : Addr}, (F.at D u).H0 b = none → F.H0 b = none := fun {b} k => by
    have k' : upd F.H0 D u b = none := k
    by_cases z : b = D
    · rw [z]; exact h0
    · rw [upd_ne z] at k'; exact k'
  refine ⟨G.le, G.len, G.shl, fun n b o q1 q2 => ⟨(G.sh n b o q1 q2).1, RepO.k (F1 := F.at D u) (F2 := F) rfl (G.sh n b o q1 q2).2⟩, G.nd, G.pre, fun b hb nb => dn (G.new b hb nb), fun b o q nb => ?_, fun i c q => ?_, G.sep, fun b o q => ?_⟩
  · have ne : b ≠ D := fun z => by rw [z, h0] at q; cases q
    exact G.keep b o (by show upd F.H0 D u b = some o; rw [upd_ne ne]; exact q) nb
  · have k := G.env i c q
    cases c with
    | un => trivial
    | w v => obtain ⟨y, m1, m2⟩ := k; exact ⟨y, m1, RepW.k (F1 := F.at D u) (F2 := F) rfl m2⟩
    | ow d => obtain ⟨a, m1, m2, m3, m4, m5⟩ := k; exact ⟨a, m1, m2, m3, dn m4, RepO.k (F1 := F.at D u) (F2 := F) rfl m5⟩
  · rcases G.hdr b o q with k | k
    · exact .inl (dn k)
    · exact .inr k
/-- the pinned thing is changed -/
theorem Good.repin {D : Addr} {u u' : HO} (G : Good (F.at D u) σ H r s A Hd) (h0 : F.R0 D = none) (hA : D ∉ F.A0) (hn : F.H0 D = none) : Good (F.at D u') σ (upd H D u') r s A Hd := by
  obtain ⟨p1, p2, p3, p4⟩ := G.pinned h0 hA
  have G1 : Good F σ (upd H D u') r s A Hd := by
    have G0 := G.unpin hn
    refine ⟨fun b o q => ?_, G0.len, G0.shl, fun n b o q1 q2 => ?_, G0.nd, G0.pre, G0.new, fun b o q nb => ?_, fun i c q => ?_, G0.sep, G0.hdr⟩
    · have ne : b ≠ D := fun z => by rw [z, p2] at q; cases q
      rw [upd_ne ne]; exact G0.le _ _ q
    · obtain ⟨z1, z2⟩ := G0.sh n b o q1 q2
      have ne : b ≠ D := fun z => p3 (z ▸ List.mem_of_getElem? q1)
      exact ⟨z1, z2.le Le.rfl fun v y => by rw [upd_ne ne]; exact y⟩
    · have ne : b ≠ D := fun z => by rw [z, hn] at q; cases q
      rw [upd_ne ne]; exact G0.keep b o q nb
    · have k := G0.env i c q
      cases c with
      | un => trivial
      | w v => exact k
      | ow d =>
        obtain ⟨a, m1, m2, m3, m4, m5⟩ := k
        have ne : a ≠ D := fun z => p4 i d q (by rw [m1, z])
        exact ⟨a, m1, m2, m3, m4, m5.le Le.rfl fun v y => by rw [upd_ne ne]; exact y⟩
  exact G1.pinH hn upd_same p2 p3 p4
/-- a new thing, pinned -/
theorem Good.pinNew (G : Good F σ H r s A Hd) {D : Addr} {u : HO} (hD : H D = none) : Good (F.at D u) σ (upd H D u) r s A Hd :=
  (G.grow (Le.upd hD)).pinH (G.notH hD) upd_same (G.le.none hD) (G.notA hD) fun i o q => G.notO hD q
theorem Good.r0 (G : Good F σ H r s A Hd) (hF : ∀ b, F.R0 b ≠ none → F.H0 b ≠ none) {D : Addr} (hD : H D = none) : F.R0 D = none := by
  cases q : F.R0 D with
  | none => rfl
  | some o => exact absurd (G.notH hD) (hF D (by rw [q]; intro z; cases z))
theorem Good.a0 (G : Good F σ H r s A Hd) {D : Addr} (hD : H D = none) : D ∉ F.A0 := fun h => by
  obtain ⟨t, ht⟩ := G.pre
  exact G.notA hD (ht ▸ List.mem_append_left t h)
/-- the frame's own word: what rests was there -/
def FxOk (F : Fx) : Prop := ∀ b, F.R0 b ≠ none → F.H0 b ≠ none
theorem FxOk.at {D : Addr} {u : HO} (h : FxOk F) : FxOk (F.at D u) := fun b q z => by
  have z' : upd F.H0 D u b = none := z
  by_cases e : b = D
  · rw [e, upd_same] at z'; cases z'
  · rw [upd_ne e] at z'; exact h b q z'
theorem dvF {F1 F2 : Fx} (e : F1.K = F2.K) {Hd : Hp} {xs : List V} {ds : List PyData} (h : DvAll F1 Hd xs ds) : DvAll F2 Hd xs ds := ⟨e ▸ h.1, h.2⟩
theorem tgM_ok {t : Tgt} {d : PyData} {u : Unit} {r' : Rho} {s' : Sto} (e : tgM t d r s = .ok u r' s') : setT t d r = some r' ∧ s' = s := by
  unfold tgM at e
  cases q : setT t d r with
  | none => rw [q] at e; cases e
  | some r4 => rw [q] at e; cases e; exact ⟨rfl, rfl⟩
theorem wipe_wipe {σ : L2.St} {vs : List Nat} : L2.wipe (L2.wipe σ vs) vs = L2.wipe σ vs := by
  refine List.ext_getElem? fun j => ?_
  by_cases hj : j ∈ vs
  · rw [wipe_in hj, wipe_in hj, wipe_length]
  · rw [wipe_out hj]
theorem lc_to (hF : FxOk F) {it : M (List PyData)} {vs : List Nat} {t : Tgt} {mt : M Bool} {te : M Rv} (hs : ∀ i ∈ t.sl, i ∈ vs)
    (ttc : TT) (hc : ∀ F', F'.K = F.K → FxOk F' → ∀ σ H Q, tTI F' mt σ H Q → ttc σ H Q) (tec : TE) (he : ∀ F', F'.K = F.K → FxOk F' → ∀ σ H Q, tI F' te σ H Q → tec σ H Q) (h : tI F (lcM it vs t mt te) σ H Q) : tLc (iI F it) (gT F.K t) ttc tec vs σ H Q := by
  obtain ⟨r, s, A, Hd, G, h⟩ := h
  refine ⟨r, s, A, Hd, G, ?_⟩
  unfold lcM at h
  cases e1 : it r s with
  | no => rw [Rs.bind_no e1] at h; exact h
  | ok ds r1 s1 =>
    rw [Rs.bind_ok e1] at h
    intro H1 A1 Hd1 J G1 p1 l1 hJ D hD
    have hR := G1.r0 hF hD
    have hA0 := G1.a0 hD
    have hH0 := G1.notH hD
    let Fin : Rs (List PyData) → Prop := fun o => match o with
      | .ok out r' s' => ∀ accV H' A' Hd', Good (F.at D (.lst accV)) (L2.wipe σ vs) H' r' s' A' Hd' → A1 <+: A' → Le Hd1 Hd' → DvAll F Hd' accV out → Q (.ref D) H'
      | .no => False
    let Wv : Nat → Nat → Hp → Prop := fun i m H => m = ds.length - i ∧ i ≤ ds.length ∧ ∃ accV accD r s A Hd, Good (F.at D (.lst accV)) (L2.wipe σ vs) H r s A Hd ∧ Le Hd1 Hd ∧ A1 <+: A ∧ DvAll F Hd accV accD ∧ Fin (lcL vs t mt te (ds.drop i) accD r s)
    have start : Wv 0 ds.length (upd H1 D (.lst [])) := by
      refine ⟨rfl, Nat.zero_le _, [], [], wipeR r1 vs, s1, A1, Hd1, (G1.pinNew (u := .lst []) hD).wipe vs, Le.rfl, List.prefix_refl _, DvAll.nil, ?_⟩
      rw [List.drop_zero]
      have h' : match (M.bind (lcL vs t mt te ds []) fun out => M.bind (wpM vs) fun _ => M.pure (.fr (.lst out)) : M Rv) (wipeR r1 vs) s1 with
        | .ok v r' s' => ∀ x H' A' Hd', Good F σ H' r' s' A' Hd' → A <+: A' → Le Hd Hd' → RvR F σ H' Hd' A' r' x v → Q x H'
        | .no => False := h
      cases e2 : lcL vs t mt te ds [] (wipeR r1 vs) s1 with
      | no => rw [Rs.bind_no e2] at h'; exact h'
      | ok out r2 s2 =>
        rw [Rs.bind_ok e2] at h'
        intro accV H' A' Hd' G' p' l' ka
        obtain ⟨q1, q2, q3, q4⟩ := G'.pinned hR hA0
        have G3 : Good F σ H' (wipeR r2 vs) s2 A' Hd' := (G'.unpin hH0).unwipe wipe_wipe
        refine h' (.ref D) H' A' Hd' G3 (p1.trans p') (l1.tr l') ⟨D, rfl, q2, q3, hH0, ⟨accV, q1, ka⟩, fun i o z e => ?_⟩
        have hi : i ∉ vs := fun w => by have := wipeR_in w z; cases this
        rw [wipeR_out hi] at z
        exact q4 i o z (by rw [wipe_out hi]; exact e)
    refine ⟨Wv, ⟨_, start⟩, ?_⟩
    rintro i m H2 ⟨rfl, hi, accV, accD, r2, s2, A2, Hd2, G2, l2, p2, ka, hfin⟩
    by_cases hlt : i < ds.length
    · refine .inr ⟨hJ.go (F.at D (.lst accV)) rfl i _ H2 r2 s2 A2 Hd2 l2 G2 hlt, Wv (i + 1) (ds.length - (i + 1)), fun H' w => ⟨ds.length - (i + 1), by omega, w⟩, fun x H3 y => ?_⟩
      obtain ⟨Hd3, d, G3, l3, hd, kd⟩ := hJ.yld (F.at D (.lst accV)) rfl i _ H2 r2 s2 A2 Hd2 x H3 l2 G2 hlt y
      have ed : ds.drop i = d :: ds.drop (i + 1) := by
        have := List.drop_eq_getElem_cons hlt
        rw [List.getElem?_eq_getElem hlt] at hd
        cases hd
        exact this
      rw [ed] at hfin
      have hfin' : Fin ((M.bind (tgM t d) fun _ => M.bind mt fun k => if k = true then (M.bind te fun v => M.bind (restD (opd v)) fun x => if decide (accD.length < sizeLine) = true then (M.bind (wpM vs) fun _ => lcL vs t mt te (ds.drop (i + 1)) (accD ++ [x])) else fail) else (M.bind (wpM vs) fun _ => lcL vs t mt te (ds.drop (i + 1)) accD) : M (List PyData)) r2 s2) := by simpa only [lcL] using hfin
      clear hfin
      cases e3 : tgM t d r2 s2 with
      | no => rw [Rs.bind_no e3] at hfin'; exact hfin'.elim
      | ok u r3 s3 =>
        rw [Rs.bind_ok e3] at hfin'
        obtain ⟨hset, rfl⟩ := tgM_ok e3
        refine gT_ok (F := F.at D (.lst accV)) hset kd G3 fun σ4 ag G4 => ?_
        have ew := wipe_agr ag hs
        refine ⟨ew.trans wipe_wipe.symm |>.trans wipe_wipe, ?_⟩
        -- back at the block's start
        have back : ∀ {accV' accD' r5 s5 A5 Hd5 H5}, Good (F.at D (.lst accV')) σ4 H5 r5 s5 A5 Hd5 → A1 <+: A5 → Le Hd1 Hd5 → DvAll F Hd5 accV' accD' → Fin ((M.bind (wpM vs) fun _ => lcL vs t mt te (ds.drop (i + 1)) accD') r5 s5) → Wv (i + 1) (ds.length - (i + 1)) H5 := by
          intro accV' accD' r5 s5 A5 Hd5 H5 G6 p6 l6 k6 f6
          have G7 := G6.wipe vs
          rw [ew] at G7
          exact ⟨rfl, hlt, accV', accD', wipeR r5 vs, s5, A5, Hd5, G7, l6, p6, k6, f6⟩
        refine hc (F.at D (.lst accV)) rfl hF.at σ4 H3 _ ⟨r3, s3, A2, Hd3, G4, ?_⟩
        cases e4 : mt r3 s3 with
        | no => rw [Rs.bind_no e4] at hfin'; exact hfin'
        | ok k r4 s4 =>
          rw [Rs.bind_ok e4] at hfin'
          intro H4 A4 Hd4 G5 p4 l4
          cases k with
          | false =>
            have f : Fin ((M.bind (wpM vs) fun _ => lcL vs t mt te (ds.drop (i + 1)) accD) r4 s4) := hfin'
            exact back G5 (p2.trans p4) (l2.tr (l3.tr l4)) (ka.le (l3.tr l4)) f
          | true =>
            have f : Fin ((M.bind te fun v => M.bind (restD (opd v)) fun x => if decide (accD.length < sizeLine) = true then (M.bind (wpM vs) fun _ => lcL vs t mt te (ds.drop (i + 1)) (accD ++ [x])) else fail : M (List PyData)) r4 s4) := hfin'
            clear hfin'
            refine he (F.at D (.lst accV)) rfl hF.at σ4 H4 _ ⟨r4, s4, A4, Hd4, G5, ?_⟩
            cases e5 : te r4 s4 with
            | no => rw [Rs.bind_no e5] at f; exact f
            | ok v r5 s5 =>
              rw [Rs.bind_ok e5] at f
              intro y H5 A5 Hd5 G6 p5 l5 k6
              obtain ⟨Hd6, G7, l6, k7⟩ := G6.opd k6
              cases e6 : restD (opd v) r5 s5 with
              | no => rw [Rs.bind_no e6] at f; exact f.elim
              | ok z r6 s6 =>
                rw [Rs.bind_ok e6] at f
                obtain ⟨rfl, Hd7, G8, l7, k8⟩ := G7.restD k7 e6
                by_cases hz : decide (accD.length < sizeLine) = true
                · rw [if_pos hz] at f
                  obtain ⟨q1, q2, q3, q4⟩ := G8.pinned hR hA0
                  have ll : Le Hd2 Hd7 := l3.tr (l4.tr (l5.tr (l6.tr l7)))
                  have kl := ka.le ll
                  refine ⟨accV, q1, by rw [ka.len]; exact of_decide_eq_true hz, back (accV' := accV ++ [y]) (accD' := accD ++ [z]) (G8.repin hR hA0 hH0) (p2.trans (p4.trans p5)) (l2.tr ll) (kl.app (DvAll.cons (dvK (F1 := F.at D (.lst accV)) (F2 := F) rfl k8) DvAll.nil)) f⟩
                · rw [if_neg hz] at f; exact f.elim
    · have e : i = ds.length := by omega
      subst e
      refine .inl ⟨hJ.stop (F.at D (.lst accV)) rfl _ _ H2 r2 s2 A2 Hd2 l2 G2 rfl, ?_⟩
      rw [List.drop_length] at hfin
      exact hfin accV H2 A2 Hd2 G2 p2 l2 ka
end
end Mi
set_option Elab.async false
set_option linter.all false
set_option maxRecDepth 100000
/-! M12: comprehensions as rules; stores; calls; the promise of a def. -/
namespace Mi
open PySem L2
section
variable {F : Fx} {X : Cx} {σ : L2.St} {H : Hp} {r : Rho} {s : Sto} {A : List Addr} {Hd : Hp} {x : V} {Q : VK}
/-! ### comprehensions -/
def exT (K : PySem.W.Frag) (m : M Bool) : TT := fun σ H Q => ∃ F : Fx, F.K = K ∧ FxOk F ∧ tTI F m σ H Q
def exE (K : PySem.W.Frag) (m : M Rv) : TE := fun σ H Q => ∃ F : Fx, F.K = K ∧ FxOk F ∧ tI F m σ H Q
theorem pe_ex {Y : Cx} {K : PySem.W.Frag} {e : Expr} {m : M Rv} (h : ∀ F : Fx, F.K = K → FxOk F → PE Y e (tI F m)) : PE Y e (exE K m) := ⟨fun pins s σ H Q I ⟨F, e1, e2, q⟩ => (h F e1 e2).run pins s σ H Q I q⟩
theorem pts_ex0 {Y : Cx} {K : PySem.W.Frag} : PTs Y [] (exT K (M.pure true)) := ⟨fun pins s σ H Q I ⟨F, e1, e2, q⟩ => pts_nil.run pins s σ H Q I (tTI_pure q)⟩
theorem pts_ex1 {Y : Cx} {K : PySem.W.Frag} {c : Expr} {m : M Bool} (h : ∀ F : Fx, F.K = K → FxOk F → PT Y c (tTI F m)) : PTs Y [c] (exT K m) := ⟨fun pins s σ H Q I ⟨F, e1, e2, q⟩ => (pts_one (h F e1 e2)).run pins s σ H Q I q⟩
theorem lc_to' (hK : F.K = X.K) (hF : FxOk F) {it : M (List PyData)} {vs : List Nat} {t : Tgt} {mt : M Bool} {te : M Rv} (hs : ∀ i ∈ t.sl, i ∈ vs) (h : tI F (lcM it vs t mt te) σ H Q) : tLc (iI F it) (gT X.K t) (exT X.K mt) (exE X.K te) vs σ H Q := by
  rw [← hK]
  exact lc_to hF hs (exT F.K mt) (fun F' e1 e2 σ H Q q => ⟨F', e1, e2, q⟩) (exE F.K te) (fun F' e1 e2 σ H Q q => ⟨F', e1, e2, q⟩) h
theorem pe_lcI (hK : F.K = X.K) (hF : FxOk F) {elt tg iter : Expr} {ifs : List Expr} {scope : Scope} {own : List (Str × Nat)} {pos : Pos} {it : M (List PyData)} {t : Tgt} {mt : M Bool} {te : M Rv} (hc : X.calm = true) (hN : X.N.Nodup) (hs : ∀ i ∈ t.sl, i ∈ own.map (·.2)) (hi : PI X tg iter (iI F it)) (ok : BlkOk X.N X.env.scope scope own)
    (hg : ∀ (s : Shared) (H : Hp) (C : Addr) (cl : List (Str × Addr)) (fp : List Addr), PG (X.blk s H scope (compEnvC scope cl C X.env) fp) tg (gT X.K t)) (ht : ∀ (s : Shared) (H : Hp) (C : Addr) (cl : List (Str × Addr)) (fp : List Addr), PTs (X.blk s H scope (compEnvC scope cl C X.env) fp) ifs (exT X.K mt))
    (he : ∀ (F' : Fx), F'.K = X.K → FxOk F' → ∀ (s : Shared) (H : Hp) (C : Addr) (cl : List (Str × Addr)) (fp : List Addr), PE (X.blk s H scope (compEnvC scope cl C X.env) fp) elt (tI F' te)) (hfs : ∀ x, foldedSetIterable iter X.env x = pure x := by intro _; rfl) :
    PE X (.ListComp elt [⟨tg, iter, ifs, 0⟩] scope pos) (tI F (lcM it (own.map (·.2)) t mt te)) :=
  PE.imp (pe_lc hc hN hi ok hg ht (fun s H C cl fp => pe_ex fun F' e1 e2 => he F' e1 e2 s H C cl fp) hfs) fun σ H Q h => lc_to' hK hF hs h
theorem ps_lcI (hK : F.K = X.K) (hF : FxOk F) {i : Nat} {y : Str} {py : Pos} {elt tg iter : Expr} {ifs : List Expr} {scope : Scope} {own : List (Str × Nat)} {pos spos : Pos} {it : M (List PyData)} {t : Tgt} {mt : M Bool} {te : M Rv} (hc : X.calm = true) (hN : X.N.Nodup) (hy : X.N[i]? = some y) (hyl : X.env.scope.names.lookup y = some .local)
    (hsw : swapsWith (.ListComp elt [⟨tg, iter, ifs, 0⟩] scope pos) (some (.Name y py)) spos.line X.env = pure true) (hs : ∀ i ∈ t.sl, i ∈ own.map (·.2)) (hi : PI X tg iter (iI F it)) (ok : BlkOk X.N X.env.scope scope own)
    (hg : ∀ (s : Shared) (H : Hp) (C : Addr) (cl : List (Str × Addr)) (fp : List Addr), PG (X.blk s H scope (compEnvC scope cl C X.env) fp) tg (gT X.K t)) (ht : ∀ (s : Shared) (H : Hp) (C : Addr) (cl : List (Str × Addr)) (fp : List Addr), PTs (X.blk s H scope (compEnvC scope cl C X.env) fp) ifs (exT X.K mt))
    (he : ∀ (F' : Fx), F'.K = X.K → FxOk F' → ∀ (s : Shared) (H : Hp) (C : Addr) (cl : List (Str × Addr)) (fp : List Addr), PE (X.blk s H scope (compEnvC scope cl C X.env) fp) elt (tI F' te)) (hfs : ∀ x, foldedSetIterable iter X.env x = pure x := by intro _; rfl) :
    PS X (.Assign [.Name y py] (.ListComp elt [⟨tg, iter, ifs, 0⟩] scope pos) spos) (tS F (asM i (lcM it (own.map (·.2)) t mt te))) := by
  refine PS.imp (ps_setLc hc hN hy hyl hsw hi ok hg ht (fun s H C cl fp => pe_ex fun F' e1 e2 => he F' e1 e2 s H C cl fp) hfs) fun D σ H h => ?_
  have h2 := asM_to h
  exact lc_to' hK hF hs (Q := fun x H1 => gName i x σ H1 D.nx) h2

/-! ### stores into dicts and lists -/
def putD (kvs : List (PyData × PyData)) (κ : Key) (k v : PyData) : List (PyData × PyData) :=
  if (kvs.any fun p => decide (keyK p.1 = some κ)) = true then kvs.map (fun p => if keyK p.1 = some κ then (p.1, v) else p) else kvs ++ [(k, v)]
theorem KvK.any {κ : Key} : ∀ {ks : List (Key × V)} {kvs : List (PyData × PyData)}, KvK F Hd ks kvs → (ks.any fun p => decide (p.1 = κ)) = kvs.any fun p => decide (keyK p.1 = some κ)
  | [], [], _ => rfl
  | (k, v) :: ks, (d, e) :: kvs, h => by
    rw [List.any_cons, List.any_cons, KvK.any h.2.2]
    congr 1
    rw [h.1.1]
    by_cases z : k = κ
    · subst z; simp
    · rw [decide_eq_false z, decide_eq_false fun y => z (Option.some.inj y)]
  | [], _ :: _, h => h.elim
  | _ :: _, [], h => h.elim
theorem KvK.repl {κ : Key} {v : V} {e : PyData} (hv : Dv F Hd v e) : ∀ {ks : List (Key × V)} {kvs : List (PyData × PyData)}, KvK F Hd ks kvs → KvK F Hd (ks.map fun p => if p.1 = κ then (p.1, v) else p) (kvs.map fun p => if keyK p.1 = some κ then (p.1, e) else p)
  | [], [], _ => trivial
  | (k, w) :: ks, (d, e') :: kvs, h => by
    have ih := KvK.repl (κ := κ) hv h.2.2
    rw [List.map_cons, List.map_cons]
    by_cases z : k = κ
    · rw [if_pos z, if_pos (by rw [h.1.1, z])]
      exact ⟨h.1, hv, ih⟩
    · rw [if_neg z, if_neg (fun y => z (by rw [h.1.1] at y; exact Option.some.inj y))]
      exact ⟨h.1, h.2.1, ih⟩
  | [], _ :: _, h => h.elim
  | _ :: _, [], h => h.elim
theorem KvK.snoc {κ : Key} {v : V} {d e : PyData} (hk : keyK d = some κ ∧ d.canLay0 = true) (hv : Dv F Hd v e) : ∀ {ks : List (Key × V)} {kvs : List (PyData × PyData)}, KvK F Hd ks kvs → KvK F Hd (ks ++ [(κ, v)]) (kvs ++ [(d, e)])
  | [], [], _ => ⟨hk, hv, trivial⟩
  | (_, _) :: _, (_, _) :: _, h => ⟨h.1, h.2.1, KvK.snoc hk hv h.2.2⟩
  | [], _ :: _, h => h.elim
  | _ :: _, [], h => h.elim
theorem KvK.put {κ : Key} {v : V} {d e : PyData} {ks : List (Key × V)} {kvs : List (PyData × PyData)} (h : KvK F Hd ks kvs) (hk : keyK d = some κ ∧ d.canLay0 = true) (hv : Dv F Hd v e) : KvK F Hd (putK ks κ v) (putD kvs κ d e) := by
  unfold putK putD
  rw [h.any]
  split
  · exact h.repl hv
  · exact h.snoc hk hv
/-- d[k] = v -/
def dpM (mv md mk : M Rv) : M Out := M.bind mv fun v => M.bind md fun d => M.bind mk fun k => M.bind (ct (opd k)) fun c => M.bind (ofOpt (keyC c)) fun κ => M.bind (ofOpt c.data?) fun kd => M.bind (restD (opd v)) fun x =>
  updO (opd d) fun o => match o with
    | .dic kvs => if decide (kvs.length < sizeLine) = true then some (.dic (putD kvs κ kd x), Out.nx) else none
    | _ => none
theorem ps_dpI {o i value : Expr} {pos pos' : Pos} {md mk mv : M Rv} (hu : X.A.units + 1 < cLine) (ho : PE X o (tI F md)) (hi : PE X i (tI F mk)) (hv : PE X value (tI F mv)) (hs : swapsWith value (some (.Subscript o i pos')) pos.line X.env = pure false := by rfl) :
    PS X (.Assign [.Subscript o i pos'] value pos) (tS F (dpM mv md mk)) := by
  refine PS.imp (ps_dput hu ho hi hv hs) fun D σ H ⟨r, s, A, Hd, G, _, h⟩ => ⟨r, s, A, Hd, G, ?_⟩
  unfold dpM at h
  cases e1 : mv r s with
  | no => rw [Rs.bind_no e1] at h; exact h
  | ok v r1 s1 =>
    rw [Rs.bind_ok e1] at h
    intro x1 H1 A1 Hd1 G1 p1 l1 k1
    obtain ⟨Hd2, G2, l2, k2⟩ := G1.opd k1
    refine ⟨r1, s1, A1, Hd2, G2, ?_⟩
    cases e2 : md r1 s1 with
    | no => rw [Rs.bind_no e2] at h; exact h
    | ok d r2 s2 =>
      rw [Rs.bind_ok e2] at h
      intro x3 H3 A3 Hd3 G3 p3 l3 k3
      obtain ⟨Hd4, G4, l4, k4⟩ := G3.opd k3
      refine ⟨r2, s2, A3, Hd4, G4, ?_⟩
      cases e3 : mk r2 s2 with
      | no => rw [Rs.bind_no e3] at h; exact h
      | ok k r3 s3 =>
        rw [Rs.bind_ok e3] at h
        intro x5 H5 A5 Hd5 G5 p5 l5 k5
        obtain ⟨Hd6, G6, l6, k6⟩ := G5.opd k5
        cases e4 : ct (opd k) r3 s3 with
        | no => rw [Rs.bind_no e4] at h; exact h.elim
        | ok c r4 s4 =>
          rw [Rs.bind_ok e4] at h
          obtain ⟨rfl, rfl, q4⟩ := ct_ok e4
          cases q5 : keyC c with
          | none => rw [q5] at h; exact h.elim
          | some κ =>
            rw [q5] at h
            cases q6 : c.data? with
            | none => rw [q6] at h; exact h.elim
            | some kd =>
              rw [q6] at h
              have h' : match (M.bind (restD (opd v)) fun x => updO (opd d) fun o => match o with
                | .dic kvs => if decide (kvs.length < sizeLine) = true then some (.dic (putD kvs κ kd x), Out.nx) else none
                | _ => none : M Out) r4 s4 with
                | .ok o r' s' => ∀ σ' H' A' Hd', Good F σ' H' r' s' A' Hd' → A <+: A' → Le Hd Hd' → outD F D σ' H' Hd' A' r' o
                | .no => False := h
              cases e7 : restD (opd v) r4 s4 with
              | no => rw [Rs.bind_no e7] at h'; exact h'.elim
              | ok xd r7 s7 =>
                rw [Rs.bind_ok e7] at h'
                obtain ⟨rfl, Hd7, G7, l7, kv⟩ := G6.restD (RvR.later (p3.trans p5) (l3.tr (l4.tr (l5.tr l6))) k2) e7
                have kd6 := RvR.later (r' := r4) (H' := H5) p5 (l5.tr l6) k4
                cases e8 : updO (opd d) (fun o => match o with
                  | .dic kvs => if decide (kvs.length < sizeLine) = true then some (.dic (putD kvs κ kd xd), Out.nx) else none
                  | _ => none) r7 s7 with
                | no => rw [e8] at h'; exact h'.elim
                | ok o r8 s8 =>
                  rw [e8] at h'
                  obtain ⟨a, od, od', rfl, hR, hn, hf, hG⟩ := G7.updO (RvR.same l7 (updO_noFr e8) kd6) e8
                  cases od with
                  | dic kvs =>
                    simp only at hf
                    split at hf
                    · rename_i hz
                      cases hf
                      obtain ⟨ks, h1, h2⟩ := hR
                      obtain ⟨kd', q7, q8, rfl, hkd⟩ := keyC_V G6 (G6.ctR k6 q4) q5
                      rw [q6] at q7; cases q7
                      have hl := h2.len
                      refine ⟨a, upd H5 a (.dK (putK ks κ x1)), rfl, DPut.k h1 (by rw [hl]; exact of_decide_eq_true hz), ?_⟩
                      have hR' : RepO F (upd H5 a (.dK (putK ks κ x1))) Hd7 a (.dic (putD kvs κ kd xd)) := ⟨_, upd_same, h2.put ⟨q8, hkd.2⟩ kv⟩
                      exact h' σ _ A5 Hd7 (hG _ hR') (p1.trans (p3.trans p5)) (l1.tr (l2.tr (l3.tr (l4.tr (l5.tr (l6.tr l7))))))
                    · cases hf
                  | _ => cases hf
/-! ### dict displays and comprehensions -/
def ndM : M Rv := M.pure (.fr (.dic []))
theorem pe_ndI {pos : Pos} : PE X (.Dict [] [] pos) (tI F ndM) := PE.imp pe_dnewK fun σ H Q ⟨r, s, A, Hd, G, h⟩ p hp => fin_fr (o := .dic []) G hp ⟨[], upd_same, trivial⟩ h

/-! ### calls of one's own defs -/
abbrev Fm := List Wv → Sto → Option (Rv × Sto)
def restWs : List Rv → M (List Wv)
  | [] => M.pure []
  | v :: vs => M.bind (restO v) fun w => M.bind (restWs vs) fun ws => M.pure (w :: ws)
abbrev frF (P : Program) (w : World) (K : PySem.W.Frag) (H : Hp) (A : List Addr) (Hd : Hp) : Fx := ⟨K, P, w, H, A, Hd⟩
/-- a def's promise -/
def spF (P : Program) (w : World) (K : PySem.W.Frag) (n : Nat) (f : Fm) : Sp := fun vs H Q _ => ∃ ws s A Hd, vs.length = n ∧ Good (frF P w K H A Hd) [] H [] s A Hd ∧ All2 (RepW (frF P w K H A Hd) Hd A) vs ws ∧ match f ws s with
  | some (v, s') => ∀ x H' A' Hd', Good (frF P w K H A Hd) [] H' [] s' A' Hd' → A <+: A' → Le Hd Hd' → RvR (frF P w K H A Hd) [] H' Hd' A' [] x v → Q x H'
  | none => False
def RepWs (F : Fx) (Hd : Hp) (A : List Addr) : List V → List Wv → Prop := All2 (RepW F Hd A)
theorem RepWs.le {Hd Hd' : Hp} {A A' : List Addr} (e : Le Hd Hd') (p : A <+: A') : ∀ {xs : List V} {ws : List Wv}, RepWs F Hd A xs ws → RepWs F Hd' A' xs ws
  | [], [], _ => trivial
  | _ :: _, _ :: _, h => ⟨h.1.le e p, RepWs.le e p h.2⟩
  | [], _ :: _, h => h.elim
  | _ :: _, [], h => h.elim
theorem restO_noFr {v : Rv} {w : Wv} {r' : Rho} {s' : Sto} (e : restO v r s = .ok w r' s') : noFr v = true := by
  cases v with
  | fr o => cases e
  | _ => rfl
theorem restWs_noFr : ∀ {vs : List Rv} {ws : List Wv} {r r' : Rho} {s s' : Sto}, restWs vs r s = .ok ws r' s' → ∀ v ∈ vs, noFr v = true
  | [], _, _, _, _, _, _ => fun _ h => by cases h
  | v :: vs, ds, r, r', s, s', e => by
    simp only [restWs] at e
    obtain ⟨d, r1, s1, q, e⟩ := bind_ok_inv e
    obtain ⟨ds2, r2, s2, q2, e⟩ := bind_ok_inv e
    intro w hw
    rcases List.mem_cons.mp hw with z | z
    · subst z; exact restO_noFr q
    · exact restWs_noFr q2 w z
theorem Good.restWs : ∀ {xs : List V} {vs : List Rv} {ws : List Wv} {r r' : Rho} {s s' : Sto} {Hd : Hp}, Good F σ H r s A Hd → RvRs F σ H Hd A r xs vs → Mi.restWs vs r s = .ok ws r' s' → s' = s ∧ ∃ Hd2, Good F σ H r' s A Hd2 ∧ Le Hd Hd2 ∧ RepWs F Hd2 A xs ws
  | [], [], _, _, _, _, _, Hd, G, _, e => by cases e; exact ⟨rfl, Hd, G, Le.rfl, trivial⟩
  | x :: xs, v :: vs, ds, r, r', s, s', Hd, G, h, e => by
    simp only [Mi.restWs] at e
    obtain ⟨d, r1, s1, q, e1⟩ := bind_ok_inv e
    obtain ⟨rfl, Hd1, G1, l1, k1⟩ := G.restO h.1 q
    obtain ⟨ds2, r2, s2, q2, e2⟩ := bind_ok_inv e1
    cases e2
    obtain ⟨rfl, Hd2, G2, l2, k2⟩ := Good.restWs G1 (RvRs.same l1 (restWs_noFr q2) h.2) q2
    exact ⟨rfl, Hd2, G2, l1.tr l2, k1.le l2 (List.prefix_refl _), k2⟩
  | [], _ :: _, _, _, _, _, _, _, _, h, _ => h.elim
  | _ :: _, [], _, _, _, _, _, _, _, h, _ => h.elim
theorem RepWs.len : ∀ {xs : List V} {ws : List Wv}, RepWs F Hd A xs ws → xs.length = ws.length
  | [], [], _ => rfl
  | _ :: _, _ :: _, h => by rw [List.length_cons, List.length_cons, RepWs.len h.2]
  | [], _ :: _, h => h.elim
  | _ :: _, [], h => h.elim
theorem RepWs.k {F1 F2 : Fx} (e : F1.K = F2.K) {Hd : Hp} {A : List Addr} : ∀ {xs : List V} {ws : List Wv}, RepWs F1 Hd A xs ws → RepWs F2 Hd A xs ws
  | [], [], _ => trivial
  | _ :: _, _ :: _, h => ⟨h.1.k e, RepWs.k e h.2⟩
  | [], _ :: _, h => h.elim
  | _ :: _, [], h => h.elim
/-- a caller's state as a callee's start -/
theorem Good.enter (P : Program) (w : World) (G : Good F σ H r s A Hd) : Good (frF P w F.K H A Hd) [] H [] s A Hd :=
  ⟨G.le, rfl, G.shl, fun n a o p q => ⟨(G.sh n a o p q).1, RepO.k (F1 := F) (F2 := frF P w F.K H A Hd) rfl (G.sh n a o p q).2⟩, G.nd, List.prefix_refl _, fun a h n => absurd h n, fun _ _ q _ => q, fun i c q => by simp at q, fun i j o o' a q => by simp at q, fun b o q => .inr (by
    show Hd b ≠ none
    rw [q]; intro z; cases z)⟩
/-- .. and behind it -/
theorem Good.leave {P : Program} {w : World} {H' : Hp} {s' : Sto} {A' : List Addr} {Hd' : Hp} (G : Good F σ H r s A Hd) (G' : Good (frF P w F.K H A Hd) [] H' [] s' A' Hd') (p : A <+: A') (l : Le Hd Hd') : Good F σ H' r s' A' Hd' := by
  have hn : ∀ {a : Addr}, H a = none → F.H0 a = none := fun h => G.notH h
  have keepA : ∀ {a : Addr} {u : HO}, H a = some u → a ∉ A → H' a = some u := fun h n => G'.keep _ _ h n
  have outA : ∀ {a : Addr} {u : HO}, H a = some u → a ∉ A → a ∉ A' := fun {a u} h n m => by
    have : H a = none := G'.new a m n
    rw [h] at this; cases this
  have outD : ∀ {a : Addr} {u : HO}, H a = some u → Hd a = none → Hd' a = none := fun {a u} h n => by
    cases q : Hd' a with
    | none => rfl
    | some o =>
      rcases G'.hdr a o q with k | k
      · have : H a = none := k
        rw [h] at this; cases this
      · exact absurd n k
  refine ⟨G'.le, G.len, G'.shl, fun n a o p q => ⟨(G'.sh n a o p q).1, RepO.k (F1 := frF P w F.K H A Hd) (F2 := F) rfl (G'.sh n a o p q).2⟩, G'.nd, G.pre.trans p, fun a h n => ?_, fun b o q n => ?_, fun i c q => ?_, G.sep, fun b o q => ?_⟩
  · by_cases z : a ∈ A
    · exact G.new a z n
    · exact hn (G'.new a h z)
  · have z : b ∉ A := fun z => by
      have := G.new b z n
      rw [q] at this; cases this
    exact keepA (G.keep b o q n) z
  · have k := G.env i c q
    cases c with
    | un => trivial
    | w v => obtain ⟨y, k1, k2⟩ := k; exact ⟨y, k1, k2.le l p⟩
    | ow d =>
      obtain ⟨a, k1, k2, k3, k4, k5⟩ := k
      obtain ⟨u, hu⟩ := k5.some
      exact ⟨a, k1, outD hu k2, outA hu k3, k4, k5.le l fun v z => keepA z k3⟩
  · rcases G'.hdr b o q with k | k
    · exact .inl (hn k)
    · have k' : Hd b ≠ none := k
      cases z : Hd b with
      | none => exact absurd z k'
      | some u => exact G.hdr b u z
theorem RvR.leave {P : Program} {w : World} {H' : Hp} {A' : List Addr} {Hd' : Hp} {v : Rv} (G : Good F σ H r s A Hd) (h : RvR (frF P w F.K H A Hd) [] H' Hd' A' [] x v) : RvR F σ H' Hd' A' r x v := by
  cases v with
  | w w' => exact RepW.k (F1 := frF P w F.K H A Hd) (F2 := F) rfl h
  | fr o =>
    obtain ⟨a, rfl, h1, h2, h3, h4, _⟩ := h
    have hn : H a = none := h3
    exact ⟨a, rfl, h1, h2, G.notH hn, RepO.k (F1 := frF P w F.K H A Hd) (F2 := F) rfl h4, fun i o' q => G.notO hn q⟩
  | pk i =>
    have : ([] : L2.St)[i]? = some (some x) := h
    simp at this
theorem evs_len : ∀ {ms : List (M Rv)} {vs : List Rv} {r r' : Rho} {s s' : Sto}, evs ms r s = .ok vs r' s' → vs.length = ms.length
  | [], _, _, _, _, _, e => by cases e; rfl
  | m :: ms, vs, r, r', s, s', e => by
    simp only [evs] at e
    obtain ⟨v, r1, s1, q, e1⟩ := bind_ok_inv e
    obtain ⟨ws, r2, s2, q2, e2⟩ := bind_ok_inv e1
    cases e2
    rw [List.length_cons, List.length_cons, evs_len q2]
theorem RvRs.len : ∀ {xs : List V} {vs : List Rv}, RvRs F σ H Hd A r xs vs → xs.length = vs.length
  | [], [], _ => rfl
  | _ :: _, _ :: _, h => by rw [List.length_cons, List.length_cons, RvRs.len h.2]
  | [], _ :: _, h => h.elim
  | _ :: _, [], h => h.elim
theorem RepWs.app {Hd : Hp} {A : List Addr} : ∀ {xs ys : List V} {ws us : List Wv}, RepWs F Hd A xs ws → RepWs F Hd A ys us → RepWs F Hd A (xs ++ ys) (ws ++ us)
  | [], _, [], _, _, h => h
  | _ :: _, _, _ :: _, _, h, k => ⟨h.1, RepWs.app h.2 k⟩
  | [], _, _ :: _, _, h, _ => h.elim
  | _ :: _, _, [], _, h, _ => h.elim
/-- values that stand in the module: defaults -/
def Kst (K : PySem.W.Frag) (dvs : List V) (dws : List Wv) : Prop := ∀ (F : Fx) (Hd : Hp) (A : List Addr), F.K = K → RepWs F Hd A dvs dws
theorem Kst.nil {K : PySem.W.Frag} : Kst K [] [] := fun _ _ _ _ => trivial
/-- f(..), the defaults behind -/
def caM (f : Fm) (dws : List Wv) (ms : List (M Rv)) : M Rv := M.bind (evs ms) fun vs => M.bind (restWs vs) fun ws => fun r s => match f (ws ++ dws) s with
  | some (v, s') => .ok v r s'
  | none => .no
theorem caM_to (P : Program) (w : World) {f : Fm} {ms : List (M Rv)} {dvs : List V} {dws : List Wv} {n : Nat} (hn : ms.length + dvs.length = n) (hd : Kst F.K dvs dws) (h : tI F (caM f dws ms) σ H Q) (E : XK) : tIs F (evs ms) σ H fun xs H1 => spF P w F.K n f (xs ++ dvs) H1 Q E := by
  obtain ⟨r, s, A, Hd, G, h⟩ := h
  refine ⟨r, s, A, Hd, G, ?_⟩
  unfold caM at h
  cases e1 : evs ms r s with
  | no => rw [Rs.bind_no e1] at h; exact h
  | ok vs r1 s1 =>
    rw [Rs.bind_ok e1] at h
    intro xs H1 A1 Hd1 G1 p1 l1 k1
    cases e2 : restWs vs r1 s1 with
    | no => rw [Rs.bind_no e2] at h; exact h.elim
    | ok ws r2 s2 =>
      rw [Rs.bind_ok e2] at h
      obtain ⟨rfl, Hd2, G2, l2, k2⟩ := G1.restWs k1 e2
      refine ⟨ws ++ dws, s2, A1, Hd2, by rw [List.length_append, k1.len, evs_len e1]; exact hn, G2.enter P w, RepWs.app (RepWs.k (F1 := F) (F2 := frF P w F.K H1 A1 Hd2) rfl k2) (hd _ _ _ rfl), ?_⟩
      cases e3 : f (ws ++ dws) s2 with
      | none => simp only [e3] at h
      | some p =>
        obtain ⟨v, s3⟩ := p
        simp only [e3] at h
        exact fun x H' A' Hd' G' p' l' k' => h x H' A' Hd' (G2.leave G' p' l') (p1.trans p') (l1.tr (l2.tr l')) (RvR.leave G2 k')
/-- f(e, ..) -/
theorem pe_caI {k n : Nat} {f : Addr} {fd : FuncData} {ps : List Str} {fm : Fm} {dvs : List V} {dws : List Wv} {ds : List Value} {y : Str} {p pos : Pos} {e : Expr} {es : List Expr} {ms : List (M Rv)} (hK : F.K = X.K) (Fn : FnOk X.prog X.w X.K X.mg X.base CX0 k f fd ps (spF X.prog X.w X.K n fm)) (hr : Room k X.A) (hg : Gl X y) (hm : X.mg y = some (.ref f)) (hk : PySem.W.keepIn X.K (.ref f) = true)
    (hb : Binds X.K fd ps ds) (hd : Vals dvs ds) (hdw : Kst X.K dvs dws) (hn : ms.length + dvs.length = n) (ha : PA X (e :: es) (tIs F (evs ms))) (hdb : (y == ("__debug__" : Str)) = false := by decide) (he : starEach (e :: es) X.env = (false, eval e X.env) :: starEach es X.env := by rfl) (hpl : (backTo pos (starEach es X.env)).any (·.1) = false := by rfl) :
    PE X (.Call (.Name y p) (e :: es) [] pos) (tI F (caM fm dws ms)) :=
  PE.imp (pe_call (E := E0) Fn hr hg hm hk hb hd (L2.pass0) ha hdb he hpl) fun σ H Q h => by
    have := caM_to (F := F) X.prog X.w hn (by rw [hK]; exact hdw) h E0
    rw [hK] at this
    exact this
theorem pe_ca0I {k : Nat} {f : Addr} {fd : FuncData} {ps : List Str} {fm : Fm} {y : Str} {p pos : Pos} (hK : F.K = X.K) (Fn : FnOk X.prog X.w X.K X.mg X.base CX0 k f fd ps (spF X.prog X.w X.K 0 fm)) (hr : Room k X.A) (hg : Gl X y) (hm : X.mg y = some (.ref f)) (hk : PySem.W.keepIn X.K (.ref f) = true)
    (hb : Binds X.K fd ps []) (hdb : (y == ("__debug__" : Str)) = false := by decide) :
    PE X (.Call (.Name y p) [] [] pos) (tI F (caM fm [] [])) :=
  PE.imp (pe_call0 (E := E0) (dvs := []) Fn hr hg hm hk hb .nil (L2.pass0) hdb) fun σ H Q h => by
    have := caM_to (F := F) (dvs := []) X.prog X.w (n := 0) rfl Kst.nil h E0
    rw [hK] at this
    obtain ⟨r, s, A, Hd, G, h⟩ := this
    exact h [] H A Hd G (List.prefix_refl _) Le.rfl trivial
/-- a local name that holds the def at f -/
def clM (i : Nat) (v0 : V) (fm : Fm) (ms : List (M Rv)) : M Rv := fun r s => match r[i]? with
  | some (.w (.raw v)) => if v = v0 then caM fm [] ms r s else .no
  | _ => .no
theorem pe_clI {k n i : Nat} {f : Addr} {fd : FuncData} {ps : List Str} {fm : Fm} {y : Str} {p pos : Pos} {e : Expr} {es : List Expr} {ms : List (M Rv)} (hK : F.K = X.K) (Fn : FnOk X.prog X.w X.K X.mg X.base CX0 k f fd ps (spF X.prog X.w X.K n fm)) (hr : Room k X.A) (hN : X.N[i]? = some y) (hv : Vis X.env.scope y) (hk : PySem.W.keepIn X.K (.ref f) = true)
    (hb : Binds X.K fd ps []) (hn : ms.length = n) (ha : PA X (e :: es) (tIs F (evs ms))) (hdb : (y == ("__debug__" : Str)) = false := by decide) (hcd : (y == ("__classdict__" : Str)) = false := by decide) (he : starEach (e :: es) X.env = (false, eval e X.env) :: starEach es X.env := by rfl) (hpl : (backTo pos (starEach es X.env)).any (·.1) = false := by rfl) :
    PE X (.Call (.Name y p) (e :: es) [] pos) (tI F (clM i (.ref f) fm ms)) :=
  PE.imp (pe_callL (i := i) (E := E0) (dvs := []) Fn hr hN hv hk hb .nil (L2.pass0) ha hdb hcd he hpl) fun σ H Q h => by
    obtain ⟨r, s, A, Hd, G, h⟩ := h
    unfold clM at h
    cases q : r[i]? with
    | none => rw [q] at h; exact h.elim
    | some c =>
      rw [q] at h
      cases c with
      | un => exact h.elim
      | ow o => exact h.elim
      | w w =>
        cases w with
        | raw v =>
          dsimp only at h
          by_cases z : v = V.ref f
          · rw [if_pos z] at h
            obtain ⟨x, k1, k2⟩ := G.env i _ q
            have e1 : x = v := k2
            refine ⟨by rw [k1, e1, z], ?_⟩
            have := caM_to (F := F) (dvs := []) X.prog X.w (n := n) (by simpa using hn) Kst.nil ⟨r, s, A, Hd, G, h⟩ E0
            rw [hK] at this
            exact this
          · rw [if_neg z] at h; exact h.elim
        | _ => exact h.elim
/-- the def's value as an argument -/
def rwM (v : V) : M Rv := M.pure (.w (.raw v))
theorem pe_rwI {e : Expr} {v : V} (h : PE X e (tC v)) : PE X e (tI F (rwM v)) := PE.imp h fun σ H Q ⟨r, s, A, Hd, G, h⟩ => h v H A Hd G (List.prefix_refl _) Le.rfl rfl

/-! ### keywords -/
theorem tCons_to {m : M Rv} {ms : List (M Rv)} {Q : List V → Hp → Prop} (h : tIs F (evs (m :: ms)) σ H Q) : tCons (tI F m) (tIs F (evs ms)) σ H Q := by
  obtain ⟨r, s, A, Hd, G, h⟩ := h
  refine ⟨r, s, A, Hd, G, ?_⟩
  cases e1 : m r s with
  | no => simp only [evs] at h; rw [Rs.bind_no e1] at h; exact h
  | ok v r1 s1 =>
    simp only [evs] at h
    rw [Rs.bind_ok e1] at h
    intro x H1 A1 Hd1 G1 p1 l1 k1
    obtain ⟨Hd2, G2, l2, k2⟩ := G1.opd k1
    refine ⟨r1, s1, A1, Hd2, G2, ?_⟩
    cases e2 : evs ms r1 s1 with
    | no => rw [Rs.bind_no e2] at h; exact h
    | ok vs r2 s2 =>
      rw [Rs.bind_ok e2] at h
      intro xs H3 A3 Hd3 G3 p3 l3 k3
      exact h (x :: xs) H3 A3 Hd3 G3 (p1.trans p3) (l1.tr (l2.tr l3)) ⟨RvR.later p3 l3 k2, k3⟩
theorem pk_nilI : PK X [] (tIs F (evs [])) := ⟨fun pos pins s σ H Q I ⟨r, s', A, Hd, G, h⟩ => pk_nil.run pos pins s σ H Q I (h [] H A Hd G (List.prefix_refl _) Le.rfl trivial)⟩
theorem pk_consI {nm : Option Str} {kpos : Pos} {e : Expr} {kws : List Keyword} {m : M Rv} {ms : List (M Rv)} (he : PE X e (tI F m)) (hs : PK X kws (tIs F (evs ms))) : PK X (⟨nm, e, kpos⟩ :: kws) (tIs F (evs (m :: ms))) := ⟨fun pos pins s σ H Q I h => (pk_cons he hs).run pos pins s σ H Q I (tCons_to h)⟩
/-- f(.., k = ..): the values in the order of writing, g puts them right -/
def ckM (f : Fm) (g : List Wv → List Wv → List Wv) (ms ks : List (M Rv)) : M Rv := M.bind (evs ms) fun vs => M.bind (evs ks) fun zs => M.bind (restWs vs) fun ws => M.bind (restWs zs) fun us => fun r s => match f (g ws us) s with
  | some (v, s') => .ok v r s'
  | none => .no
theorem opd_all : ∀ {ms : List (M Rv)} {vs : List Rv} {r r' : Rho} {s s' : Sto}, evs ms r s = .ok vs r' s' → ∀ v ∈ vs, opd v = v
  | [], _, _, _, _, _, e => by cases e; intro v hv; cases hv
  | m :: ms, vs, r, r', s, s', e => by
    simp only [evs] at e
    obtain ⟨v, r1, s1, q, e1⟩ := bind_ok_inv e
    obtain ⟨ws, r2, s2, q2, e2⟩ := bind_ok_inv e1
    cases e2
    intro u hu
    rcases List.mem_cons.mp hu with z | z
    · rw [z]; exact opd_opd v
    · exact opd_all q2 u z
theorem RvRs.later {r' : Rho} {H' Hd' : Hp} {A' : List Addr} (p : A <+: A') (l : Le Hd Hd') : ∀ {xs : List V} {vs : List Rv}, (∀ v ∈ vs, opd v = v) → RvRs F σ H Hd A r xs vs → RvRs F σ H' Hd' A' r' xs vs
  | [], [], _, _ => trivial
  | x :: xs, v :: vs, n, h => ⟨by
      have e := n v List.mem_cons_self
      have k : RvR F σ H Hd A r x (opd v) := by rw [e]; exact h.1
      have := RvR.later (r' := r') (H' := H') p l k
      rwa [e] at this, RvRs.later p l (fun u hu => n u (List.mem_cons_of_mem _ hu)) h.2⟩
  | [], _ :: _, _, h => h.elim
  | _ :: _, [], _, h => h.elim
theorem pe_ckI {k n : Nat} {f : Addr} {fd : FuncData} {ps : List Str} {ks : List Str} {fm : Fm} {g : List Value → List Value → List Value} {gV : List V → List V → List V} {gW : List Wv → List Wv → List Wv} {y : Str} {p pos : Pos} {e : Expr} {es : List Expr} {kws : List Keyword} {ms mk : List (M Rv)} (hK : F.K = X.K)
    (Fn : FnOk X.prog X.w X.K X.mg X.base CX0 k f fd ps (spF X.prog X.w X.K ps.length fm)) (hr : Room k X.A) (hg : Gl X y) (hm : X.mg y = some (.ref f)) (hk : PySem.W.keepIn X.K (.ref f) = true) (hb : KBn X.K fd ps n ks g gV) (hn : ms.length = n) (hnk : mk.length = ks.length)
    (hgW : ∀ (F : Fx) (Hd : Hp) (A : List Addr) (xs zs : List V) (ws us : List Wv), xs.length = n → zs.length = ks.length → RepWs F Hd A xs ws → RepWs F Hd A zs us → RepWs F Hd A (gV xs zs) (gW ws us) ∧ (gV xs zs).length = ps.length)
    (ha : PA X (e :: es) (tIs F (evs ms))) (hkw : PK X kws (tIs F (evs mk))) (hall : (backToKw pos (keywordEach kws X.env)).all (·.1.isSome) = true := by rfl) (hks : (backToKw pos (keywordEach kws X.env)).filterMap (·.1) = ks := by rfl)
    (hdb : (y == ("__debug__" : Str)) = false := by decide) (he : starEach (e :: es) X.env = (false, eval e X.env) :: starEach es X.env := by rfl)
    (hpl : ((backTo pos (starEach (e :: es) X.env)).any (·.1) || (backToKw pos (keywordEach kws X.env)).any (·.1.isNone)) = false := by rfl) : PE X (.Call (.Name y p) (e :: es) kws pos) (tI F (ckM fm gW ms mk)) := by
  refine PE.imp (pe_callN (E := E0) Fn hr hg hm hk hb (L2.pass0) ha hkw hall hks hdb he hpl) fun σ H Q ⟨r, s, A, Hd, G, h⟩ => ⟨r, s, A, Hd, G, ?_⟩
  unfold ckM at h
  cases e1 : evs ms r s with
  | no => rw [Rs.bind_no e1] at h; exact h
  | ok vs r1 s1 =>
    rw [Rs.bind_ok e1] at h
    intro xs H1 A1 Hd1 G1 p1 l1 k1
    refine ⟨r1, s1, A1, Hd1, G1, ?_⟩
    cases e2 : evs mk r1 s1 with
    | no => rw [Rs.bind_no e2] at h; exact h
    | ok zs r2 s2 =>
      rw [Rs.bind_ok e2] at h
      intro ys H2 A2 Hd2 G2 p2 l2 k2
      have k1' := RvRs.later (r' := r2) (H' := H2) p2 l2 (opd_all e1) k1
      cases e3 : restWs vs r2 s2 with
      | no => rw [Rs.bind_no e3] at h; exact h.elim
      | ok ws r3 s3 =>
        rw [Rs.bind_ok e3] at h
        obtain ⟨rfl, Hd3, G3, l3, k3⟩ := G2.restWs k1' e3
        cases e4 : restWs zs r3 s3 with
        | no => rw [Rs.bind_no e4] at h; exact h.elim
        | ok us r4 s4 =>
          rw [Rs.bind_ok e4] at h
          obtain ⟨rfl, Hd4, G4, l4, k4⟩ := G3.restWs (RvRs.same l3 (restWs_noFr e4) k2) e4
          have n1 : xs.length = n := by rw [k1.len, evs_len e1]; exact hn
          have n2 : ys.length = ks.length := by rw [k2.len, evs_len e2]; exact hnk
          have hG := G4.enter X.prog X.w
          rw [hK] at hG
          obtain ⟨kk, kl⟩ := hgW (frF X.prog X.w X.K H2 A2 Hd4) Hd4 A2 xs ys ws us n1 n2 (RepWs.k (F1 := F) (F2 := frF X.prog X.w X.K H2 A2 Hd4) hK (k3.le l4 (List.prefix_refl _))) (RepWs.k (F1 := F) (F2 := frF X.prog X.w X.K H2 A2 Hd4) hK k4)
          refine ⟨n1, n2, gW ws us, s4, A2, Hd4, kl, hG, kk, ?_⟩
          cases e5 : fm (gW ws us) s4 with
          | none => simp only [e5] at h
          | some q =>
            obtain ⟨v, s5⟩ := q
            simp only [e5] at h
            refine fun x H' A' Hd' G' p' l' k' => h x H' A' Hd' (G4.leave (by rw [hK]; exact G') p' l') (p1.trans (p2.trans p')) (l1.tr (l2.tr (l3.tr (l4.tr l')))) (RvR.leave G4 (by rw [hK]; exact k'))

/-! ### a def keeps its promise -/
def retV (r : Rho) : Rv → Option Rv
  | .pk i => match r[i]? with
    | some (.ow o) => some (.fr o)
    | some (.w w) => some (.w w)
    | _ => none
  | v => some v
def runF (n : Nat) (m : M Out) : Fm := fun ws s => match m (ws.map Sl.w ++ List.replicate (n - ws.length) Sl.un) s with
  | .ok (.rt v) r s' => (retV r v).map fun v => (v, s')
  | .ok .nx _ s' => some (ad .none, s')
  | _ => none
theorem All2.get {α β : Type} {R : α → β → Prop} : ∀ {as : List α} {bs : List β} {i : Nat} {b : β}, All2 R as bs → bs[i]? = some b → ∃ a, as[i]? = some a ∧ R a b
  | a :: as, b :: bs, 0, c, h, e => by simp at e; subst e; exact ⟨a, rfl, h.1⟩
  | a :: as, b :: bs, i + 1, c, h, e => by
    obtain ⟨a', h1, h2⟩ := All2.get (i := i) h.2 (by simpa using e)
    exact ⟨a', by simpa using h1, h2⟩
  | [], [], _, _, _, e => by simp at e
  | [], _ :: _, _, _, h, _ => h.elim
  | _ :: _, [], _, _, h, _ => h.elim
theorem All2.len {α β : Type} {R : α → β → Prop} : ∀ {as : List α} {bs : List β}, All2 R as bs → as.length = bs.length
  | [], [], _ => rfl
  | _ :: _, _ :: _, h => by rw [List.length_cons, List.length_cons, All2.len h.2]
  | [], _ :: _, h => h.elim
  | _ :: _, [], h => h.elim
theorem Good.drop (G : Good F σ H r s A Hd) : Good F [] H [] s A Hd := ⟨G.le, rfl, G.shl, G.sh, G.nd, G.pre, G.new, G.keep, fun i c q => by simp at q, fun i j o o' a q => by simp at q, G.hdr⟩
theorem fnI {P : Program} {w : World} {K : PySem.W.Frag} {mg : Str → Option Value} {base : Heap} {nm qual : Str} {params : Arguments} {body : List Stmt} {scope : Scope} {dvs : List V} {kws : List (Str × V)} {f : Addr} {fd : FuncData} {N ps : List Str} {k : Nat} (Fd : FunD K nm qual params body scope dvs kws f fd) (S : FnScope N ps scope) {m : M Out}
    (hbody : ∀ (F : Fx) (cdv : Value) (A : Around) (outer : List Env) (s : Shared) (H : Hp) (E : XK), F.K = K → FxOk F → Room k (A.deeper (PyProof.Rows.envOfC qual scope s.heap.objs.size f cdv)) → PSs (cxOf CX0 P w K mg base N qual scope f cdv A outer s H E).nox body (tS F m)) :
    FnOk P w K mg base CX0 (k + 1) f fd ps (spF P w K ps.length (runF N.length m)) := by
  refine Fd.ok S (fun vs H Q E ⟨ws, s, A, Hd, h, _⟩ => h) fun cdv A outer s H vs Q E hr ⟨ws, s0, A0, Hd, hl, G, hw, h⟩ => ⟨tS (frF P w K H A0 Hd) m, PSs.nox (hbody _ cdv A outer s H E rfl (fun b q z => ?_) hr), ?_⟩
  · have q' : Hd b ≠ none := q
    have z' : H b = none := z
    cases e : Hd b with
    | none => exact q' e
    | some o => rw [G.le b o e] at z'; cases z'
  · have hwl : vs.length = ws.length := All2.len hw
    have hN : ps.length ≤ N.length := by have := congrArg List.length S.pre; rw [List.length_take] at this; omega
    have G0 : Good (frF P w K H A0 Hd) (L2.start N vs) H (ws.map Sl.w ++ List.replicate (N.length - ws.length) Sl.un) s0 A0 Hd := by
      refine ⟨G.le, ?_, G.shl, G.sh, G.nd, G.pre, G.new, G.keep, fun i c q => ?_, fun i j o o' a q => ?_, G.hdr⟩
      · unfold L2.start
        rw [List.length_append, List.length_append, List.length_map, List.length_map, List.length_replicate, List.length_replicate]
        omega
      · by_cases z : i < ws.length
        · rw [List.getElem?_append_left (by simpa using z), List.getElem?_map] at q
          cases e : ws[i]? with
          | none => rw [e] at q; cases q
          | some u =>
            rw [e] at q; cases q
            obtain ⟨x, k1, k2⟩ := All2.get hw e
            refine ⟨x, ?_, k2⟩
            unfold L2.start
            rw [List.getElem?_append_left (by rw [List.length_map]; omega), List.getElem?_map, k1]; rfl
        · rw [List.getElem?_append_right (by simpa using Nat.le_of_not_lt z), List.getElem?_replicate] at q
          split at q
          · cases q; trivial
          · cases q
      · exfalso
        by_cases z : i < ws.length
        · rw [List.getElem?_append_left (by simpa using z), List.getElem?_map] at q
          cases e : ws[i]? with
          | none => rw [e] at q; cases q
          | some u => rw [e] at q; cases q
        · rw [List.getElem?_append_right (by simpa using Nat.le_of_not_lt z), List.getElem?_replicate] at q
          split at q <;> cases q
    refine ⟨_, s0, A0, Hd, G0, Le.zero, ?_⟩
    unfold runF at h
    cases e1 : m (ws.map Sl.w ++ List.replicate (N.length - ws.length) Sl.un) s0 with
    | no => rw [e1] at h; exact h
    | ok o r1 s1 =>
      rw [e1] at h
      intro σ1 H1 A1 Hd1 G1 p1 l1
      cases o with
      | nx => exact h .non H1 A1 Hd1 G1.drop p1 l1 ⟨.non, by rw [PyData.canLay0]⟩
      | bk => exact h.elim
      | ct => exact h.elim
      | rt v =>
        dsimp only at h
        intro x kx
        cases v with
        | w w' => exact h x H1 A1 Hd1 G1.drop p1 l1 kx
        | fr o =>
          obtain ⟨a, k1, k2, k3, k4, k5, _⟩ := kx
          exact h x H1 A1 Hd1 G1.drop p1 l1 ⟨a, k1, k2, k3, k4, k5, fun i o' q => by simp at q⟩
        | pk i =>
          have kx' : σ1[i]? = some (some x) := kx
          simp only [retV] at h
          cases q : r1[i]? with
          | none => rw [q] at h; exact h.elim
          | some c =>
            rw [q] at h
            cases c with
            | un => exact h.elim
            | w w' =>
              obtain ⟨y, k1, k2⟩ := G1.env i _ q
              rw [kx'] at k1; cases k1
              exact h x H1 A1 Hd1 G1.drop p1 l1 k2
            | ow o =>
              obtain ⟨a, k1, k2, k3, k4, k5⟩ := G1.env i _ q
              rw [kx'] at k1; cases k1
              exact h _ H1 A1 Hd1 G1.drop p1 l1 ⟨a, rfl, k2, k3, k4, k5, fun i o' q => by simp at q⟩
end
end Mi
set_option Elab.async false
set_option linter.all false
set_option maxRecDepth 100000
/-! M13: parallel stores, targets, zip, dict comprehensions, chains. -/
namespace Mi
open PySem L2
section
variable {F : Fx} {X : Cx} {σ : L2.St} {H : Hp} {r : Rho} {s : Sto} {A : List Addr} {Hd : Hp} {x : V} {Q : VK}
/-! ### a, b = x, y -/
theorem Good.unset (G : Good F σ H r s A Hd) {i : Nat} {v : Option V} (h : r[i]? = some .un ∨ r.length ≤ i) : Good F (σ.set i v) H r s A Hd := by
  refine ⟨G.le, by rw [List.length_set]; exact G.len, G.shl, G.sh, G.nd, G.pre, G.new, G.keep, fun j c q => ?_, fun j k o1 o2 b q1 q2 e1 e2 => ?_, G.hdr⟩
  · by_cases z : j = i
    · subst z
      rcases h with h | h
      · rw [h] at q; cases q; trivial
      · have := (List.getElem?_eq_some_iff.mp q).1; omega
    · rw [List.getElem?_set_ne (Ne.symm z)]; exact G.env j c q
  · have n : ∀ {j : Nat} {o : OD}, r[j]? = some (.ow o) → j ≠ i := fun {j o} q z => by
      subst z
      rcases h with h | h
      · rw [h] at q; cases q
      · have := (List.getElem?_eq_some_iff.mp q).1; omega
    exact G.sep j k o1 o2 b q1 q2 (set_oldσ e1 (n q1)) (set_oldσ e2 (n q2))
/-- a, b = x, y where the values are data or at rest -/
def paM (is : List Nat) (ms : List (M Rv)) : M Out := M.bind (evs ms) fun vs => M.bind (restWs vs) fun ws => fun r s => .ok .nx ((is.zip ws).foldl (fun r p => r.set p.1 (.w p.2)) r) s
theorem pa2_ok {i j : Nat} {ms : List (M Rv)} {D : Ends} (h : tS F (paM [i, j] ms) D σ H) (hl : ms.length = 2) : tPar i j (tIs F (evs ms)) D σ H := by
  obtain ⟨r, s, A, Hd, G, _, h⟩ := h
  refine ⟨r, s, A, Hd, G, ?_⟩
  unfold paM at h
  cases e1 : evs ms r s with
  | no => rw [Rs.bind_no e1] at h; exact h
  | ok vs r1 s1 =>
    rw [Rs.bind_ok e1] at h
    intro xs H1 A1 Hd1 G1 p1 l1 k1
    cases e2 : restWs vs r1 s1 with
    | no => rw [Rs.bind_no e2] at h; exact h.elim
    | ok ws r2 s2 =>
      rw [Rs.bind_ok e2] at h
      obtain ⟨rfl, Hd2, G2, l2, k2⟩ := G1.restWs k1 e2
      have n1 : xs.length = 2 := by rw [k1.len, evs_len e1, hl]
      match xs, n1 with
      | [x, y], _ =>
        match ws, k2 with
        | [u, v], k2 =>
          exact ⟨x, y, rfl, h _ H1 A1 Hd2 ((G2.setW k2.1 i).setW k2.2.1 j) p1 (l1.tr l2)⟩
        | [], k2 => exact k2.elim
        | [_], k2 => exact k2.2.elim
        | _ :: _ :: _ :: _, k2 => exact k2.2.2.elim
theorem ps_pa2I {i j : Nat} {y z : Str} {a b : Expr} {ms : List (M Rv)} {px py pt pos : Pos} {kt k2 pt2} (hc : X.calm = true) (hN : X.N.Nodup) (hi : X.N[i]? = some y) (hj : X.N[j]? = some z) (hij : i ≠ j)
    (hx : X.env.scope.names.lookup y = some .local) (hy : X.env.scope.names.lookup z = some .local) (ha : PA X [a, b] (tIs F (evs ms))) (hl : ms.length = 2)
    (hw : swappedStores [.Tuple [.Name y px, .Name z py] kt pt] (.Tuple [a, b] k2 pt2) X.env = pure (some [y, z]))
    (hs : swapsWithSole [.Tuple [.Name y px, .Name z py] kt pt] (.Tuple [a, b] k2 pt2) pos.line X.env = pure false := by rfl) :
    PS X (.Assign [.Tuple [.Name y px, .Name z py] kt pt] (.Tuple [a, b] k2 pt2) pos) (tS F (paM [i, j] ms)) := PS.imp (ps_par hc hN hi hj hij hx hy ha hw hs) fun D σ H h => pa2_ok h hl
/-! each a new container -/
def evF : List (M Rv) → M (List OD)
  | [] => M.pure []
  | m :: ms => M.bind m fun v => match v with
    | .fr o => M.bind (evF ms) fun os => M.pure (o :: os)
    | _ => fail
def FrL (F : Fx) (σ : L2.St) (H Hd : Hp) (A : List Addr) (r : Rho) : List V → List OD → Prop
  | [], [] => True
  | x :: xs, o :: os => RvR F σ H Hd A r x (.fr o) ∧ (∀ y ∈ xs, y ≠ x) ∧ FrL F σ H Hd A r xs os
  | _, _ => False
def tFr (F : Fx) (ms : List (M Rv)) : TA := fun σ H Q => ∃ r s A Hd, Good F σ H r s A Hd ∧ FxOk F ∧ match evF ms r s with
  | .ok os r' s' => ∀ xs H' A' Hd', Good F σ H' r' s' A' Hd' → A <+: A' → Le Hd Hd' → FrL F σ H' Hd' A' r' xs os → Q xs H'
  | .no => False
theorem FrL.unpin {D : Addr} {u : HO} (h0 : F.H0 D = none) : ∀ {xs : List V} {os : List OD}, FrL (F.at D u) σ H Hd A r xs os → FrL F σ H Hd A r xs os ∧ ∀ y ∈ xs, y ≠ .ref D
  | [], [], _ => ⟨trivial, fun y h => by cases h⟩
  | x :: xs, o :: os, h => by
    obtain ⟨h1, h2, h3⟩ := h
    obtain ⟨k1, k2⟩ := FrL.unpin h0 h3
    obtain ⟨a, rfl, q1, q2, q3, q4, q5⟩ := h1
    have q3' : upd F.H0 D u a = none := q3
    have ne : a ≠ D := fun z => by rw [z, upd_same] at q3'; cases q3'
    rw [upd_ne ne] at q3'
    refine ⟨⟨⟨a, rfl, q1, q2, q3', RepO.k (F1 := F.at D u) (F2 := F) rfl q4, q5⟩, h2, k1⟩, fun y hy => ?_⟩
    rcases List.mem_cons.mp hy with z | z
    · rw [z]; intro e; exact ne (V.ref.inj e)
    · exact k2 y z
  | [], _ :: _, h => h.elim
  | _ :: _, [], h => h.elim
theorem pa_frN : PA X [] (tFr F []) := PA.imp pa_nil fun σ H Q ⟨r, s, A, Hd, G, _, h⟩ => h [] H A Hd G (List.prefix_refl _) Le.rfl trivial
theorem pa_frC {e : Expr} {es : List Expr} {m : M Rv} {ms : List (M Rv)} (hK : F.K = X.K) (he : PE X e (tI F m)) (hs : ∀ F', F'.K = X.K → FxOk F' → PA X es (tFr F' ms)) (hst : starEach (e :: es) X.env = (false, eval e X.env) :: starEach es X.env := by rfl) : PA X (e :: es) (tFr F (m :: ms)) := by
  refine ⟨fun pos pins s σ H Q I h => (pa_cons (t := fun σ H Q => ∃ F', F'.K = X.K ∧ FxOk F' ∧ tFr F' ms σ H Q) he ⟨fun pos pins s σ H Q I ⟨F', e1, e2, q⟩ => (hs F' e1 e2).run pos pins s σ H Q I q⟩ hst).run pos pins s σ H Q I ?_⟩
  obtain ⟨r, s, A, Hd, G, hF, h⟩ := h
  refine ⟨r, s, A, Hd, G, ?_⟩
  simp only [evF] at h
  cases e1 : m r s with
  | no => rw [Rs.bind_no e1] at h; exact h
  | ok v r1 s1 =>
    rw [Rs.bind_ok e1] at h
    intro x H1 A1 Hd1 G1 p1 l1 k1
    cases v with
    | w w => exact h.elim
    | pk i => exact h.elim
    | fr o =>
      obtain ⟨a, rfl, q1, q2, q3, q4, q5⟩ := k1
      obtain ⟨u, hu⟩ := q4.some
      refine ⟨F.at a u, hK, hF.at, r1, s1, A1, Hd1, G1.pinH q3 hu q1 q2 q5, hF.at, ?_⟩
      have h' : match (M.bind (evF ms) fun os => M.pure (o :: os) : M (List OD)) r1 s1 with
        | .ok os r' s' => ∀ xs H' A' Hd', Good F σ H' r' s' A' Hd' → A <+: A' → Le Hd Hd' → FrL F σ H' Hd' A' r' xs os → Q xs H'
        | .no => False := h
      cases e2 : evF ms r1 s1 with
      | no => rw [Rs.bind_no e2] at h'; exact h'
      | ok os r2 s2 =>
        rw [Rs.bind_ok e2] at h'
        intro xs H2 A2 Hd2 G2 p2 l2 k2
        have hR : F.R0 a = none := by
          cases q : F.R0 a with
          | none => rfl
          | some o' => exact absurd q3 (hF a (by rw [q]; intro z; cases z))
        have hA : a ∉ F.A0 := fun z => by
          obtain ⟨t, ht⟩ := G1.pre
          exact q2 (ht ▸ List.mem_append_left t z)
        obtain ⟨z1, z2, z3, z4⟩ := G2.pinned hR hA
        obtain ⟨k3, k4⟩ := FrL.unpin q3 k2
        exact h' (.ref a :: xs) H2 A2 Hd2 (G2.unpin q3) (p1.trans p2) (l1.tr l2) ⟨⟨a, rfl, z2, z3, q3, q4.le l2 fun v hv => by rw [hu] at hv; cases hv; exact z1, z4⟩, k4, k3⟩
def nlM (is : List Nat) (ms : List (M Rv)) : M Out := M.bind (evF ms) fun os => fun r s => .ok .nx ((is.zip os).foldl (fun r p => r.set p.1 (.ow p.2)) r) s
theorem RvR.setN {o o' : OD} {y : V} {i : Nat} (k : RvR F σ H Hd A r y (.fr o)) (ne : y ≠ x) : RvR F (σ.set i (some x)) H Hd A (r.set i (.ow o')) y (.fr o) := by
  obtain ⟨a, rfl, q1, q2, q3, q4, q5⟩ := k
  refine ⟨a, rfl, q1, q2, q3, q4, fun j o2 q e => ?_⟩
  by_cases z : j = i
  · subst z
    have hl : j < σ.length := by
      have := (List.getElem?_eq_some_iff.mp e).1
      rwa [List.length_set] at this
    rw [List.getElem?_set_self hl] at e
    cases e
    exact ne rfl
  · exact q5 j o2 (set_old q z) (set_oldσ e z)
theorem ps_nl3I {i j l : Nat} {y1 y2 y3 : Str} {a b c : Expr} {ms : List (M Rv)} {px py pz pt pos : Pos} {kt k2 pt2} (hF : FxOk F) (hc : X.calm = true) (hN : X.N.Nodup) (hi : X.N[i]? = some y1) (hj : X.N[j]? = some y2) (hl : X.N[l]? = some y3) (hij : i ≠ j) (hil : i ≠ l) (hjl : j ≠ l)
    (hx : X.env.scope.names.lookup y1 = some .local) (hy : X.env.scope.names.lookup y2 = some .local) (hz : X.env.scope.names.lookup y3 = some .local) (ha : PA X [a, b, c] (tFr F ms)) (hm : ms.length = 3)
    (hw : swappedStores [.Tuple [.Name y1 px, .Name y2 py, .Name y3 pz] kt pt] (.Tuple [a, b, c] k2 pt2) X.env = pure (some [y1, y2, y3]))
    (hs : swapsWithSole [.Tuple [.Name y1 px, .Name y2 py, .Name y3 pz] kt pt] (.Tuple [a, b, c] k2 pt2) pos.line X.env = pure false := by rfl) :
    PS X (.Assign [.Tuple [.Name y1 px, .Name y2 py, .Name y3 pz] kt pt] (.Tuple [a, b, c] k2 pt2) pos) (tS F (nlM [i, j, l] ms)) := by
  refine PS.imp (ps_par3 hc hN hi hj hl hij hil hjl hx hy hz ha hw hs) fun D σ H ⟨r, s, A, Hd, G, _, h⟩ => ⟨r, s, A, Hd, G, hF, ?_⟩
  unfold nlM at h
  have hlen : ∀ {ms : List (M Rv)} {os : List OD} {r r' : Rho} {s s' : Sto}, evF ms r s = .ok os r' s' → os.length = ms.length := by
    intro ms
    induction ms with
    | nil => intro os r r' s s' e; cases e; rfl
    | cons m ms ih =>
      intro os r r' s s' e
      simp only [evF] at e
      obtain ⟨v, r1, s1, q, e1⟩ := bind_ok_inv e
      cases v with
      | fr o =>
        obtain ⟨os2, r2, s2, q2, e2⟩ := bind_ok_inv e1
        cases e2
        rw [List.length_cons, List.length_cons, ih q2]
      | w w => cases e1
      | pk i => cases e1
  cases e1 : evF ms r s with
  | no => rw [Rs.bind_no e1] at h; exact h
  | ok os r1 s1 =>
    rw [Rs.bind_ok e1] at h
    intro xs H1 A1 Hd1 G1 p1 l1 k1
    have n1 : os.length = 3 := by rw [hlen e1, hm]
    match os, n1 with
    | [o1, o2, o3], _ =>
      match xs, k1 with
      | [x1, x2, x3], k1 =>
        obtain ⟨a1, a2, b1, b2, c1, _, _⟩ := k1
        have n12 := a2 x2 (by simp)
        have n13 := a2 x3 (by simp)
        have n23 := b2 x3 (by simp)
        exact ⟨x1, x2, x3, rfl, h _ H1 A1 Hd1 (((G1.setO a1 i).setO (b1.setN n12) j).setO ((c1.setN n13).setN n23) l) p1 l1⟩
      | [], k1 => exact k1.elim
      | [_], k1 => exact k1.2.2.elim
      | [_, _], k1 => exact k1.2.2.2.2.elim
      | _ :: _ :: _ :: _ :: _, k1 => exact k1.2.2.2.2.2.2.elim
/-! ### targets from values -/
theorem pg_nmI {i : Nat} {y : Str} {pos : Pos} {K : PySem.W.Frag} (hN : X.N.Nodup) (hi : X.N[i]? = some y) (hx : Loc X.env.scope y) (hf : X.fn y = true ∨ X.env.scope.names.lookup y = some .local := by first | exact .inl rfl | exact .inr rfl | assumption) : PG X (.Name y pos) (gT K (.nm i)) := pg_name hN hi hx hf
theorem pgs_nilI {K : PySem.W.Frag} : PGs X [] (gTs K .nil) := pgs_nil
theorem pgs_consI {K : PySem.W.Frag} {e : Expr} {es : List Expr} {t : Tgt} {ts : Tgs} (h1 : PG X e (gT K t)) (h2 : PGs X es (gTs K ts)) (hs : (assignEach (e :: es) X.env).map (·.2) = assign e X.env :: (assignEach es X.env).map (·.2) := by rfl) : PGs X (e :: es) (gTs K (.cons t ts)) := pgs_cons h1 h2 hs
theorem pg_tpI {es : List Expr} {k : Nat} {ts : Tgs} {pos : Pos} (hc : X.calm = true) (h : PGs X es (gTs X.K ts)) (hn : (assignEach es X.env).length = ts.len := by rfl) (hst : (assignEach es X.env).findIdx? (·.1) = none := by rfl) : PG X (.Tuple es k pos) (gT X.K (.tp ts)) := pg_tup hc h hn hst
def taM (t : Tgt) (m : M Rv) : M Out := M.bind m fun v => M.bind (restD (opd v)) fun d => M.bind (tgM t d) fun _ => M.pure .nx
theorem ps_taI (hK : F.K = X.K) {tg e : Expr} {t : Tgt} {m : M Rv} {pos : Pos} (he : PE X e (tI F m)) (hg : PG X tg (gT X.K t)) (hs : swapsWithSole [tg] e pos.line X.env = pure false := by rfl) (hw : swappedStores [tg] e X.env = pure none := by rfl)
    (h1 : (assignEach [tg] X.env).map (·.2) = [assign tg X.env] := by rfl) : PS X (.Assign [tg] e pos) (tS F (taM t m)) := by
  refine PS.imp (ps_asg he hg hs hw h1) fun D σ H ⟨r, s, A, Hd, G, _, h⟩ => ⟨r, s, A, Hd, G, ?_⟩
  unfold taM at h
  cases e1 : m r s with
  | no => rw [Rs.bind_no e1] at h; exact h
  | ok v r1 s1 =>
    rw [Rs.bind_ok e1] at h
    intro x H1 A1 Hd1 G1 p1 l1 k1
    obtain ⟨Hd2, G2, l2, k2⟩ := G1.opd k1
    cases e2 : restD (opd v) r1 s1 with
    | no => rw [Rs.bind_no e2] at h; exact h.elim
    | ok d r2 s2 =>
      rw [Rs.bind_ok e2] at h
      obtain ⟨rfl, Hd3, G3, l3, k3⟩ := G2.restD k2 e2
      cases e3 : tgM t d r2 s2 with
      | no => rw [Rs.bind_no e3] at h; exact h.elim
      | ok u r3 s3 =>
        rw [Rs.bind_ok e3] at h
        obtain ⟨hset, rfl⟩ := tgM_ok e3
        rw [← hK]
        exact gT_ok hset k3 G3 fun σ' _ G' => h σ' H1 A1 Hd3 G' p1 (l1.tr (l2.tr l3))
/-! ### chains -/
theorem ch_to {o o' : CmpO} {ma mb mc : M Rv} {Q : VK} (h : tI F (chM o o' ma mb mc) σ H Q) : tChain (rCmp F o) (rCmp F o') (tI F ma) (tI F mb) (tI F mc) σ H Q := by
  obtain ⟨r, s, A, Hd, G, h⟩ := h
  refine ⟨r, s, A, Hd, G, ?_⟩
  unfold chM at h
  cases e1 : ma r s with
  | no => rw [Rs.bind_no e1] at h; exact h
  | ok va r1 s1 =>
    rw [Rs.bind_ok e1] at h
    intro x H1 A1 Hd1 G1 p1 l1 k1
    obtain ⟨Hd2, G2, l2, k2⟩ := G1.opd k1
    refine ⟨r1, s1, A1, Hd2, G2, ?_⟩
    cases e2 : mb r1 s1 with
    | no => rw [Rs.bind_no e2] at h; exact h
    | ok vb r2 s2 =>
      rw [Rs.bind_ok e2] at h
      intro y H3 A3 Hd3 G3 p3 l3 k3
      obtain ⟨Hd4, G4, l4, k4⟩ := G3.opd k3
      cases e3 : gCmp o [opd va, opd vb] r2 s2 with
      | no => rw [Rs.bind_no e3] at h; exact h.elim
      | ok k r3 s3 =>
        rw [Rs.bind_ok e3] at h
        have g := (Op2.ops (o2_cmp (F := F) o)).g
        have ka := RvR.later (r' := r2) (H' := H3) p3 (l3.tr l4) k2
        obtain ⟨x', y', e, q⟩ := g σ H3 r2 s2 A3 Hd4 [x, y] [opd va, opd vb] k r3 s3 (fun z H5 => ∃ k, z = .bl k ∧ (if k = true then tI F mc σ H5 fun w H6 => rCmp F o' y w H6 Q else Q (.bl false) H5)) G4 ⟨ka, k4, trivial⟩ e3 fun z H5 A5 Hd5 G5 p5 l5 k5 => by
          obtain ⟨b, rfl⟩ := (BlM.ofOp (two_bl (cmpC_bl o)) [opd va, opd vb]) _ _ _ _ _ e3
          have := Dv.bl (show Dv F Hd5 z (.bool b) from k5)
          refine ⟨b, this, ?_⟩
          have h' : match (M.bind (M.bind (ct (bl b)) fun c => ofOpt (truthC c)) fun t => if t = true then M.bind mc fun vc => gCmp o' [opd vb, opd vc] else M.pure (bl false) : M Rv) r3 s3 with
            | .ok v r' s' => ∀ x H' A' Hd', Good F σ H' r' s' A' Hd' → A <+: A' → Le Hd Hd' → RvR F σ H' Hd' A' r' x v → Q x H'
            | .no => False := h
          rw [Rs.bind_ok (show M.bind (ct (bl b)) (fun c => ofOpt (truthC c)) r3 s3 = .ok b r3 s3 from rfl)] at h'
          cases b with
          | false => exact fin_bl G5 fun x H' A' Hd' G' p' l' k' => h' x H' A' Hd' G' (p1.trans (p3.trans (p5.trans p'))) (l1.tr (l2.tr (l3.tr (l4.tr (l5.tr l'))))) k'
          | true =>
            refine ⟨r3, s3, A5, Hd5, G5, ?_⟩
            rw [if_pos rfl] at h'
            cases e6 : mc r3 s3 with
            | no => rw [Rs.bind_no e6] at h'; exact h'
            | ok vc r6 s6 =>
              rw [Rs.bind_ok e6] at h'
              intro w H7 A7 Hd7 G7 p7 l7 k7
              obtain ⟨Hd8, G8, l8, k8⟩ := G7.opd k7
              cases e9 : gCmp o' [opd vb, opd vc] r6 s6 with
              | no => rw [e9] at h'; exact h'.elim
              | ok v9 r9 s9 =>
                rw [e9] at h'
                have kb := RvR.later (r' := r6) (H' := H7) (p5.trans p7) (l5.tr (l7.tr l8)) k4
                obtain ⟨x'', y'', e, q⟩ := (Op2.ops (o2_cmp (F := F) o')).g σ H7 r6 s6 A7 Hd8 [y, w] [opd vb, opd vc] v9 r9 s9 Q G8 ⟨kb, k8, trivial⟩ e9 fun x H' A' Hd' G' p' l' k' => h' x H' A' Hd' G' (p1.trans (p3.trans (p5.trans (p7.trans p')))) (l1.tr (l2.tr (l3.tr (l4.tr (l5.tr (l7.tr (l8.tr l'))))))) k'
                cases e
                exact q
        cases e
        exact q
theorem pe_chI (hK : F.K = X.K) (hu : X.A.units + 65 < cLine) (o o' : CmpO) {a b c : Expr} {pos : Pos} {ma mb mc : M Rv} (ha : PE X a (tI F ma)) (hb : PE X b (tI F mb)) (hc : PE X c (tI F mc)) (hm : lastMarks [cmpO o, cmpO o'] [b, c] = false) : PE X (.Compare a [cmpO o, cmpO o'] [b, c] pos) (tI F (chM o o' ma mb mc)) :=
  PE.imp (pe_chain (op_cmpI hK hu o) (op_cmpI hK hu o') ha hb hc hm) fun σ H Q h => ch_to h
theorem bl_ch {o o' : CmpO} {ma mb mc : M Rv} : BlM (chM o o' ma mb mc) := by
  intro r s v r' s' e
  unfold chM at e
  obtain ⟨va, r1, s1, _, e1⟩ := bind_ok_inv e
  obtain ⟨vb, r2, s2, _, e2⟩ := bind_ok_inv e1
  obtain ⟨k, r3, s3, _, e3⟩ := bind_ok_inv e2
  obtain ⟨b, r4, s4, _, e4⟩ := bind_ok_inv e3
  cases b with
  | true =>
    rw [if_pos rfl] at e4
    obtain ⟨vc, r5, s5, _, e5⟩ := bind_ok_inv e4
    exact (BlM.ofOp (two_bl (cmpC_bl o')) _) _ _ _ _ _ e5
  | false =>
    rw [if_neg (by decide)] at e4
    cases e4
    exact ⟨false, rfl⟩
theorem pt_chI (hK : F.K = X.K) (hu : X.A.units + 65 < cLine) (o o' : CmpO) {a b c : Expr} {pos : Pos} {ma mb mc : M Rv} (ha : PE X a (tI F ma)) (hb : PE X b (tI F mb)) (hc : PE X c (tI F mc)) (hm : lastMarks [cmpO o, cmpO o'] [b, c] = false) : PT X (.Compare a [cmpO o, cmpO o'] [b, c] pos) (tTI F (truM (chM o o' ma mb mc))) :=
  PT.imp (pt_chain (op_cmpI hK hu o) (op_cmpI hK hu o') ha hb hc hm) fun σ H Q h => ch_to (tI_bl bl_ch h)

/-! ### zip of two lists or two tuples -/
def zipD (xs ys : List PyData) : List PyData := (xs.zip ys).map fun p => .tuple [p.1, p.2]
/-- both of one make -/
def zip2 : PyData → PyData → Option (List PyData)
  | .list xs, .list ys => some (zipD xs ys)
  | .tuple xs, .tuple ys => some (zipD xs ys)
  | _, _ => none
def zipM (m1 m2 : M Rv) : M (List PyData) := M.bind (evs [m1, m2]) fun vs => M.bind (restDs vs) fun ds => match ds with
  | [a, b] => ofOpt (zip2 a b)
  | _ => fail
theorem zip_ok {J : It} {vs us : List V} {xs ys : List PyData} (h1 : DvAll F Hd vs xs) (h2 : DvAll F Hd us ys)
    (hgo : ∀ i H, (∀ σ r s A Hd' (F' : Fx), F'.K = F.K → Le Hd Hd' → Good F' σ H r s A Hd' → ∀ x y, vs[i]? = some x → us[i]? = some y → J.go i H))
    (hy : ∀ i H v H', (∀ σ r s A Hd' (F' : Fx), F'.K = F.K → Le Hd Hd' → Good F' σ H r s A Hd' → J.yld i H v H' → ∃ T x y, v = .ref T ∧ H T = none ∧ H' = upd H T (.tup [x, y]) ∧ vs[i]? = some x ∧ us[i]? = some y))
    (hst : ∀ i H, (∀ σ r s A Hd' (F' : Fx), F'.K = F.K → Le Hd Hd' → Good F' σ H r s A Hd' → (vs.length ≤ i ∨ us.length ≤ i) → J.stop i H)) : ItOk F.K Hd J (zipD xs ys) := by
  have hl : (zipD xs ys).length = min xs.length ys.length := by unfold zipD; rw [List.length_map, List.length_zip]
  have l1 := h1.len
  have l2 := h2.len
  refine ⟨fun F1 eK i σ H' r s A Hd' l G hi => ?_, fun F1 eK i σ H' r s A Hd' x H2 l G hi y => ?_, fun F1 eK i σ H' r s A Hd' l G hi => ?_⟩
  · rw [hl] at hi
    obtain ⟨a, k1, _⟩ := h1.get (List.getElem?_eq_getElem (show i < xs.length by omega))
    obtain ⟨b, k2, _⟩ := h2.get (List.getElem?_eq_getElem (show i < ys.length by omega))
    exact hgo i H' σ r s A Hd' F1 eK l G a b k1 k2
  · obtain ⟨T, a, b, rfl, hT, rfl, k1, k2⟩ := hy i H' x H2 σ r s A Hd' F1 eK l G y
    rw [hl] at hi
    obtain ⟨a', q1, d1⟩ := h1.get (List.getElem?_eq_getElem (show i < xs.length by omega))
    obtain ⟨b', q2, d2⟩ := h2.get (List.getElem?_eq_getElem (show i < ys.length by omega))
    rw [k1] at q1; cases q1
    rw [k2] at q2; cases q2
    obtain ⟨G2, e2⟩ := G.data (u := .tup [a, b]) hT
    have dd : DvAll F1 (upd Hd' T (.tup [a, b])) [a, b] [xs[i], ys[i]] := DvAll.cons (dvK eK.symm (d1.le (l.tr e2))) (DvAll.cons (dvK eK.symm (d2.le (l.tr e2))) DvAll.nil)
    refine ⟨_, .tuple [xs[i], ys[i]], G2, e2, ?_, ⟨.tup (SqT.of upd_same) (fun _ => upd_same) dd.1, cl_tup.trans dd.2⟩⟩
    unfold zipD
    rw [List.getElem?_map, (List.getElem?_zip_eq_some (z := (xs[i], ys[i]))).mpr ⟨List.getElem?_eq_getElem (by omega), List.getElem?_eq_getElem (by omega)⟩]
    rfl
  · rw [hl] at hi
    exact hst i H' σ r s A Hd' F1 eK l G (by omega)
end
end Mi
set_option Elab.async false
set_option linter.all false
set_option maxRecDepth 100000
/-! M14: zip, enumerate over tuples, dict comprehensions. -/
namespace Mi
open PySem L2
section
variable {F : Fx} {X : Cx} {σ : L2.St} {H : Hp} {r : Rho} {s : Sto} {A : List Addr} {Hd : Hp} {x : V} {Q : VK}
theorem pi_zipI (hK : F.K = X.K) {e e2 : Expr} {p pos tpos : Pos} {elts : List Expr} {kk : Nat} {m1 m2 : M Rv} (hg : Gl X "zip") (hm : X.mg "zip" = none) (ha : PA X [e, e2] (tIs F (evs [m1, m2])))
    (hs : starEach [e, e2] X.env = (false, eval e X.env) :: starEach [e2] X.env := by rfl) (hpl : (backTo pos (starEach [e2] X.env)).any (·.1) = false := by rfl) : PI X (.Tuple elts kk tpos) (.Call (.Name "zip" p) [e, e2] [] pos) (iI F (zipM m1 m2)) := by
  refine PI.imp (RZ.pi_zipA hg hm ha hs hpl) fun σ H R ⟨r, s, A, Hd, G, h⟩ => ⟨r, s, A, Hd, G, ?_⟩
  unfold zipM at h
  cases e1 : evs [m1, m2] r s with
  | no => rw [Rs.bind_no e1] at h; exact h
  | ok vs r1 s1 =>
    rw [Rs.bind_ok e1] at h
    intro xs H1 A1 Hd1 G1 p1 l1 k1
    cases e2 : restDs vs r1 s1 with
    | no => rw [Rs.bind_no e2] at h; exact h.elim
    | ok ds r2 s2 =>
      rw [Rs.bind_ok e2] at h
      obtain ⟨rfl, Hd2, G2, l2, k2⟩ := G1.restDs k1 e2
      match ds, xs, k2 with
      | [a, b], [x, y], k2 =>
        dsimp only at h
        cases q : zip2 a b with
        | none => rw [q] at h; exact h.elim
        | some zs =>
          rw [q] at h
          obtain ⟨d1, d2⟩ := k2
          have c := cl_all.mp d2
          cases d1 with
          | cons ka kt =>
            cases kt with
            | cons kb kn =>
              have da : Dv F Hd2 x a := ⟨ka, c a (by simp)⟩
              have db : Dv F Hd2 y b := ⟨kb, c b (by simp)⟩
              unfold zip2 at q
              split at q
              · cases q
                obtain ⟨p, vs, rfl, z1, z2⟩ := da.lst
                obtain ⟨p', us, rfl, z3, z4⟩ := db.lst
                have uni : ∀ {F1 : Fx} {H' Hd' : Hp} {σ r s A}, Le Hd2 Hd' → Good F1 σ H' r s A Hd' → SqL X.K H' p vs ∧ SqL X.K H' p' us := fun l G => ⟨.inl (Rd.of (G.le _ _ (l _ _ z1))), .inl (Rd.of (G.le _ _ (l _ _ z3)))⟩
                refine ⟨p, p', vs, us, rfl, .inl ⟨(uni Le.rfl G2).1, (uni Le.rfl G2).2, h H1 A1 Hd2 _ G2 p1 (l1.tr l2) (zip_ok z2 z4 (fun i H σ r s A Hd' F' eK l G x y q1 q2 => ⟨vs, us, x, y, (uni l G).1, (uni l G).2, q1, q2⟩) (fun i H v H' σ r s A Hd' F' eK l G yy => ?_) (fun i H σ r s A Hd' F' eK l G q => ⟨vs, us, (uni l G).1, (uni l G).2, q⟩))⟩⟩
                obtain ⟨T, x, y, e1, e2, e3, e4, e5⟩ := yy
                exact ⟨T, x, y, e1, e2, e3, e4 vs (uni l G).1, e5 us (uni l G).2⟩
              · cases q
                obtain ⟨p, vs, rfl, z1, z2⟩ := da.tup
                obtain ⟨p', us, rfl, z3, z4⟩ := db.tup
                have uni : ∀ {F1 : Fx} {H' Hd' : Hp} {σ r s A}, Le Hd2 Hd' → Good F1 σ H' r s A Hd' → SqT X.K H' p vs ∧ SqT X.K H' p' us := fun l G => ⟨by rw [← hK]; exact G.le.sqt (l.sqt z1), by rw [← hK]; exact G.le.sqt (l.sqt z3)⟩
                refine ⟨p, p', vs, us, rfl, .inr ⟨(uni Le.rfl G2).1, (uni Le.rfl G2).2, h H1 A1 Hd2 _ G2 p1 (l1.tr l2) (zip_ok z2 z4 (fun i H σ r s A Hd' F' eK l G x y q1 q2 => ⟨vs, us, x, y, (uni l G).1, (uni l G).2, q1, q2⟩) (fun i H v H' σ r s A Hd' F' eK l G yy => ?_) (fun i H σ r s A Hd' F' eK l G q => ⟨vs, us, (uni l G).1, (uni l G).2, q⟩))⟩⟩
                obtain ⟨T, x, y, e1, e2, e3, e4, e5⟩ := yy
                exact ⟨T, x, y, e1, e2, e3, e4 vs (uni l G).1, e5 us (uni l G).2⟩
              · cases q
      | [], _, _ => exact h.elim
      | [_], _, _ => exact h.elim
      | _ :: _ :: _ :: _, _, _ => exact h.elim
      | [_, _], [], k2 => cases k2.1
      | [_, _], [_], k2 => cases k2.1 with | cons _ t => cases t
      | [_, _], _ :: _ :: _ :: _, k2 => cases k2.1 with | cons _ t => cases t with | cons _ t => cases t
end
/-! ### enumerate of a tuple -/
section
open PySem.Spec PyProof.Rows
set_option maxHeartbeats 1000000 in
theorem meets_enumT (t : Addr) (items : Array Value) :
    Meets (Builtin.«enumerate.__new__» ⟨[.type "enumerate", .ref t], []⟩) (fun _ R s => s.heap.IsTuple t items ∧
      R (.ok (.ret (.ref (s.heap.push { cls := .type "tuple_iterator", data := .fields #[.ref t, .int 0 0] }).objs.size)))
        { s with heap := (s.heap.push { cls := .type "tuple_iterator", data := .fields #[.ref t, .int 0 0] }).push { cls := .type "enumerate", data := .fields #[.none, .bool false, .ref s.heap.objs.size, rawInt 0, .none, .none] } }) :=
  .of_wp fun prog w A R s ⟨hL, h⟩ => by
    obtain ⟨hp, g, d, tk, os⟩ := s
    have hsub := sub_enumerate
    obtain ⟨ol, hol, hcl, nl, hdl⟩ := id hL
    have hl : hp.get? t = some ol := hol
    wp_walk
    refine wpAny_stack_any fun st => wpAny_pure ?_
    split
    · rename_i c _ _ _ _ _
      cases (c == Value.type "enumerate")
      · wp_walk using wpAny_loadPart' hl, wpAny_pyIter_tuple hL
        exact ⟨_, rfl, h⟩
      · wp_walk using wpAny_loadPart' hl, wpAny_pyIter_tuple hL
        exact ⟨_, rfl, h⟩
    · wp_walk using wpAny_loadPart' hl, wpAny_pyIter_tuple hL
      exact ⟨_, rfl, h⟩
theorem call_enumT {prog : Program} {w : World} {A : Around} {E : Value → Shared → Prop} {s : Shared} {t : Addr} {items : Array Value} {Q : Value → Shared → Prop} (hL : s.heap.IsTuple t items)
    (h : ∀ h', IsEnum h' (s.heap.objs.size + 1) s.heap.objs.size 0 .none → h'.IsTupleIter s.heap.objs.size t 0 → (∀ b o, s.heap.get? b = some o → h'.get? b = some o) → Q (.ref (s.heap.objs.size + 1)) { s with heap := h' }) :
    wpAny (model prog w) A (call (.type "enumerate") [.ref t]) Q E s := by
  refine callType_new F.called_enumerate (by decide) (F.typeCall_enumerate_1 _) (F.newCall_enumerate_1 _) (fun obj => F.args_object_init_2 obj _) F.entry_enumerate_new (meets_enumT t items) ⟨hL, ?_⟩
  have hz : (s.heap.push { cls := .type "tuple_iterator", data := .fields #[.ref t, .int 0 0] }).objs.size = s.heap.objs.size + 1 := Heap.size_push ..
  show _ ∧ _
  rw [hz]
  have he : IsEnum ((s.heap.push { cls := .type "tuple_iterator", data := .fields #[.ref t, .int 0 0] }).push
      { cls := .type "enumerate", data := .fields #[.none, .bool false, .ref s.heap.objs.size, rawInt 0, .none, .none] }) (s.heap.objs.size + 1) s.heap.objs.size 0 .none := by
    have := Heap.get?_push_size (s.heap.push { cls := .type "tuple_iterator", data := .fields #[.ref t, .int 0 0] })
      (o := { cls := .type "enumerate", data := .fields #[.none, .bool false, .ref s.heap.objs.size, rawInt 0, .none, .none] }) rfl
    rw [hz] at this; exact this
  exact ⟨⟨_, he, rfl⟩, h _ he ⟨_, Heap.get?_push_of_some _ (Heap.get?_push_size _ rfl), rfl, rfl⟩ fun b o x => Heap.get?_push_of_some _ (Heap.get?_push_of_some _ x)⟩
end
/-- each item of the tuple in a new pair -/
def IteT (K : PySem.W.Frag) (a : Addr) : It :=
  ⟨fun i H => ∃ (xs : List V) (x : V), SqT K H a xs ∧ xs[i]? = some x, fun i H v H' => ∃ T x, v = .ref T ∧ H T = none ∧ H' = upd H T (.tup [.int (i : Nat), x]) ∧ ∀ xs, SqT K H a xs → xs[i]? = some x, fun i H => ∃ xs : List V, SqT K H a xs ∧ i = xs.length⟩
theorem turn_enumT {P : Program} {w : World} {K : PySem.W.Frag} {elts : List Expr} {kk : Nat} {tpos : Pos} (a e it : Addr) (n : Nat) (hae : a ≠ it) (hea : e ≠ a) :
    Turn P w K (.Tuple elts kk tpos) (IteT K a) [e, it] e (fun i h => (∃ old, IsEnum h e it ((i : Nat) : Int) old) ∧ h.IsTupleIter it a i ∧ e ≠ it) where
  mem := List.mem_cons_self
  obj := fun i h st b hb => by
    obtain ⟨⟨old, he⟩, ⟨o, ho, hc, hd⟩, _⟩ := st
    rcases List.mem_cons.mp hb with z | hb
    · rw [z]; exact ⟨_, he, fun v q => nomatch q⟩
    · rw [List.mem_singleton.mp hb]
      exact ⟨o, ho, fun v q => by rw [hd] at q; cases q⟩
  keep := fun i h h' st k => by
    obtain ⟨⟨old, he⟩, hi, hne⟩ := st
    exact ⟨⟨old, k e List.mem_cons_self _ he⟩, hi.at fun o q => k it (List.mem_cons_of_mem _ List.mem_cons_self) o q, hne⟩
  item := by
    intro X hP hw hK hc i pins s σ H E I hf st hg
    subst hP hw hK
    obtain ⟨⟨old, he⟩, hit, hne⟩ := st
    obtain ⟨xs, x, hq, hx⟩ := hg
    obtain ⟨its, rv, p, hz⟩ := I.tuple hq
    obtain ⟨u, hu, ru⟩ := rv.get hx
    have hel : e < s.heap.objs.size := Heap.lt_size he
    have hil : it < s.heap.objs.size := by obtain ⟨_, q, _⟩ := hit; exact Heap.lt_size q
    have hlt : i < its.toArray.size := by
      have := (List.getElem?_eq_some_iff.mp hu).1
      simpa using this
    have hef : e ∉ [it, a] := fun z => by
      rcases List.mem_cons.mp z with z | z
      · exact hne z
      · exact hea (List.mem_singleton.mp z)
    refine wpAny_pyNext_enum_itemD (Draws.tuple (A := X.A.in1) (I.ok.hd hc) it a hae its.toArray) he ⟨hit, p⟩ hlt hne hef fun v h' tk hv ho hst hT hsz hk => ?_
    have ev : v = u := by
      have : its[i]? = some v := by simpa using hv
      rw [hu] at this
      exact (Option.some.inj this).symm
    subst ev
    refine ⟨_, rfl, wpAny_letOwnedTupleGo_enum (s := { s with heap := h', toks := tk + 1 }) ho fun h'' he' sb => ?_⟩
    have hT2 : h''.get? s.heap.objs.size = some { cls := .type "tuple", data := .seq #[.int i tk, v] } := (sb.2 _ (Nat.ne_of_gt hel)).trans hT
    have new : ObjOk X.prog X.w (upd H s.heap.objs.size (.tup [.int (i : Nat), x])) h'' s.heap.objs.size (.tup [.int (i : Nat), x]) :=
      ⟨by show 2 ≤ sizeLine; decide, [.int i tk, v], .cons ⟨_, rfl⟩ (.cons ru .nil), ⟨_, hT2, rfl, _, rfl⟩⟩
    have I1 : Inv X pins σ (upd H s.heap.objs.size (.tup [.int (i : Nat), x])) { s with heap := h'', toks := tk + 1 } :=
      I.turnedNew (ch := [e, it]) (fun b ob hb q => (sb.2 b (fun z => hb (by rw [z]; exact List.mem_cons_self))).trans (hk b ob (fun z => hb (by rw [z]; exact List.mem_cons_self)) (fun z => hb (by rw [z]; exact List.mem_cons_of_mem _ List.mem_cons_self)) q)) hf (Nat.le_refl _) new
    refine ⟨.ref s.heap.objs.size, _, I1, rfl, ⟨_, x, rfl, I.hok.fresh (Nat.le_refl _), rfl, fun ys hy => ?_⟩, ⟨⟨v, ?_⟩, hst.1.at fun o q => (sb.2 it (Ne.symm hne)).trans q, hne⟩, fun b hb => ?_⟩
    · have e2 : ys = xs := I.tuple_inj hy hq
      rw [e2]; exact hx
    · have e1 : ((i + 1 : Nat) : Int) = (i : Int) + 1 := by omega
      rw [e1]; exact he'
    · have hb' : b < s.heap.objs.size := by
        rcases List.mem_cons.mp hb with z | z
        · rw [z]; exact hel
        · rw [List.mem_singleton.mp z]; exact hil
      rw [upd_ne (Nat.ne_of_lt hb')]
      exact (hf b hb).1
  done := by
    intro X hP hw hK hc i pins s σ H E I hf st hg
    subst hP hw hK
    obtain ⟨⟨old, he⟩, hit, hne⟩ := st
    obtain ⟨xs, hq, hi⟩ := hg
    obtain ⟨its, rv, p, hz⟩ := I.tuple hq
    obtain ⟨f0, f1, f2, f3, f4, f5⟩ := hf it (List.mem_cons_of_mem _ List.mem_cons_self)
    have hn : i = its.toArray.size := by rw [List.size_toArray, ← rv.length]; exact hi
    subst hn
    exact wpAny_pyNext_enum_endD (Draws.tuple (A := X.A.in1) (I.ok.hd hc) it a hae its.toArray) he ⟨hit, p⟩ fun h' eb => ⟨rfl, I.turned (t' := s.toks) (fun b o hb q => eb b o hb q) f0 f1 f3 f4 f5⟩
  self := fun A i s Q E st h => let ⟨⟨_, he⟩, _⟩ := st; wpAny_pyIter_enum he h
/-! both makes -/
def iEn2 (K : PySem.W.Frag) (te : TE) : TI := fun σ H R => te σ H fun x H1 => ∃ a xs, x = .ref a ∧ SqT K H1 a xs ∧ R (IteT K a) H1
theorem pi_enT {X : Cx} {e : Expr} {te : TE} {p pos tpos : Pos} {elts : List Expr} {kk : Nat} (hg : Gl X "enumerate") (hm : X.mg "enumerate" = none) (he : PE X e te) (hs : starEach [e] X.env = [(false, eval e X.env)] := by rfl) (hs0 : starEach [e] X.env = (false, eval e X.env) :: starEach [] X.env := by rfl) :
    PI X (.Tuple elts kk tpos) (.Call (.Name "enumerate" p) [e] [] pos) (iEn2 X.K te) := by
  refine ⟨fun pins s σ H R I h => ?_⟩
  refine PyProof.Rows.Call_ (ld_blt I hg hm PyProof.Rows.boot_enumerate (PyProof.Rows.callWith_type1 (thn ((pa_cons he pa_nil hs0).run pos pins s σ H (fun vs H1 => match vs with | [x] => ∃ a xs, x = .ref a ∧ SqT X.K H1 a xs ∧ R (IteT X.K a) H1 | _ => False) I h) fun us s1 ⟨vs, H1, I1, r1, q1⟩ => ?_) hs rfl))
  match vs, q1 with
  | [x], q1 =>
    obtain ⟨a, xs, ea, hq, q⟩ := q1
    subst ea
    obtain ⟨u, rfl, rx⟩ := vals1 r1
    cases rx
    obtain ⟨its, rv, p', hz⟩ := I1.tuple hq
    have hal : a < s1.heap.objs.size := p'.lt
    refine call_enumT (show s1.heap.IsTuple a its.toArray from p') fun h' he' hit hk => wpAny_pyIter_enum he' ?_
    have I2 : Inv X pins σ H1 { s1 with heap := h' } := I1.kept (t' := s1.toks) hk
    refine ⟨s1.heap.objs.size + 1, [s1.heap.objs.size + 1, s1.heap.objs.size], _, _, H1, rfl, I2, turn_enumT a (s1.heap.objs.size + 1) s1.heap.objs.size its.length (Nat.ne_of_lt hal) (Nat.ne_of_gt (Nat.lt_succ_of_lt hal)), ⟨⟨.none, he'⟩, hit, Nat.succ_ne_self _⟩, fun b hb => ?_, q⟩
    have hle : s1.heap.objs.size ≤ b := by
      rcases List.mem_cons.mp hb with z | z
      · rw [z]; exact Nat.le_add_right _ _
      · rw [List.mem_singleton.mp z]; exact Nat.le_refl _
    exact I1.fpOk hle (I1.hok.fresh hle)
section
variable {F : Fx} {X : Cx} {σ : L2.St} {H : Hp} {r : Rho} {s : Sto} {A : List Addr} {Hd : Hp} {x : V} {Q : VK}
def enD (xs : List PyData) : List PyData := xs.zipIdx.map fun p => .tuple [.int (p.2 : Nat), p.1]
theorem enD_get {xs : List PyData} {i : Nat} (h : i < xs.length) : (enD xs)[i]? = some (.tuple [.int (i : Nat), xs[i]]) := by
  unfold enD
  rw [List.getElem?_map, List.getElem?_zipIdx, List.getElem?_eq_getElem h]
  simp
theorem en_ok {J : It} {vs : List V} {xs : List PyData} (h1 : DvAll F Hd vs xs)
    (hgo : ∀ i H, (∀ σ r s A Hd' (F' : Fx), F'.K = F.K → Le Hd Hd' → Good F' σ H r s A Hd' → ∀ x, vs[i]? = some x → J.go i H))
    (hy : ∀ i H v H', (∀ σ r s A Hd' (F' : Fx), F'.K = F.K → Le Hd Hd' → Good F' σ H r s A Hd' → J.yld i H v H' → ∃ T x, v = .ref T ∧ H T = none ∧ H' = upd H T (.tup [.int (i : Nat), x]) ∧ vs[i]? = some x))
    (hst : ∀ H, (∀ σ r s A Hd' (F' : Fx), F'.K = F.K → Le Hd Hd' → Good F' σ H r s A Hd' → J.stop vs.length H)) : ItOk F.K Hd J (enD xs) := by
  have hl : (enD xs).length = xs.length := by unfold enD; rw [List.length_map, List.length_zipIdx]
  have l1 := h1.len
  refine ⟨fun F1 eK i σ H' r s A Hd' l G hi => ?_, fun F1 eK i σ H' r s A Hd' x H2 l G hi y => ?_, fun F1 eK i σ H' r s A Hd' l G hi => ?_⟩
  · rw [hl] at hi
    obtain ⟨a, k1, _⟩ := h1.get (List.getElem?_eq_getElem hi)
    exact hgo i H' σ r s A Hd' F1 eK l G a k1
  · obtain ⟨T, a, rfl, hT, rfl, k1⟩ := hy i H' x H2 σ r s A Hd' F1 eK l G y
    rw [hl] at hi
    obtain ⟨a', q1, d1⟩ := h1.get (List.getElem?_eq_getElem hi)
    rw [k1] at q1; cases q1
    obtain ⟨G2, e2⟩ := G.data (u := .tup [.int (i : Nat), a]) hT
    have dd : DvAll F1 (upd Hd' T (.tup [.int (i : Nat), a])) [.int (i : Nat), a] [.int (i : Nat), xs[i]] := DvAll.cons ⟨.int _, by rw [PyData.canLay0]⟩ (DvAll.cons (dvK eK.symm (d1.le (l.tr e2))) DvAll.nil)
    exact ⟨_, _, G2, e2, enD_get hi, ⟨.tup (SqT.of upd_same) (fun _ => upd_same) dd.1, cl_tup.trans dd.2⟩⟩
  · rw [hl, ← l1] at hi
    subst hi
    exact hst H' σ r s A Hd' F1 eK l G
def enM (m : M Rv) : M (List PyData) := M.bind m fun v => M.bind (restD (opd v)) fun d => M.bind (ofOpt (seqL d)) fun xs => M.pure (enD xs)
theorem pi_enI (hK : F.K = X.K) {e : Expr} {m : M Rv} {p pos tpos : Pos} {elts : List Expr} {kk : Nat} (hg : Gl X "enumerate") (hm : X.mg "enumerate" = none) (he : PE X e (tI F m)) (hs : starEach [e] X.env = [(false, eval e X.env)] := by rfl) (hs0 : starEach [e] X.env = (false, eval e X.env) :: starEach [] X.env := by rfl) :
    PI X (.Tuple elts kk tpos) (.Call (.Name "enumerate" p) [e] [] pos) (iI F (enM m)) := by
  refine PI.imp (PI.or (pi_enum hg hm (pa_cons he pa_nil hs0) hs) (pi_enT hg hm he hs hs0)) fun σ H R ⟨r, s, A, Hd, G, h⟩ => ?_
  unfold enM at h
  cases e1 : m r s with
  | no => rw [Rs.bind_no e1] at h; exact h.elim
  | ok v r1 s1 =>
    rw [Rs.bind_ok e1] at h
    cases e2 : restD (opd v) r1 s1 with
    | no => rw [Rs.bind_no e2] at h; exact h.elim
    | ok d r2 s2 =>
      rw [Rs.bind_ok e2] at h
      cases q : seqL d with
      | none => rw [q] at h; exact h.elim
      | some ds =>
        rw [q] at h
        unfold seqL at q
        split at q
        · cases q
          refine .inl ⟨r, s, A, Hd, G, ?_⟩
          rw [e1]
          intro x H1 A1 Hd1 G1 p1 l1 k1
          obtain ⟨Hd2, G2, l2, k2⟩ := G1.opd k1
          obtain ⟨rfl, Hd3, G3, l3, k3⟩ := G2.restD k2 e2
          obtain ⟨a, vs, rfl, z1, z2⟩ := k3.lst
          have uni : ∀ {F1 : Fx} {H' Hd' : Hp} {σ r s A}, Le Hd3 Hd' → Good F1 σ H' r s A Hd' → SqL X.K H' a vs := fun l G => .inl (Rd.of (G.le _ _ (l _ _ z1)))
          refine ⟨a, vs, rfl, uni Le.rfl G3, h H1 A1 Hd3 _ G3 p1 (l1.tr (l2.tr l3)) (en_ok z2 (fun i H σ r s A Hd' F' eK l G x q1 => ⟨vs, x, uni l G, q1⟩) (fun i H v H' σ r s A Hd' F' eK l G yy => ?_) fun H σ r s A Hd' F' eK l G => ⟨vs, uni l G, Nat.le_refl _⟩)⟩
          obtain ⟨T, x, e1, e2, e3, e4⟩ := yy
          exact ⟨T, x, e1, e2, e3, e4 vs (uni l G)⟩
        · cases q
          refine .inr ⟨r, s, A, Hd, G, ?_⟩
          rw [e1]
          intro x H1 A1 Hd1 G1 p1 l1 k1
          obtain ⟨Hd2, G2, l2, k2⟩ := G1.opd k1
          obtain ⟨rfl, Hd3, G3, l3, k3⟩ := G2.restD k2 e2
          obtain ⟨a, vs, rfl, z1, z2⟩ := k3.tup
          have uni : ∀ {F1 : Fx} {H' Hd' : Hp} {σ r s A}, Le Hd3 Hd' → Good F1 σ H' r s A Hd' → SqT X.K H' a vs := fun l G => by rw [← hK]; exact G.le.sqt (l.sqt z1)
          refine ⟨a, vs, rfl, uni Le.rfl G3, h H1 A1 Hd3 _ G3 p1 (l1.tr (l2.tr l3)) (en_ok z2 (fun i H σ r s A Hd' F' eK l G x q1 => ⟨vs, x, uni l G, q1⟩) (fun i H v H' σ r s A Hd' F' eK l G yy => ?_) fun H σ r s A Hd' F' eK l G => ⟨vs, uni l G, rfl⟩)⟩
          obtain ⟨T, x, e1, e2, e3, e4⟩ := yy
          exact ⟨T, x, e1, e2, e3, e4 vs (uni l G)⟩
        · cases q
/-! ### dict comprehensions, keys ints and texts -/
def dcL (vs : List Nat) (t : Tgt) (tt : M Bool) (tk tv : M Rv) : List PyData → List (PyData × PyData) → M (List (PyData × PyData))
  | [], acc => M.pure acc
  | d :: ds, acc => M.bind (tgM t d) fun _ => M.bind tt fun k => if k = true then (M.bind tk fun kv => M.bind tv fun v => M.bind (ct (opd kv)) fun c => M.bind (ofOpt (keyC c)) fun κ => M.bind (ofOpt c.data?) fun kd => M.bind (restD (opd v)) fun x => if decide (acc.length < sizeLine) = true then (M.bind (wpM vs) fun _ => dcL vs t tt tk tv ds (putD acc κ kd x)) else fail) else (M.bind (wpM vs) fun _ => dcL vs t tt tk tv ds acc)
def dcM (it : M (List PyData)) (vs : List Nat) (t : Tgt) (tt : M Bool) (tk tv : M Rv) : M Rv := M.bind it fun ds => M.bind (wpM vs) fun _ => M.bind (dcL vs t tt tk tv ds []) fun out => M.bind (wpM vs) fun _ => M.pure (.fr (.dic out))
theorem dc_to (hF : FxOk F) {it : M (List PyData)} {vs : List Nat} {t : Tgt} {mt : M Bool} {mk mv : M Rv} (hs : ∀ i ∈ t.sl, i ∈ vs)
    (ttc : TT) (hc : ∀ F', F'.K = F.K → FxOk F' → ∀ σ H Q, tTI F' mt σ H Q → ttc σ H Q) (tkc tvc : TE) (hk : ∀ F', F'.K = F.K → FxOk F' → ∀ σ H Q, tI F' mk σ H Q → tkc σ H Q) (hv : ∀ F', F'.K = F.K → FxOk F' → ∀ σ H Q, tI F' mv σ H Q → tvc σ H Q) (h : tI F (dcM it vs t mt mk mv) σ H Q) : tDc (iI F it) (gT F.K t) ttc tkc tvc vs σ H Q := by
  obtain ⟨r, s, A, Hd, G, h⟩ := h
  refine ⟨r, s, A, Hd, G, ?_⟩
  unfold dcM at h
  cases e1 : it r s with
  | no => rw [Rs.bind_no e1] at h; exact h
  | ok ds r1 s1 =>
    rw [Rs.bind_ok e1] at h
    intro H1 A1 Hd1 J G1 p1 l1 hJ D hD
    have hR := G1.r0 hF hD
    have hA0 := G1.a0 hD
    have hH0 := G1.notH hD
    let Fin : Rs (List (PyData × PyData)) → Prop := fun o => match o with
      | .ok out r' s' => ∀ ks H' A' Hd', Good (F.at D (.dK ks)) (L2.wipe σ vs) H' r' s' A' Hd' → A1 <+: A' → Le Hd1 Hd' → KvK F Hd' ks out → Q (.ref D) H'
      | .no => False
    let Wv : Nat → Nat → Hp → Prop := fun i m H => m = ds.length - i ∧ i ≤ ds.length ∧ ∃ ks acc r s A Hd, Good (F.at D (.dK ks)) (L2.wipe σ vs) H r s A Hd ∧ Le Hd1 Hd ∧ A1 <+: A ∧ KvK F Hd ks acc ∧ Fin (dcL vs t mt mk mv (ds.drop i) acc r s)
    have start : Wv 0 ds.length (upd H1 D (.dK [])) := by
      refine ⟨rfl, Nat.zero_le _, [], [], wipeR r1 vs, s1, A1, Hd1, (G1.pinNew (u := .dK []) hD).wipe vs, Le.rfl, List.prefix_refl _, trivial, ?_⟩
      rw [List.drop_zero]
      have h' : match (M.bind (dcL vs t mt mk mv ds []) fun out => M.bind (wpM vs) fun _ => M.pure (.fr (.dic out)) : M Rv) (wipeR r1 vs) s1 with
        | .ok v r' s' => ∀ x H' A' Hd', Good F σ H' r' s' A' Hd' → A <+: A' → Le Hd Hd' → RvR F σ H' Hd' A' r' x v → Q x H'
        | .no => False := h
      cases e2 : dcL vs t mt mk mv ds [] (wipeR r1 vs) s1 with
      | no => rw [Rs.bind_no e2] at h'; exact h'
      | ok out r2 s2 =>
        rw [Rs.bind_ok e2] at h'
        intro ks H' A' Hd' G' p' l' ka
        obtain ⟨q1, q2, q3, q4⟩ := G'.pinned hR hA0
        have G3 : Good F σ H' (wipeR r2 vs) s2 A' Hd' := (G'.unpin hH0).unwipe wipe_wipe
        refine h' (.ref D) H' A' Hd' G3 (p1.trans p') (l1.tr l') ⟨D, rfl, q2, q3, hH0, ⟨ks, q1, ka⟩, fun i o z e => ?_⟩
        have hi : i ∉ vs := fun w => by have := wipeR_in w z; cases this
        rw [wipeR_out hi] at z
        exact q4 i o z (by rw [wipe_out hi]; exact e)
    refine ⟨Wv, ⟨_, start⟩, ?_⟩
    rintro i m H2 ⟨rfl, hi, ks, acc, r2, s2, A2, Hd2, G2, l2, p2, ka, hfin⟩
    by_cases hlt : i < ds.length
    · refine .inr ⟨hJ.go (F.at D (.dK ks)) rfl i _ H2 r2 s2 A2 Hd2 l2 G2 hlt, Wv (i + 1) (ds.length - (i + 1)), fun H' w => ⟨ds.length - (i + 1), by omega, w⟩, fun x H3 y => ?_⟩
      obtain ⟨Hd3, d, G3, l3, hd, kd⟩ := hJ.yld (F.at D (.dK ks)) rfl i _ H2 r2 s2 A2 Hd2 x H3 l2 G2 hlt y
      have ed : ds.drop i = d :: ds.drop (i + 1) := by
        have := List.drop_eq_getElem_cons hlt
        rw [List.getElem?_eq_getElem hlt] at hd
        cases hd
        exact this
      rw [ed] at hfin
      have hfin' : Fin ((M.bind (tgM t d) fun _ => M.bind mt fun k => if k = true then (M.bind mk fun kv => M.bind mv fun v => M.bind (ct (opd kv)) fun c => M.bind (ofOpt (keyC c)) fun κ => M.bind (ofOpt c.data?) fun kd => M.bind (restD (opd v)) fun x => if decide (acc.length < sizeLine) = true then (M.bind (wpM vs) fun _ => dcL vs t mt mk mv (ds.drop (i + 1)) (putD acc κ kd x)) else fail) else (M.bind (wpM vs) fun _ => dcL vs t mt mk mv (ds.drop (i + 1)) acc) : M (List (PyData × PyData))) r2 s2) := by simpa only [dcL] using hfin
      clear hfin
      cases e3 : tgM t d r2 s2 with
      | no => rw [Rs.bind_no e3] at hfin'; exact hfin'.elim
      | ok u r3 s3 =>
        rw [Rs.bind_ok e3] at hfin'
        obtain ⟨hset, rfl⟩ := tgM_ok e3
        refine gT_ok (F := F.at D (.dK ks)) hset kd G3 fun σ4 ag G4 => ?_
        have ew := wipe_agr ag hs
        refine ⟨ew.trans wipe_wipe.symm |>.trans wipe_wipe, ?_⟩
        have back : ∀ {ks' acc' r5 s5 A5 Hd5 H5}, Good (F.at D (.dK ks')) σ4 H5 r5 s5 A5 Hd5 → A1 <+: A5 → Le Hd1 Hd5 → KvK F Hd5 ks' acc' → Fin ((M.bind (wpM vs) fun _ => dcL vs t mt mk mv (ds.drop (i + 1)) acc') r5 s5) → Wv (i + 1) (ds.length - (i + 1)) H5 := by
          intro ks' acc' r5 s5 A5 Hd5 H5 G6 p6 l6 k6 f6
          have G7 := G6.wipe vs
          rw [ew] at G7
          exact ⟨rfl, hlt, ks', acc', wipeR r5 vs, s5, A5, Hd5, G7, l6, p6, k6, f6⟩
        refine hc (F.at D (.dK ks)) rfl hF.at σ4 H3 _ ⟨r3, s3, A2, Hd3, G4, ?_⟩
        cases e4 : mt r3 s3 with
        | no => rw [Rs.bind_no e4] at hfin'; exact hfin'
        | ok k r4 s4 =>
          rw [Rs.bind_ok e4] at hfin'
          intro H4 A4 Hd4 G5 p4 l4
          cases k with
          | false =>
            have f : Fin ((M.bind (wpM vs) fun _ => dcL vs t mt mk mv (ds.drop (i + 1)) acc) r4 s4) := hfin'
            exact back G5 (p2.trans p4) (l2.tr (l3.tr l4)) (ka.le (l3.tr l4)) f
          | true =>
            have f : Fin ((M.bind mk fun kv => M.bind mv fun v => M.bind (ct (opd kv)) fun c => M.bind (ofOpt (keyC c)) fun κ => M.bind (ofOpt c.data?) fun kd => M.bind (restD (opd v)) fun x => if decide (acc.length < sizeLine) = true then (M.bind (wpM vs) fun _ => dcL vs t mt mk mv (ds.drop (i + 1)) (putD acc κ kd x)) else fail : M (List (PyData × PyData))) r4 s4) := hfin'
            clear hfin'
            refine hk (F.at D (.dK ks)) rfl hF.at σ4 H4 _ ⟨r4, s4, A4, Hd4, G5, ?_⟩
            cases e5 : mk r4 s4 with
            | no => rw [Rs.bind_no e5] at f; exact f
            | ok kv r5 s5 =>
              rw [Rs.bind_ok e5] at f
              intro yk H5 A5 Hd5 G6 p5 l5 k6
              obtain ⟨Hd6, G7, l6, k7⟩ := G6.opd k6
              refine hv (F.at D (.dK ks)) rfl hF.at σ4 H5 _ ⟨r5, s5, A5, Hd6, G7, ?_⟩
              cases e6 : mv r5 s5 with
              | no => rw [Rs.bind_no e6] at f; exact f
              | ok v r6 s6 =>
                rw [Rs.bind_ok e6] at f
                intro yv H6 A6 Hd7 G8 p6 l7 k8
                obtain ⟨Hd8, G9, l8, k9⟩ := G8.opd k8
                have k7' := RvR.later (r' := r6) (H' := H6) p6 (l7.tr l8) k7
                cases e7 : ct (opd kv) r6 s6 with
                | no => rw [Rs.bind_no e7] at f; exact f.elim
                | ok c r7 s7 =>
                  rw [Rs.bind_ok e7] at f
                  obtain ⟨rfl, rfl, q7⟩ := ct_ok e7
                  cases q8 : keyC c with
                  | none => rw [q8] at f; exact f.elim
                  | some κ =>
                    rw [q8] at f
                    cases q9 : c.data? with
                    | none => rw [q9] at f; exact f.elim
                    | some kd =>
                      rw [q9] at f
                      have f' : Fin ((M.bind (restD (opd v)) fun x => if decide (acc.length < sizeLine) = true then (M.bind (wpM vs) fun _ => dcL vs t mt mk mv (ds.drop (i + 1)) (putD acc κ kd x)) else fail : M (List (PyData × PyData))) r7 s7) := f
                      cases e10 : restD (opd v) r7 s7 with
                      | no => rw [Rs.bind_no e10] at f'; exact f'.elim
                      | ok z r10 s10 =>
                        rw [Rs.bind_ok e10] at f'
                        obtain ⟨rfl, Hd9, G10, l9, k10⟩ := G9.restD k9 e10
                        by_cases hz : decide (acc.length < sizeLine) = true
                        · rw [if_pos hz] at f'
                          obtain ⟨q1, q2, q3, q4⟩ := G10.pinned hR hA0
                          obtain ⟨kd', r1', r2', rfl, r4'⟩ := keyC_V G9 (G9.ctR k7' q7) q8
                          rw [q9] at r1'; cases r1'
                          have ll : Le Hd2 Hd9 := l3.tr (l4.tr (l5.tr (l6.tr (l7.tr (l8.tr l9)))))
                          have kl := ka.le ll
                          exact ⟨ks, κ, rfl, q1, by rw [ka.len]; exact of_decide_eq_true hz, back (ks' := putK ks κ yv) (acc' := putD acc κ kd z) (G10.repin hR hA0 hH0) (p2.trans (p4.trans (p5.trans p6))) (l2.tr ll) (kl.put ⟨r2', r4'.2⟩ (dvK (F1 := F.at D (.dK ks)) (F2 := F) rfl k10)) f'⟩
                        · rw [if_neg hz] at f'; exact f'.elim
    · have e : i = ds.length := by omega
      subst e
      refine .inl ⟨hJ.stop (F.at D (.dK ks)) rfl _ _ H2 r2 s2 A2 Hd2 l2 G2 rfl, ?_⟩
      rw [List.drop_length] at hfin
      exact hfin ks H2 A2 Hd2 G2 p2 l2 ka
theorem pe_dcI (hK : F.K = X.K) (hF : FxOk F) {kx vx tg iter : Expr} {ifs : List Expr} {scope : Scope} {own : List (Str × Nat)} {pos : Pos} {it : M (List PyData)} {t : Tgt} {mt : M Bool} {mk mv : M Rv} (hc : X.calm = true) (hN : X.N.Nodup) (hs : ∀ i ∈ t.sl, i ∈ own.map (·.2)) (hi : PI X tg iter (iI F it)) (ok : BlkOk X.N X.env.scope scope own)
    (hg : ∀ (s : Shared) (H : Hp) (C : Addr) (cl : List (Str × Addr)) (fp : List Addr), PG (X.blk s H scope (compEnvC scope cl C X.env) fp) tg (gT X.K t)) (ht : ∀ (s : Shared) (H : Hp) (C : Addr) (cl : List (Str × Addr)) (fp : List Addr), PTs (X.blk s H scope (compEnvC scope cl C X.env) fp) ifs (exT X.K mt))
    (hk : ∀ (F' : Fx), F'.K = X.K → FxOk F' → ∀ (s : Shared) (H : Hp) (C : Addr) (cl : List (Str × Addr)) (fp : List Addr), PE (X.blk s H scope (compEnvC scope cl C X.env) fp) kx (tI F' mk))
    (he : ∀ (F' : Fx), F'.K = X.K → FxOk F' → ∀ (s : Shared) (H : Hp) (C : Addr) (cl : List (Str × Addr)) (fp : List Addr), PE (X.blk s H scope (compEnvC scope cl C X.env) fp) vx (tI F' mv)) (hfs : ∀ x, foldedSetIterable iter X.env x = pure x := by intro _; rfl) :
    PE X (.DictComp kx vx [⟨tg, iter, ifs, 0⟩] scope pos) (tI F (dcM it (own.map (·.2)) t mt mk mv)) :=
  PE.imp (pe_dc hc hN hi ok hg ht (fun s H C cl fp => pe_ex fun F' e1 e2 => hk F' e1 e2 s H C cl fp) (fun s H C cl fp => pe_ex fun F' e1 e2 => he F' e1 e2 s H C cl fp) hfs) fun σ H Q h => by
    rw [← hK]
    exact dc_to hF hs (exT F.K mt) (fun F' e1 e2 σ H Q q => ⟨F', e1, e2, q⟩) (exE F.K mk) (exE F.K mv) (fun F' e1 e2 σ H Q q => ⟨F', e1, e2, q⟩) (fun F' e1 e2 σ H Q q => ⟨F', e1, e2, q⟩) h
end
end Mi
set_option Elab.async false
set_option linter.all false
set_option maxRecDepth 100000
/-! M15: sorted(..) of data. -/
namespace Mi
open PySem PySem.Calls PyProof.Rows PySem.W PySem.SeqAt
section
variable {prog : Program} {w : World} {A : Around} {E : Value → Shared → Prop} {s : Shared}
/-- the tuple's own word on less, as a sort asks for it -/
theorem tupLess {Q : Value → Shared → Prop} {l b : Addr} {p q : Array Value} {e r : Nat → Bool} (hl : s.heap.IsTuple l p) (hb : s.heap.IsTuple b q)
    (he : ∀ j (h1 : j < p.size) (h2 : j < q.size), EqAt A.in1 s p[j] q[j] (e j)) (hr : ∀ j (h1 : j < p.size) (h2 : j < q.size), e j = false → RcLt A.in1 s p[j] q[j] (r j))
    (h : Q (.bool (firstLt e r (decide (p.size < q.size)) (List.range (min p.size q.size)))) s) : wpAny (model prog w) A (call (.builtin "tuple.__lt__") [.ref l, .ref b]) Q E s := by
  obtain ⟨⟨c1, d1, x1, s1⟩, g1, k1, n1, z1⟩ := id hl
  obtain ⟨⟨c2, d2, x2, s2⟩, g2, k2, n2, z2⟩ := id hb
  dsimp only at k1 z1 k2 z2
  subst k1 z1 k2 z2
  exact call_meets F.slot_tuple_lt ⟨_, g1, rfl⟩ F.entry_tuple_lt (F.args_tuple_lt_2 _ _) (tuple_ltAt l b p q n1 n2 d1 d2 s1 s2 e r) ⟨g1, g2, he, hr, h⟩
theorem oneLt_tup {xs ys : List PyData} {a b : Value} {as bs : List Addr} {Q : Bool → Shared → Prop} (ra : Reads s.heap a (.tuple xs) as) (rb : Reads s.heap b (.tuple ys) bs) (h : alike (.tuple xs) (.tuple ys) = true)
    (hu : A.units + min (PyData.tuple xs).depth (PyData.tuple ys).depth < cLine) (hq : Q (dataLt (.tuple xs) (.tuple ys)) s) : wpAny (model prog w) A (oneLt' true a b) Q E s := by
  have hal : alikeAll xs ys = true := by simpa [alike] using h
  cases ra with
  | @tuple l o vs n _ as1 h1 h2 h3 h4 =>
    cases rb with
    | @tuple l' o' vs' n' _ bs1 k1 k2 k3 k4 =>
      have n1 : vs.size = xs.length := by simpa using ReadsAll.length _ _ _ h4
      have n2 : vs'.size = ys.length := by simpa using ReadsAll.length _ _ _ k4
      rw [dataLt_tuple, ← firstLt_toks xs ys hal, ← n1, ← n2] at hq
      rw [oneLt'_eq, if_pos rfl]
      refine wpAny_bind (wpAny_cRoomFor (room_here hu) ?_)
      refine wpAny_bind (wpAny_callSpecialIfBound?_slot (T := "tuple") ⟨_, h1, h2⟩ F.slot_tuple_lt (tupLess (e := pairEq xs ys) (r := fun j => dataLt (xs.getD j .none) (ys.getD j .none)) ⟨_, h1, h2, _, h3⟩ ⟨_, k1, k2, _, k3⟩ (fun j j1 j2 => ?_) (fun j j1 j2 hj => ?_) (wpAny_truthy_bool hq)))
      · have := eqAt_alikeAll xs ys A.in1 s vs.toList vs'.toList _ _ h4 k4 hal (room_in hu) j (by simpa using j1) (by simpa using j2)
        simpa using this
      · have := rcLt_alikeAll xs ys A.in1 s vs.toList vs'.toList _ _ h4 k4 hal (room_in hu) j (by simpa using j1) (by simpa using j2) hj
        simpa using this
/-- not the empty tuple -/
def neT : PyData → Bool
  | .tuple [] => false
  | _ => true
/-- what firstOfTuple' says of tuples -/
theorem firsts_tup : ∀ {vs : List Value} {ds : List PyData} {Q : List (Option Value) → Shared → Prop}, EachIs (fun v d => ∃ as, Reads s.heap v d as) vs ds → (∀ d ∈ ds, ∃ xs, d = .tuple xs) →
    (∀ os : List (Option Value), EachIs (fun o d => o.isSome = neT d) os ds → Q os s) → wpAny (model prog w) A (vs.mapM firstOfTuple') Q E s
  | _, _, Q, .nil, _, h => by rw [List.mapM_nil]; exact wpAny_pure (h [] .nil)
  | v :: vs, d :: ds, Q, .cons ⟨as, r⟩ t, ht, h => by
    obtain ⟨xs, rfl⟩ := ht d List.mem_cons_self
    rw [List.mapM_cons]
    cases r with
    | @tuple l o us n _ as1 h1 h2 h3 h4 =>
      rw [kas_first_eq]
      refine wpAny_bind (wpAny_bind (wpAny_typeOf (T := "tuple") ⟨o, h1, h2⟩ ?_))
      rw [if_neg (by decide)]
      refine wpAny_bind (listItems_at h1 h3 (wpAny_pure ?_))
      refine wpAny_bind (firsts_tup (Q := fun bs s' => wpAny (model prog w) A (pure (us[0]? :: bs)) Q E s') t (fun e he => ht e (List.mem_cons_of_mem _ he)) fun os hos => wpAny_pure (h _ (.cons ?_ hos)))
      have n1 : us.size = xs.length := by simpa using ReadsAll.length _ _ _ h4
      cases xs with
      | nil =>
        have : us[0]? = none := Array.getElem?_eq_none (by rw [n1]; exact Nat.le_refl _)
        rw [this]; rfl
      | cons x xs =>
        have : us[0]? = some (us[0]'(by rw [n1]; exact Nat.succ_pos _)) := Array.getElem?_eq_getElem (show 0 < us.size by rw [n1]; exact Nat.succ_pos _)
        rw [this]; rfl
theorem each_len {α β : Type} {R : α → β → Prop} : ∀ {as : List α} {bs : List β}, EachIs R as bs → as.length = bs.length
  | _, _, .nil => rfl
  | _, _, .cons _ t => by rw [List.length_cons, List.length_cons, each_len t]
/-- tuples, empty ones among them -/
theorem sortsAt_tups {vs : List Value} {ds : List PyData} (e : EachIs (fun v d => ∃ as, Reads s.heap v d as) vs ds) (hal : AllAlike ds) (ht : ∀ d ∈ ds, ∃ xs, d = .tuple xs) (hu : ∀ d, d ∈ ds → A.units + d.depth < cLine) : SortsAt prog w A s (dataKind s.heap ds) vs := by
  by_cases hne : ∀ d ∈ ds, d ≠ PyData.tuple []
  · refine SortsAt.data e hal (.inl fun d hd => ?_) hu
    obtain ⟨xs, rfl⟩ := ht d hd
    cases xs with
    | nil => exact absurd rfl (hne _ hd)
    | cons x r => exact ⟨x, r, rfl⟩
  · have room : ∀ {d d' : PyData}, d ∈ ds → A.units + min d.depth d'.depth < cLine := fun {d d'} hd => Nat.lt_of_le_of_lt (Nat.add_le_add_left (Nat.min_le_left _ _) _) (hu d hd)
    have keys : ∀ v, v ∈ vs → ∃ a, (dataKind s.heap ds).keyOf v = some a := fun v hv => by
      obtain ⟨d, hd, as, r⟩ := e.left v hv
      exact ⟨_, dataKind_some hal hd r⟩
    have gen : H.LtAt prog w A s (dataKind s.heap ds) general' := by
      intro E x y a b Q ha hb hq
      obtain ⟨d, as, hd, ra, rfl⟩ := dataKind_inv ha
      obtain ⟨d', as', hd', rb, rfl⟩ := dataKind_inv hb
      obtain ⟨xs, rfl⟩ := ht d hd
      show wpAny (model prog w) A (oneLt' false x y) Q E s
      exact oneLt_alike (fun z => by cases z) ra rb (hal _ hd d' hd') (by intro z; cases z) (room hd) hq
    have one : H.LtAt prog w A s (dataKind s.heap ds) oneType' := by
      intro E x y a b Q ha hb hq
      obtain ⟨d, as, hd, ra, rfl⟩ := dataKind_inv ha
      obtain ⟨d', as', hd', rb, rfl⟩ := dataKind_inv hb
      obtain ⟨xs, rfl⟩ := ht d hd
      obtain ⟨ys, rfl⟩ := ht d' hd'
      rw [keyLt'_oneType]
      exact oneLt_tup ra rb (hal _ hd _ hd') (room hd) hq
    have first : ∃ d0 r0, ds = d0 :: r0 := by
      cases ds with
      | nil => exact absurd (fun d hd => by cases hd) hne
      | cons d r => exact ⟨d, r, rfl⟩
    obtain ⟨d0, r0, e0⟩ := first
    have hex : ∃ d ∈ ds, d = PyData.tuple [] := Classical.byContradiction fun z => hne fun d hd q => z ⟨d, hd, q⟩
    -- what the list says of its firsts
    have notAll : ∀ os : List (Option Value), EachIs (fun o d => o.isSome = neT d) os ds → os.toArray.all (·.isSome) = false := fun os hos => by
      rw [List.all_toArray]
      obtain ⟨d, hd, hd2⟩ := hex
      have : ∀ {os : List (Option Value)} {ds : List PyData}, EachIs (fun o d => o.isSome = neT d) os ds → d ∈ ds → os.all (·.isSome) = false := by
        intro os ds h
        induction h with
        | nil => intro h; cases h
        | cons h1 t ih =>
          intro hm
          rw [List.all_cons, h1]
          rcases List.mem_cons.mp hm with z | z
          · rw [← z, hd2]; rfl
          · rw [ih z, Bool.and_false]
      exact this hos hd
    have headOf : ∀ os : List (Option Value), EachIs (fun o d => o.isSome = neT d) os ds → (os.toArray[0]?.bind id).isSome = neT d0 := fun os hos => by
      rw [e0] at hos
      cases hos with
      | cons h1 t => simpa using h1
    by_cases hz : d0 = PyData.tuple []
    · refine ⟨keys, oneType', one, fun h2 E Q hq => ?_⟩
      rw [keyKind'_eq, List.mapM_toArray, map_eq_pure_bind]
      refine wpAny_bind (wpAny_bind (firsts_tup (Q := fun os s' => wpAny (model prog w) A (pure os.toArray) _ E s') e ht fun os hos => wpAny_pure ?_))
      rw [if_neg (by rw [notAll os hos]; simp), if_neg (by rw [headOf os hos, hz]; simp [neT])]
      rw [oneTypeOnly'_eq, List.mapM_toArray, map_eq_pure_bind]
      have hT : ∀ v ∈ vs, Looks (model prog w) s.heap (typeOf v) (Value.type "tuple") := fun v hv => by
        obtain ⟨d, hd, as, r⟩ := e.left v hv
        obtain ⟨xs, rfl⟩ := ht d hd
        exact looks_reads r
      refine wpAny_bind (wpAny_bind (wpAny_bind (kas_mapM (r := Value.type "tuple") _ (fun v hv Q' hq => (hT v hv).here hq) (wpAny_pure ?_))))
      obtain ⟨v1, v2, rest, rfl⟩ : ∃ v1 v2 rest, vs = v1 :: v2 :: rest := by
        match vs, h2 with
        | [], h2 => simp at h2
        | [_], h2 => simp at h2
        | v1 :: v2 :: rest, _ => exact ⟨v1, v2, rest, rfl⟩
      have hall : ((List.map (fun _ => Value.type "tuple") (v1 :: v2 :: rest)).toArray.all fun x => x == Value.type "tuple") = true := by
        simp only [List.all_toArray, List.all_map, List.all_eq_true]
        intro _ _
        rfl
      have h0 : (List.map (fun _ => Value.type "tuple") (v1 :: v2 :: rest)).toArray[0]? = some (Value.type "tuple") := by simp
      rw [h0]
      simp only [hall, if_true]
      exact wpAny_pure (wpAny_pure hq)
    · have hn0 : neT d0 = true := by
        obtain ⟨xs, rfl⟩ := ht d0 (by rw [e0]; exact List.mem_cons_self)
        cases xs with
        | nil => exact absurd rfl hz
        | cons x r => rfl
      refine ⟨keys, general', gen, fun h2 E Q hq => ?_⟩
      rw [keyKind'_eq, List.mapM_toArray, map_eq_pure_bind]
      refine wpAny_bind (wpAny_bind (firsts_tup (Q := fun os s' => wpAny (model prog w) A (pure os.toArray) _ E s') e ht fun os hos => wpAny_pure ?_))
      rw [if_neg (by rw [notAll os hos]; simp), if_pos (by rw [headOf os hos]; exact hn0)]
      exact wpAny_pure hq
/-- the items of a tuple, collected -/
theorem collect_tup {l : Addr} {vs : List Value} {Q : List Value → Shared → Prop} (hl : s.heap.IsTuple l vs.toArray)
    (h : Q vs { s with heap := (s.heap.push (seqObj "list" #[] 0)).update s.heap.objs.size (Obj.mapSeq (· ++ vs.toArray)) }) (hsz : vs.length ≤ sizeLine) :
    wpAny (model prog w) A (collect (.ref l)) Q E s := by
  obtain ⟨o, ho, hc, n, hd⟩ := id hl
  unfold collect
  refine wpAny_bind (wpAny_runValue (codeAny_builtin entry_proto_collect' ?_))
  show wpAny _ _ (do again (.builtin "list.__iadd__" ⟨[← newList [], .ref l], []⟩)) _ _ s
  refine wpAny_bind (wpAny_newList (wpAny_pure ⟨Code.quiet_builtin _ (by decide +kernel), codeAny_builtin entry_list_iadd' ?_⟩))
  show wpAny _ _ (Builtin.List.listExtendWith (.ref s.heap.objs.size) (.ref l) (.ref s.heap.objs.size)) _ _ { s with heap := s.heap.push (seqObj "list" #[] 0) }
  unfold Builtin.List.listExtendWith
  have k0 : (s.heap.push (seqObj "list" #[] 0)).get? l = some o := Heap.get?_push_of_some _ ho
  refine wpAny_bind (wpAny_typeOf (T := "tuple") ⟨o, k0, hc⟩ ?_)
  rw [if_pos (by rw [show (Value.type "tuple" == Value.type "tuple") = true from rfl, Bool.or_true])]
  refine wpAny_bind (listItems_at k0 hd (wpAny_bind (listItems_at (xs := #[]) (n := 0) (Heap.get?_push_size _ rfl) rfl ?_)))
  rw [if_neg (by simp)]
  refine wpAny_bind (listUpdate_at (xs := #[]) (n := 0) (Heap.get?_push_size _ rfl) rfl (wpAny_pure ?_) (Nat.zero_le _) (by show (#[] ++ vs.toArray).size ≤ sizeLine + 1; simp only [Array.size_append, List.size_toArray, List.length_nil]; omega))
  show wpAny (model prog w) A (do
      let o ← load s.heap.objs.size
      match o.data with
      | .seq xs _ => pure xs.toList
      | _ => unsupported "internal:collect") Q E { s with heap := (s.heap.push (seqObj "list" #[] 0)).update s.heap.objs.size (Obj.mapSeq (· ++ vs.toArray)) }
  refine wpAny_bind (wpAny_load (get?_update_seq (Heap.get?_push_size _ rfl) _) ?_)
  show wpAny _ _ (pure ((#[] : Array Value) ++ vs.toArray).toList) Q E _
  rw [show ((#[] : Array Value) ++ vs.toArray).toList = vs by simp]
  exact wpAny_pure h
/-- sorted(x) by what x's items are, however they are collected; PD tells what the items may be -/
theorem sorted_any {u : Value} {PD : List PyData → Prop} {R : Value → PyData → Prop} {Q : Value → Shared → Prop}
    (hcol : ∀ (Q' : List Value → Shared → Prop), (∀ vs s1 ds, PD ds → (∀ b o, s.heap.get? b = some o → s1.heap.get? b = some o) → s.heap.objs.size ≤ s1.heap.objs.size → s1.gens = s.gens → s1.os = s.os → EachIs R vs ds → Q' vs s1) → wpAny (model prog w) A.in1 (collect u) Q' E s)
    (er : ∀ h', (∀ b o, s.heap.get? b = some o → h'.get? b = some o) → ∀ v d, R v d → ∃ as, Reads h' v d as) (hal : ∀ ds, PD ds → AllAlike ds) (hk : ∀ ds, PD ds → Sortable ds ∨ ∀ d ∈ ds, ∃ xs, d = .tuple xs) (hL : ∀ ds, PD ds → ds.length ≤ sizeLine)
    (hu : ∀ ds, PD ds → ∀ d, d ∈ ds → A.units + 2 + d.depth < cLine)
    (hQ : ∀ s' p out c ds, PD ds → (∀ b o, s.heap.get? b = some o → s'.heap.get? b = some o) → s'.gens = s.gens → s'.os = s.os → s.heap.objs.size ≤ p → s'.heap.get? p = some (seqObj "list" (List.toArray out) c) → EachIs R out (ds.mergeSort (dataLe false id)) → Q (.ref p) s') :
    wpAny (model prog w) A (call (.builtin "sorted") [u]) Q E s := by
  refine Calls.call_function_entry kind_sorted plain_sorted entry_sorted (args_sorted1 _) ?_
  unfold Builtin.«sorted»
  refine wpAny_bind (m := checkCount "sorted" 1 1 _) (wpAny_pure ?_)
  refine wpAny_bind (hcol _ fun vs s1 ds hP k1 hsz g1 o1 e1 => ?_)
  have hvl : vs.length = ds.length := each_len e1
  have hLd := hL ds hP
  refine wpAny_bind (wpAny_newList ?_ (by omega))
  have hoL : (s1.heap.push (seqObj "list" vs.toArray 0)).get? s1.heap.objs.size = some (seqObj "list" vs.toArray 0) := Heap.get?_push_size _ rfl
  let hS : Heap := sortingHeap (s1.heap.push (seqObj "list" vs.toArray 0)) s1.heap.objs.size vs
  have kS : ∀ b o, s1.heap.get? b = some o → hS.get? b = some o := fun b o q => sortingHeap_old (Nat.ne_of_lt (Heap.lt_size q)) (Heap.get?_push_of_some _ q)
  have eS : EachIs (fun v d => ∃ as, Reads hS v d as) vs ds := e1.mono fun v d q => er hS (fun b o z => kS b o (k1 b o z)) v d q
  have S : SortsAt prog w A.in1.in1 { s1 with heap := hS } (dataKind hS ds) vs := by
    have hu' : ∀ d, d ∈ ds → A.in1.in1.units + d.depth < cLine := fun d hd => by
      have := hu ds hP d hd
      show A.units + 1 + 1 + d.depth < cLine
      omega
    rcases hk ds hP with hk | hk
    · exact SortsAt.data (s := { s1 with heap := hS }) eS (hal ds hP) hk hu'
    · exact sortsAt_tups (s := { s1 with heap := hS }) eS (hal ds hP) hk hu'
  have er' : EachIs (fun v d => ∃ as, Reads hS v (id d) as) vs ds := eS
  have out := sortVals_data (enc := id) false e1 er' (by rw [List.map_id]; exact hal ds hP)
  rw [List.map_id] at out
  show wpAny _ _ _ _ _ { s1 with heap := s1.heap.push (seqObj "list" vs.toArray 0) }
  refine wpAny_bind (wpAny_holding (wpAny_call_entry slot_list_sort ⟨_, hoL, rfl⟩ entry_list_sort (list_sort_vals (s := { s1 with heap := s1.heap.push (seqObj "list" vs.toArray 0) }) (κ := dataKind hS ds) hoL S (by omega) ⟨_, rfl, ?_⟩) (args_list_sort _)))
  obtain ⟨c, hc⟩ := sortedHeap_at (vs := vs) (out := (sortVals (dataKind hS ds) false vs vs).toArray) hoL
  refine wpAny_pure ⟨_, rfl, hQ _ s1.heap.objs.size _ c ds hP (fun b o q => ?_) g1 o1 hsz hc out⟩
  have q1 := k1 b o q
  have hlt := Heap.lt_size q1
  show (sortedHeap (s1.heap.push (seqObj "list" vs.toArray 0)) s1.heap.objs.size vs _).get? b = some o
  rw [sortedHeap_old (Nat.ne_of_lt hlt) (by rw [size_push']; exact Nat.lt_succ_of_lt hlt)]
  exact Heap.get?_push_of_some _ q1
theorem sorted_by {u : Value} {ds : List PyData} {R : Value → PyData → Prop} {Q : Value → Shared → Prop}
    (hcol : ∀ (Q' : List Value → Shared → Prop), (∀ vs s1, (∀ b o, s.heap.get? b = some o → s1.heap.get? b = some o) → s.heap.objs.size ≤ s1.heap.objs.size → s1.gens = s.gens → s1.os = s.os → EachIs R vs ds → Q' vs s1) → wpAny (model prog w) A.in1 (collect u) Q' E s)
    (er : ∀ h', (∀ b o, s.heap.get? b = some o → h'.get? b = some o) → ∀ v d, R v d → ∃ as, Reads h' v d as) (hal : AllAlike ds) (hk : Sortable ds ∨ ∀ d ∈ ds, ∃ xs, d = .tuple xs) (hL : ds.length ≤ sizeLine) (hu : ∀ d, d ∈ ds → A.units + 2 + d.depth < cLine)
    (hQ : ∀ s' p out c, (∀ b o, s.heap.get? b = some o → s'.heap.get? b = some o) → s'.gens = s.gens → s'.os = s.os → s.heap.objs.size ≤ p → s'.heap.get? p = some (seqObj "list" (List.toArray out) c) → EachIs R out (ds.mergeSort (dataLe false id)) → Q (.ref p) s') :
    wpAny (model prog w) A (call (.builtin "sorted") [u]) Q E s :=
  sorted_any (PD := (· = ds)) (fun Q' h => hcol Q' fun vs s1 => h vs s1 ds rfl) er (fun _ e => e ▸ hal) (fun _ e => e ▸ hk) (fun _ e => e ▸ hL) (fun _ e => e ▸ hu) fun s' p out c _ e => by
    subst e
    exact hQ s' p out c
end
end Mi
set_option Elab.async false
set_option linter.all false
set_option maxRecDepth 100000
/-! M16: sorted(list), sorted(tuple). -/
namespace Mi
open PySem L2
def isTup : PyData → Bool
  | .tuple _ => true
  | _ => false
def nonNT : PyData → Bool
  | .none => false
  | .tuple _ => false
  | _ => true
def srtOk (ds : List PyData) : Bool := (ds.all fun d => ds.all fun e => W.alike d e) && (ds.all isTup || ds.all nonNT) && ds.all shp && size ds.length
def srt (ds : List PyData) : List PyData := ds.mergeSort (W.dataLe false id)
theorem srtOk_of {ds : List PyData} (h : srtOk ds = true) : W.AllAlike ds ∧ (W.Sortable ds ∨ ∀ d ∈ ds, ∃ xs, d = .tuple xs) ∧ (∀ d ∈ ds, d.depth ≤ 60) ∧ ds.length ≤ sizeLine := by
  unfold srtOk at h
  simp only [Bool.and_eq_true, List.all_eq_true, Bool.or_eq_true] at h
  obtain ⟨⟨⟨h1, h2⟩, h3⟩, h4⟩ := h
  refine ⟨fun d hd e he => h1 d hd e he, ?_, fun d hd => shp_le (h3 d hd), of_decide_eq_true h4⟩
  rcases h2 with h2 | h2
  · refine .inr fun d hd => ?_
    have := h2 d hd
    cases d <;> first | exact ⟨_, rfl⟩ | cases this
  · refine .inl (.inr fun d hd => ?_)
    have := h2 d hd
    refine ⟨fun z => ?_, fun xs z => ?_⟩ <;> (rw [z] at this; cases this)
section
variable {F : Fx} {X : Cx} {σ : L2.St} {H : Hp} {r : Rho} {s : Sto} {A : List Addr} {Hd : Hp} {x : V} {Q : VK}
def rSrtI (K : PySem.W.Frag) : List V → Hp → VK → Prop := fun xs H Q => ∃ a vs ds, ∃ Rel : V → PyData → Prop, xs = [.ref a] ∧ (SqL K H a vs ∨ SqT K H a vs) ∧ All2 Rel vs ds ∧ (∀ x d, Rel x d → Dp K H x d) ∧ srtOk ds = true ∧ ∀ p vs', H p = none → All2 Rel vs' (srt ds) → Q (.ref p) (upd H p (.lst vs'))
theorem each_of {Rel : V → PyData → Prop} : ∀ {vs : List V} {us : List Value} {ds : List PyData}, Vals vs us → All2 Rel vs ds → W.EachIs (fun u d => ∃ x, RelV x u ∧ Rel x d) us ds
  | [], _, [], .nil, _ => .nil
  | _ :: _, _, _ :: _, .cons r t, h => .cons ⟨_, r, h.1⟩ (each_of t h.2)
  | [], _, _ :: _, _, h => h.elim
  | _ :: _, _, [], _, h => h.elim
theorem of_each {Rel : V → PyData → Prop} : ∀ {us : List Value} {ds : List PyData}, W.EachIs (fun u d => ∃ x, RelV x u ∧ Rel x d) us ds → ∃ vs, Vals vs us ∧ All2 Rel vs ds
  | _, _, .nil => ⟨[], .nil, trivial⟩
  | _, _, .cons ⟨x, r, h⟩ t => by
    obtain ⟨vs, k1, k2⟩ := of_each t
    exact ⟨x :: vs, .cons r k1, h, k2⟩
theorem cr_srtI (hu : X.A.units + 65 < cLine) : CallR X (.builtin "sorted") (rSrtI X.K) := by
  intro pins s σ H xs us Q I rr h
  obtain ⟨a, vs, ds, Rel, rfl, hq, hA, hD, hok, q⟩ := h
  obtain ⟨u, rfl, rx⟩ := vals1 rr
  cases rx
  obtain ⟨h1, h2, h3, h4⟩ := srtOk_of hok
  have er : ∀ h', (∀ b o, s.heap.get? b = some o → h'.get? b = some o) → ∀ v d, (∃ x, RelV x v ∧ Rel x d) → ∃ as, Reads h' v d as := fun h' hk v d ⟨x, r1, r2⟩ => by
    obtain ⟨as, k⟩ := Dp.reads I d x v (hD x d r2) r1
    exact ⟨as, PyProof.Rows.Reads.keeps hk k⟩
  have fin : ∀ s' p out c, (∀ b o, s.heap.get? b = some o → s'.heap.get? b = some o) → s'.gens = s.gens → s'.os = s.os → s.heap.objs.size ≤ p → s'.heap.get? p = some (PyProof.Rows.seqObj "list" (List.toArray out) c) →
      W.EachIs (fun v d => ∃ x, RelV x v ∧ Rel x d) out (ds.mergeSort (W.dataLe false id)) → EP X pins σ Q (.ref p) s' := fun s' p out c hk hg ho hp he hE => by
    obtain ⟨vs', k1, k2⟩ := of_each hE
    obtain ⟨hh, g, d, t, os⟩ := s'
    cases (show g = s.gens from hg)
    cases (show os = s.os from ho)
    have hl : vs'.length ≤ sizeLine := by
      rw [All2.len k2]
      show (ds.mergeSort _).length ≤ sizeLine
      rw [List.length_mergeSort]; exact h4
    have hpn : H p = none := I.hok.fresh hp
    refine ⟨.ref p, upd H p (.lst vs'), ?_, rfl, q p vs' hpn k2⟩
    have I1 := I.laid (h' := hh) (t' := t) (o := .lst vs') hk hp ⟨hl, out, c, k1, he⟩
    have I2 := I1.call (g' := s.gens) (d' := d) (t' := t) (ch := []) Un.refl I1.hok I1.bare (fun _ z => nomatch z)
    exact I2
  refine sorted_by (R := fun v d => ∃ x, RelV x v ∧ Rel x d) (fun Q' hQ' => ?_) er h1 h2 h4 (fun d hd => by have := h3 d hd; omega) fin
  rcases hq with hq | hq
  · obtain ⟨its, rv, pl, hz⟩ := I.list hq
    refine PyProof.Rows.collect_list (vs := its) pl.isList (hQ' its _ (fun b o e => ?_) ?_ rfl rfl (each_of rv hA)) (by rw [← rv.length]; exact hz)
    · have hb := Heap.lt_size e
      exact (Heap.get?_update_other _ _ (Nat.ne_of_gt hb)).trans (Heap.get?_push_of_some _ e)
    · show s.heap.objs.size ≤ ((s.heap.push _).update _ _).objs.size
      rw [Heap.size_update, Heap.size_push]; exact Nat.le_succ _
  · obtain ⟨its, rv, pl, hz⟩ := I.tuple hq
    refine collect_tup (vs := its) pl (hQ' its _ (fun b o e => ?_) ?_ rfl rfl (each_of rv hA)) (by rw [← rv.length]; exact hz)
    · have hb := Heap.lt_size e
      exact (Heap.get?_update_other _ _ (Nat.ne_of_gt hb)).trans (Heap.get?_push_of_some _ e)
    · show s.heap.objs.size ≤ ((s.heap.push _).update _ _).objs.size
      rw [Heap.size_update, Heap.size_push]; exact Nat.le_succ _
def srtC : Ct → Option Rv
  | .d (.tuple xs) => if srtOk xs = true then some (.fr (.lst (srt xs))) else none
  | .o (.lst xs) => if srtOk xs = true then some (.fr (.lst (srt xs))) else none
  | _ => none
theorem all2_dv : ∀ {vs : List V} {ds : List PyData}, DvAll F Hd vs ds → All2 (Dv F Hd) vs ds
  | [], [], _ => trivial
  | _ :: _, _ :: _, h => by
    have c := cl_all.mp h.2
    cases h.1 with
    | cons a b => exact ⟨⟨a, c _ List.mem_cons_self⟩, all2_dv ⟨b, cl_all.mpr fun d hd => c d (List.mem_cons_of_mem _ hd)⟩⟩
  | [], _ :: _, h => by cases h.1
  | _ :: _, [], h => by cases h.1
theorem dv_all2 : ∀ {vs : List V} {ds : List PyData}, All2 (Dv F Hd) vs ds → DvAll F Hd vs ds
  | [], [], _ => DvAll.nil
  | _ :: _, _ :: _, h => DvAll.cons h.1 (dv_all2 h.2)
  | [], _ :: _, h => h.elim
  | _ :: _, [], h => h.elim
theorem o1_srt : Op1 F srtC (rSrtI F.K) := by
  intro σ H r s A Hd x c v Q G hc e W
  unfold srtC at e
  split at e
  · rename_i ds
    split at e
    · rename_i hz
      cases e
      obtain ⟨a, vs, rfl, k1, k2⟩ := hc.1.tup
      exact ⟨a, vs, ds, Dv F Hd, rfl, .inr (G.le.sqt k1), all2_dv k2, fun x d h => (h.le G.le).1.dp, hz, fun p vs' hp h => fin_lst G hp (dv_all2 h) W⟩
    · cases e
  · rename_i ds
    split at e
    · rename_i hz
      cases e
      obtain ⟨a, vs, rfl, k1, k2⟩ := hc
      exact ⟨a, vs, ds, Dv F Hd, rfl, .inl (.inl (Rd.of k1)), all2_dv k2, fun x d h => (h.le G.le).1.dp, hz, fun p vs' hp h => fin_lst G hp (dv_all2 h) W⟩
    · cases e
  · cases e
end
end Mi
set_option Elab.async false
set_option linter.all false
set_option maxRecDepth 100000
/-! M17: sets of texts and of small tuples: what they hold, and how they are built. -/
namespace Mi
open PySem L2 PySem.Spec PyProof.Rows PySem.Froz
abbrev ES := Array (Int × Value)
def setO (es : ES) (ep : Nat) (t : SetTable) : Obj := sObj "set" (es, ep, t)
def newSetO (w : World) : Obj := setO #[] 0 (.fresh 0 0 (!w.params.followText "set-order"))
def LedO (w : World) (t : SetTable) : Prop := w.params.followText "set-order" = true ∨ t.led = true
/-- the set lies so that it can be walked, and has the values vs -/
structure LayO (w : World) (o : Obj) (vs : List Value) : Prop where
  ex : ∃ es ep t, o = setO es ep t ∧ t.fits es.size = true ∧ es.size < scanBound ∧ Ris t.place.toList ∧ LedO w t ∧ (es.toList.map (·.2)).Perm vs
/-- a kind of elements, and how a set of them is built -/
structure SK (P : Program) (w : World) (D : Type) where
  is : Heap → Value → D → Prop
  Ob : Obj → List (Value × D) → Prop
  most : Nat
  fresh : Ob (newSetO w) []
  lay : ∀ {o L}, Ob o L → LayO w o (L.map (·.1))
  mono : ∀ {h h' : Heap} {v d}, is h v d → (∀ b o, h.get? b = some o → h'.get? b = some o) → is h' v d
  one : ∀ {h v d d'}, is h v d → is h v d' → d = d'
  nd : ∀ {o L}, Ob o L → (L.map (·.2)).Nodup
  add : ∀ {A : Around} {E : Value → Shared → Prop} {s : Shared} {a : Addr} {o : Obj} {L : List (Value × D)} {v : Value} {d : D} {Q : Bool → Shared → Prop} (h0 : Heap), s.heap.get? a = some o → Ob o L → h0.get? a = none →
    (∀ b u, h0.get? b = some u → s.heap.get? b = some u) → (∀ p ∈ L, is h0 p.1 p.2) → is h0 v d → L.length < most → A.units < cLine →
    (∀ b h' tk o' L', Heap.SameBut a s.heap h' → s.toks ≤ tk → h'.get? a = some o' → Ob o' L' → (d ∈ L.map (·.2) → L' = L) → (d ∉ L.map (·.2) → L'.Perm ((v, d) :: L)) → Q b { s with heap := h', toks := tk }) →
    wpAny (model P w) A (setAdd a v) Q E s
section
variable {P : Program} {w : World} {A : Around} {E : Value → Shared → Prop} {s : Shared}
/-! ### texts -/
structure ObS (P : Program) (w : World) (o : Obj) (L : List (Value × Str)) : Prop where
  ex : ∃ es ep t, o = setO es ep t ∧ TxOk P w (es, ep, t) (L.map (·.2)) ∧ (es.toList.map (·.2)).Perm (L.map (·.1)) ∧ Ris t.place.toList ∧ LedO w t ∧ (L.map (·.2)).Nodup ∧ L.length ≤ 4000
theorem addTx_lay {es : ES} {ep : Nat} {t : SetTable} (h : Int) (v : Value) (hr : Ris t.place.toList) (hl : LedO w t) :
    ∃ es' ep' t', addTx h v (es, ep, t) = (es', ep', t') ∧ es'.toList.Perm ((h, v) :: es.toList) ∧ Ris t'.place.toList ∧ LedO w t' := by
  have a1 := layNew_perm t es h v
  have a2 := layNew_ris t es h v hr
  have a3 := layNew_led t es h v
  unfold addTx tailTx
  dsimp only
  generalize layNew t es h v = Z at a1 a2 a3 ⊢
  obtain ⟨e1, t1, dm, gv⟩ := Z
  dsimp only at a1 a2 a3 ⊢
  rw [Array.toList_push] at a1
  have b1 : e1.toList.Perm ((h, v) :: es.toList) := a1.trans (List.perm_append_singleton _ _)
  have b3 : LedO w t1 := hl.imp id fun z => a3.trans z
  obtain ⟨t2, ht2, r2, l2⟩ : ∃ t2, (if t1.plain = true then { t1 with plain := false } else t1) = t2 ∧ Ris t2.place.toList ∧ LedO w t2 := by
    refine ⟨_, rfl, ?_, ?_⟩ <;> split <;> first | exact a2 | exact b3
  rw [ht2]
  split
  · refine ⟨_, _, _, rfl, ?_, ?_, ?_⟩
    · exact (relayAll_perm t2 e1 _).trans b1
    · exact relayAll_ris t2 e1 _
    · exact l2.imp id fun z => (relayAll_led t2 e1 _).trans z
  · exact ⟨e1, _, t2, rfl, b1, r2, l2⟩
theorem addS {a : Addr} {o : Obj} {L : List (Value × Str)} {k : Str} {u : Tok} {Q : Bool → Shared → Prop} (ho : s.heap.get? a = some o) (O : ObS P w o L) (hm : L.length < 4000)
    (hQ : ∀ b h' tk o' L', Heap.SameBut a s.heap h' → s.toks ≤ tk → h'.get? a = some o' → ObS P w o' L' → (k ∈ L.map (·.2) → L' = L) → (k ∉ L.map (·.2) → L'.Perm ((.str k u, k) :: L)) → Q b { s with heap := h', toks := tk }) :
    wpAny (model P w) A (setAdd a (.str k u)) Q E s := by
  obtain ⟨es, ep, t, rfl, T, pm, ri, le, nd, ln⟩ := O.ex
  have isk : (strKind P w).is k (.str k u) = true := is_str k u
  unfold setAdd
  refine wpAny_holding (wpAny_bind ((strKind P w).pyHash isk ?_))
  by_cases hk : k ∈ L.map (·.2)
  · -- there already
    obtain ⟨e0, he0, q0⟩ := (T.mem k).mp hk
    have dt : (setO es ep t).data = .set es ep t := rfl
    have T1 : ElemsOf (strKind P w) es.toList := T.el
    have T2 : es.size < scanBound := by
      have := T.sz
      rw [List.length_map] at this
      show es.size < 4096
      have : es.size = L.length := this
      omega
    unfold setAddHashed setAddHashedIn
    refine wpAny_holding (wpAny_bind (wpAny_setState_of (s := { s with toks := s.toks + 1 }) ho dt T.fit ?_))
    dsimp only
    rw [byScan_of (x := .str k u) rfl T2 T1, if_pos rfl]
    unfold setAddByScan
    refine wpAny_bind (wpAny_bind (wpAny_rule (wpAny_bind (wpAny_setScan_of (knd := strKind P w) isk ho dt T.fit T1 ?_))))
    obtain ⟨j, hj⟩ : ∃ j, List.findIdx? (fun e : Int × Value => (strKind P w).is k e.2) es.toList = some j := by
      cases hf : List.findIdx? (fun e : Int × Value => (strKind P w).is k e.2) es.toList with
      | some j => exact ⟨j, rfl⟩
      | none =>
        have := List.findIdx?_eq_none_iff.mp hf e0 he0
        rw [q0] at this
        cases this
    rw [hj]
    exact wpAny_pure (wpAny_pure (hQ _ s.heap (s.toks + 1) (setO es ep t) L (Heap.SameBut.refl _ _) (Nat.le_succ _) ho O (fun _ => rfl) fun z => absurd hk z))
  · refine add_x (s := { s with toks := s.toks + 1 }) (D := (es, ep, t)) (l := L.map (·.2)) ho T hk (by rw [List.length_map]; unfold scanBound; omega) ?_
    obtain ⟨es', ep', t', e1, e2, e3, e4⟩ := addTx_lay (w := w) (es := es) (ep := ep) (hashStr w k) (.str k u) ri le
    have T' := add_ok u T (k := k)
    rw [e1] at T' ⊢
    refine hQ true _ (s.toks + 1) (setO es' ep' t') ((.str k u, k) :: L) (Heap.SameBut.update ..) (Nat.le_succ _) (get_upd _ ho rfl) ⟨es', ep', t', rfl, T', ?_, e3, e4, ?_, ?_⟩ (fun z => absurd z hk) fun _ => List.Perm.refl _
    · have z := e2.map (fun x : Int × Value => x.2)
      rw [List.map_cons] at z ⊢
      exact z.trans (pm.cons _)
    · exact List.nodup_cons.mpr ⟨hk, nd⟩
    · exact hm
def skS (P : Program) (w : World) : SK P w Str where
  is := fun _ v d => ∃ t, v = .str d t
  Ob := ObS P w
  most := 4000
  fresh := ⟨#[], 0, _, rfl, TxOk.nil rfl, List.Perm.refl _, List.Pairwise.nil, by
    show _ ∨ (!w.params.followText "set-order") = true
    cases w.params.followText "set-order" <;> simp, List.nodup_nil, Nat.zero_le _⟩
  lay := fun O => by
    obtain ⟨es, ep, t, e, T, pm, ri, le, nd, ln⟩ := O.ex
    refine ⟨es, ep, t, e, T.fit, ?_, ri, le, pm⟩
    have : es.size = _ := T.sz
    rw [List.length_map] at this
    rw [this]
    exact Nat.lt_of_le_of_lt ln (by decide)
  mono := fun h _ => h
  one := fun ⟨t, e⟩ ⟨t', e'⟩ => by
    rw [e] at e'
    injection e'
  nd := fun O => by
    obtain ⟨es, ep, t, e, T, pm, ri, le, nd, ln⟩ := O.ex
    exact nd
  add := fun h0 ho O _ _ _ ⟨t, e⟩ hm _ hQ => by
    subst e
    exact addS ho O hm hQ
end
end Mi
set_option Elab.async false
set_option linter.all false
set_option maxRecDepth 100000
/-! M18: small sets of tuples of texts and ints. -/
namespace Mi
open PySem L2 PySem.Spec PyProof.Rows PySem.Froz
section
variable {P : Program} {w : World} {A : Around} {E : Value → Shared → Prop} {s : Shared}
abbrev KS := List Key
abbrev isT (P : Program) (w : World) (h : Heap) (k : KS) (b : Addr) : Prop := IsTupleKey (mixKind P w) h k b
abbrev hsT (P : Program) (w : World) (k : KS) : Int := tupleKeyHash (mixKind P w) k
theorem isT_up {h h' : Heap} {k : KS} {b : Addr} (x : isT P w h k b) (e : ∀ c u, h.get? c = some u → h'.get? c = some u) : isT P w h' k b := by
  obtain ⟨u, its, n, hu, r⟩ := x
  exact ⟨u, its, n, e b u hu, r⟩
/-- what an item of such a tuple is -/
theorem mix_item {ks : KS} {vs : List Value} (h : ItemsAre (mixKind P w) ks vs) : ∀ v ∈ vs, (∃ i t, v = Value.int i t) ∨ ∃ x t, v = Value.str x t := by
  induction h with
  | nil => exact fun v z => nomatch z
  | @cons k v' ks' vs' h1 _ ih =>
    intro v z
    cases z with
    | head =>
      rcases keyIs_shape (show keyIs k v' = true from h1) with ⟨i, t, _, e⟩ | ⟨x, t, _, e⟩
      · exact .inl ⟨i, t, e⟩
      · exact .inr ⟨x, t, e⟩
    | tail _ z => exact ih v z
theorem noClass {k : KS} {b : Addr} {Q : Bool → Shared → Prop} (x : isT P w s.heap k b) (q : Q false s) : wpAny (model P w) A (ofAClassStatement 8 (.ref b)) Q E s := by
  have ty := x.typeIs
  obtain ⟨u, its, n, hu, _, du, hi⟩ := x
  unfold ofAClassStatement
  refine wpAny_bind (wpAny_typeOf ty ?_)
  have c : ("tuple" == "tuple") = true := rfl
  simp only [c, if_true]
  refine wpAny_bind (wpAny_pure ?_)
  simp only [Bool.not_true, Bool.false_eq_true, if_false]
  refine wpAny_bind (wpAny_seqItems hu du ?_)
  refine wpAny_bind ?_
  rw [← Array.forIn_toList]
  refine wpAny_forIn_list _ (fun l r s' => (s' = s ∧ r.1 = none) ∧ ∀ v ∈ l, (∃ i t, v = Value.int i t) ∨ ∃ x t, v = Value.str x t) _ ?_ ?_ _ _ ⟨⟨rfl, rfl⟩, mix_item hi⟩
  · rintro v l r s' ⟨⟨rfl, _⟩, hv⟩
    have e : ofAClassStatement 7 v = pure false := by
      rcases hv v List.mem_cons_self with ⟨i, t, rfl⟩ | ⟨y, t, rfl⟩ <;> rfl
    rw [e]
    refine wpAny_bind (wpAny_pure ?_)
    rw [if_neg Bool.false_ne_true]
    exact wpAny_pure ⟨⟨rfl, rfl⟩, fun z hz => hv z (.tail _ hz)⟩
  · rintro ⟨r1, r2⟩ s' ⟨⟨rfl, e⟩, _⟩
    cases (show r1 = none from e)
    exact wpAny_pure q
theorem byVal {k : KS} {b : Addr} {Q : Bool → Shared → Prop} (x : isT P w s.heap k b) (q : ∀ c, Q c s) : wpAny (model P w) A (hashByValue 8 (.ref b)) Q E s := by
  have ty := x.typeIs
  obtain ⟨u, its, n, hu, _, du, hi⟩ := x
  unfold hashByValue
  refine wpAny_bind (wpAny_specialOf ty F.slot_tuple_hash.lookup ?_)
  dsimp only
  refine wpAny_bind (wpAny_seqItems hu du ?_)
  refine wpAny_bind ?_
  rw [Option.getD_some, ← Array.forIn_toList]
  refine wpAny_forIn_list _ (fun l r s' => (s' = s ∧ True) ∧ ∀ v ∈ l, (∃ i t, v = Value.int i t) ∨ ∃ x t, v = Value.str x t) _ ?_ ?_ _ _ ⟨⟨rfl, trivial⟩, mix_item hi⟩
  · rintro v l r s' ⟨⟨rfl, _⟩, hv⟩
    rcases hv v List.mem_cons_self with ⟨i, t, rfl⟩ | ⟨y, t, rfl⟩
    · have e : hashByValue 7 (.int i t) = pure true := rfl
      rw [e]
      refine wpAny_bind (wpAny_pure ?_)
      exact wpAny_pure ⟨⟨rfl, trivial⟩, fun z hz => hv z (.tail _ hz)⟩
    · have e : hashByValue 7 (.str y t) = pure false := rfl
      rw [e]
      refine wpAny_bind (wpAny_pure ?_)
      exact wpAny_pure (wpAny_pure (q false))
  · rintro ⟨r1, r2⟩ s' ⟨⟨rfl, _⟩, _⟩
    cases r1 with
    | none => exact wpAny_pure (q _)
    | some c => exact wpAny_pure (q c)
theorem notSeen {k : KS} {b : Addr} {Q : Bool → Shared → Prop} (x : isT P w s.heap k b) {ys : List Value} (hy : ∀ y ∈ ys, ∃ k' c, y = Value.ref c ∧ isT P w s.heap k' c) (q : Q false s) :
    wpAny (model P w) A (searchCouldBeSeen (.ref b) ys) Q E s := by
  unfold searchCouldBeSeen
  refine wpAny_bind ?_
  refine wpAny_forIn_list _ (fun l r s' => (s' = s ∧ r.1 = none) ∧ ∀ y ∈ l, ∃ k' c, y = Value.ref c ∧ isT P w s.heap k' c) _ ?_ ?_ _ _ ⟨⟨rfl, rfl⟩, hy⟩
  · rintro y l r s' ⟨⟨rfl, _⟩, hl⟩
    obtain ⟨k', c, rfl, xc⟩ := hl y List.mem_cons_self
    have tl : ∀ z ∈ l, ∃ k' c, z = Value.ref c ∧ isT P w s'.heap k' c := fun z hz => hl z (.tail _ hz)
    dsimp only
    split
    · exact wpAny_pure ⟨⟨rfl, rfl⟩, tl⟩
    · refine wpAny_bind (wpAny_eqIsQuiet_tuple x ?_)
      rw [if_neg (by decide)]
      refine wpAny_bind (wpAny_eqIsQuiet_tuple xc ?_)
      rw [if_neg (by decide)]
      refine wpAny_bind (noClass x ?_)
      rw [if_neg Bool.false_ne_true]
      refine wpAny_bind (noClass xc ?_)
      rw [if_neg Bool.false_ne_true]
      exact wpAny_pure ⟨⟨rfl, rfl⟩, tl⟩
  · rintro ⟨r1, r2⟩ s' ⟨⟨rfl, e⟩, _⟩
    cases (show r1 = none from e)
    exact wpAny_pure q
/-! ### the small table -/
abbrev rowT (P : Program) (w : World) (p : Value × KS) : Int × Value := (hsT P w p.2, p.1)
structure ObT (P : Program) (w : World) (o : Obj) (L : List (Value × KS)) : Prop where
  ex : ∃ es ep t, o = setO es ep t ∧ es.toList = L.map (rowT P w) ∧ TabOk t (L.map fun p => hsT P w p.2) ∧ LedO w t ∧ (L.map (·.2)).Nodup ∧ t.mask = 7 ∧ L.length ≤ 4
abbrev way0 (t : SetTable) (h : Int) : SetTable.Probe := runAt t.mask (SetTable.bits h % (t.mask + 1)) (SetTable.bits h)
theorem nth_dummy (m : Nat) : ∀ (n : Nat) (p : SetTable.Probe), p.dummy = none → (nth m p n).dummy = none
  | 0, _, h => h
  | n + 1, p, h => nth_dummy m n (adv m p) (by unfold adv; split <;> exact h)
section
variable {a : Addr} {L : List (Value × KS)} {es : ES} {ep : Nat} {t : SetTable}
/-- the search from the c-th step on; N: the first empty one -/
theorem seek {b : Addr} {k : KS} (ho : s.heap.get? a = some (setO es ep t)) (hr : es.toList = L.map (rowT P w)) (T : TabOk t (L.map fun p => hsT P w p.2)) (hf : t.fits es.size = true)
    (tup : ∀ p ∈ L, ∃ c, p.1 = Value.ref c ∧ isT P w s.heap p.2 c) (x : isT P w s.heap k b) (hu : A.units < cLine) {N : Nat} (hN : N < 10 * SetTable.turns t.mask) (hNe : way t.mask (hsT P w k) N ∉ t.place.toList)
    (hNb : ∀ i, i < N → way t.mask (hsT P w k) i ∈ t.place.toList) {Q : SetFound → Shared → Prop} (q1 : k ∈ L.map (·.2) → Q (.there none) s) (q2 : k ∉ L.map (·.2) → Q (.free (way t.mask (hsT P w k) N) false) s) :
    ∀ (f c : Nat) (st : Option SetTable.Probe), st.getD (t.probeStart (hsT P w k)) = nth t.mask (way0 t (hsT P w k)) c → c ≤ N → N - c < f →
      (∀ (i : Nat) p, L[i]? = some p → p.2 = k → ∃ d, c ≤ d ∧ d < N ∧ t.place.toList[i]? = some (way t.mask (hsT P w k) d)) →
      wpAny (model P w) A (setSearchFrom a (.ref b) (hsT P w k) true f st) Q E s := by
  have od : (setO es ep t).data = .set es ep t := rfl
  have ent : ∀ (i : Nat) p, L[i]? = some p → es[i]? = some (rowT P w p) := fun i p hp => by
    rw [← Array.getElem?_toList, hr, List.getElem?_map, hp] <;> rfl
  have ng : ¬ t.gaveWay = true := by
    unfold SetTable.gaveWay
    rw [mask_odd T.mok]
    decide
  intro f
  induction f with
  | zero => intro c st _ _ z; exact absurd z (Nat.not_lt_zero _)
  | succ f ih =>
    intro c st hst hc hcf back
    rw [setSearchFrom_succ]
    refine wpAny_bind (wpAny_setState_of ho od hf ?_)
    dsimp only
    rw [if_neg ng]
    have step : ∀ n, nth t.mask (nth t.mask (way0 t (hsT P w k)) c) n = nth t.mask (way0 t (hsT P w k)) (c + n) := fun n => (nth_add t.mask c _ n).symm
    have stepj : ∀ n, (nth t.mask (nth t.mask (way0 t (hsT P w k)) c) n).j = way t.mask (hsT P w k) (c + n) := fun n => congrArg SetTable.Probe.j (step n)
    have hA : ∀ (i : Nat) p, L[i]? = some p → (es[i]?.map (·.1)).getD 0 = hsT P w p.2 := fun i p hp => by rw [ent i p hp] <;> rfl
    rcases go_spec t T.ris T.dm (fun i => (es[i]?.map (·.1)).getD 0) (hsT P w k) (10 * SetTable.turns t.mask) (N - c) (nth t.mask (way0 t (hsT P w k)) c) (nth_dummy _ _ _ rfl) (by omega)
      (fun n hn => by rw [stepj]; exact hNb _ (by omega)) (by rw [stepj, Nat.add_sub_cancel' hc]; exact hNe) with ⟨n, i, hn, hi, _, hno, hp⟩ | ⟨hno, hp⟩
    · rw [stepj] at hi hp
      rw [step] at hp
      have hp2 : t.probe (fun i => (es[i]?.map (·.1)).getD 0) (hsT P w k) (st.getD (t.probeStart (hsT P w k))) = some (.candidate (way t.mask (hsT P w k) (c + n)) i (nth t.mask (way0 t (hsT P w k)) (c + (n + 1)))) := by rw [hst]; exact hp
      rw [hp2]
      have iL : i < L.length := by
        have z1 := (List.getElem?_eq_some_iff.mp hi).1
        have z2 := T.sz
        rw [List.length_map] at z2
        rw [Array.length_toList] at z1
        omega
      obtain ⟨p, hpL⟩ : ∃ p, L[i]? = some p := ⟨_, List.getElem?_eq_getElem iL⟩
      obtain ⟨pb, e1, xb⟩ := tup p (List.mem_of_getElem? hpL)
      have ei := ent i p hpL
      have go : wpAny (model P w) A (searchRest a (.ref b) (hsT P w k) true f es t (way t.mask (hsT P w k) (c + n)) i (nth t.mask (way0 t (hsT P w k)) (c + (n + 1)))) Q E s := by
        unfold searchRest
        rw [ei]
        dsimp only [rowT]
        rw [e1]
        refine wpAny_bind (wpAny_holding (wpAny_eqBool_tuple hu xb x ?_))
        refine wpAny_bind (wpAny_setState_of ho od hf ?_)
        dsimp only
        by_cases hk : p.2 = k
        · rw [if_pos (by simp [hk])]
          exact wpAny_pure (q1 (List.mem_map.mpr ⟨p, List.mem_of_getElem? hpL, hk⟩))
        · rw [if_neg (by simp [hk]), sameMem]
          have live : t.slot (way t.mask (hsT P w k) (c + n)) = .live i := slot_live T.ris hi
          simp only [if_true, live, ei]
          rw [e1]
          refine wpAny_bind (wpAny_isSame_ref_self (wpAny_bind (wpAny_pure ?_)))
          simp only [if_true]
          rw [if_neg (by simp [hk])]
          refine ih (c + (n + 1)) _ rfl (by omega) (by omega) fun i' p' h' k' => ?_
          obtain ⟨d, d1, d2, d3⟩ := back i' p' h' k'
          refine ⟨d, ?_, d2, d3⟩
          have ne1 : ¬ d < c + n := fun z => hno (d - c) i' (by omega) (by rw [stepj, Nat.add_sub_cancel' d1]; exact d3) (by rw [← k']; exact hA i' p' h')
          have ne2 : d ≠ c + n := fun z => by
            rw [z] at d3
            have l2 := slot_live T.ris d3
            rw [live] at l2
            injection l2 with l2
            rw [← l2, hpL] at h'
            cases h'
            exact hk k'
          omega
      dsimp only
      split
      · refine wpAny_bind (notSeen x (fun y hy => ?_) ?_)
        · obtain ⟨e, he, ey⟩ := List.mem_map.mp hy
          have he2 : e ∈ es.toList := by
            have : e ∈ es := (by simpa using he : e ∈ es ∧ _).1
            simpa using this
          rw [hr] at he2
          obtain ⟨p', hp', e'⟩ := List.mem_map.mp he2
          obtain ⟨c', z1, z2⟩ := tup p' hp'
          exact ⟨p'.2, c', by rw [← ey, ← e', ← z1], z2⟩
        · rw [if_neg Bool.false_ne_true]
          exact go
      · exact go
    · rw [stepj, Nat.add_sub_cancel' hc] at hp
      have hp2 : t.probe (fun i => (es[i]?.map (·.1)).getD 0) (hsT P w k) (st.getD (t.probeStart (hsT P w k))) = some (.empty (way t.mask (hsT P w k) N) none) := by rw [hst]; exact hp
      rw [hp2]
      refine wpAny_pure (q2 fun hm => ?_)
      obtain ⟨p, hpm, ek⟩ := List.mem_map.mp hm
      obtain ⟨i, hi, ei⟩ := List.getElem_of_mem hpm
      have hL : L[i]? = some p := by rw [List.getElem?_eq_getElem hi, ei]
      obtain ⟨d, d1, d2, d3⟩ := back i p hL ek
      exact hno (d - c) i (by omega) (by rw [stepj, Nat.add_sub_cancel' d1]; exact d3) (by rw [← ek]; exact hA i p hL)
end
end
end Mi
set_option Elab.async false
set_option linter.all false
set_option maxRecDepth 100000
/-! M19: adding to small sets of tuples; set(..). -/
namespace Mi
open PySem L2 PySem.Spec PyProof.Rows PySem.Froz
section
variable {P : Program} {w : World} {A : Around} {E : Value → Shared → Prop} {s : Shared}
theorem isT_but {h h' : Heap} {k : KS} {a b : Addr} {es : ES} {ep : Nat} {t : SetTable} (x : isT P w h k b) (ho : h.get? a = some (setO es ep t)) (e : Heap.SameBut a h h') : isT P w h' k b := by
  obtain ⟨u, its, n, hu, hc, hd, r⟩ := x
  refine ⟨u, its, n, (e.2 b fun z => ?_).trans hu, hc, hd, r⟩
  rw [z, ho] at hu
  cases hu
  simp [setO, sObj] at hc
theorem addT {a b : Addr} {o : Obj} {L : List (Value × KS)} {k : KS} {Q : Bool → Shared → Prop} (ho : s.heap.get? a = some o) (O : ObT P w o L) (tup : ∀ p ∈ L, ∃ c, p.1 = Value.ref c ∧ isT P w s.heap p.2 c) (x : isT P w s.heap k b)
    (hm : L.length < 4) (hu : A.units < cLine)
    (hQ : ∀ b' h' tk o' L', Heap.SameBut a s.heap h' → s.toks ≤ tk → h'.get? a = some o' → ObT P w o' L' → (k ∈ L.map (·.2) → L' = L) → (k ∉ L.map (·.2) → L'.Perm ((.ref b, k) :: L)) → Q b' { s with heap := h', toks := tk }) :
    wpAny (model P w) A (setAdd a (.ref b)) Q E s := by
  obtain ⟨es, ep, t, rfl, hr, T, le, nd, m7, l4⟩ := O.ex
  have sz : es.size = L.length := by rw [← Array.length_toList, hr, List.length_map]
  have sz2 : t.place.size = L.length := by have := T.sz; rwa [List.length_map] at this
  have hf : t.fits es.size = true := by
    unfold SetTable.fits SetTable.fill
    rw [T.dm, Bool.and_eq_true, beq_iff_eq, decide_eq_true_eq]
    refine ⟨sz2.trans sz.symm, ?_⟩
    show t.place.size + 0 ≤ t.mask
    omega
  have od : (setO es ep t).data = .set es ep t := rfl
  unfold setAdd
  refine wpAny_holding (wpAny_bind (wpAny_pyHash_tuple (knd := mixKind P w) hu x ?_))
  unfold setAddHashed
  refine wpAny_holding ?_
  rw [show (100000 : Nat) = 99999 + 1 from rfl, setAddHashedIn_succ]
  refine wpAny_bind (wpAny_setState_of (s := { s with toks := s.toks + (k.length + 1) }) ho od hf ?_)
  dsimp only
  rw [if_neg (by simp [byScan, Value.scannable])]
  have lm : (L.map fun p => hsT P w p.2).length ≤ t.mask := by rw [List.length_map]; omega
  obtain ⟨N, n1, n2, n3⟩ := T.first lm (hsT P w k)
  have hbig : 10 * SetTable.turns t.mask ≤ 100000 := by
    unfold SetTable.turns
    omega
  refine wpAny_bind ?_
  unfold setSearch
  refine seek (s := { s with toks := s.toks + (k.length + 1) }) ho hr T hf tup x hu n1 n2 n3 (fun hk => ?_) (fun hk => ?_) 100000 0 none rfl (Nat.zero_le _) (by omega) fun i p hp ek => ?_
  · exact wpAny_pure (hQ false s.heap _ _ L (Heap.SameBut.refl _ _) (Nat.le_add_right _ _) ho O (fun _ => rfl) fun z => absurd hk z)
  · dsimp only
    refine wpAny_bind (wpAny_setState_of (s := { s with toks := s.toks + (k.length + 1) }) ho od hf ?_)
    dsimp only
    obtain ⟨p1, p2, p3, p4, p5, p6, p7, p8, p9⟩ := T.put n2 n3
    generalize t.put (way t.mask (hsT P w k) N) = pt at p1 p3 p4 p5 p6 p7 p8 p9 ⊢
    obtain ⟨t1, pp⟩ := pt
    dsimp only at p1 p3 p4 p5 p6 p7 p8 p9 ⊢
    subst p1
    generalize SetTable.below t.place (way t.mask (hsT P w k) N) = pos at p2 p3 ⊢
    rw [List.length_map] at p2 p9
    have l1 : (SetTable.insertAt es pos (hsT P w k, Value.ref b)).toList = (L.take pos ++ (Value.ref b, k) :: L.drop pos).map (rowT P w) := by
      rw [SetTable.toList_insertAt, hr, List.map_append, List.map_cons, List.map_take, List.map_drop]
    generalize SetTable.insertAt es pos (hsT P w k, Value.ref b) = es1 at l1 ⊢
    have pm : (L.take pos ++ (Value.ref b, k) :: L.drop pos).Perm ((Value.ref b, k) :: L) := by
      have := List.perm_middle (l₁ := L.take pos) (l₂ := L.drop pos) (a := (Value.ref b, k))
      rwa [List.take_append_drop] at this
    have hs1 : (L.take pos ++ (Value.ref b, k) :: L.drop pos).map (fun p => hsT P w p.2) = (L.map fun p => hsT P w p.2).take pos ++ hsT P w k :: (L.map fun p => hsT P w p.2).drop pos := by
      rw [List.map_append, List.map_cons, List.map_take, List.map_drop]
    rw [← hs1] at p3
    generalize L.take pos ++ (Value.ref b, k) :: L.drop pos = L1 at l1 pm p3
    have ll : L1.length = L.length + 1 := by rw [pm.length_eq]; rfl
    have e1 : es1.size = L.length + 1 := by rw [← Array.length_toList, l1, List.length_map, ll]
    have nd1 : (L1.map (·.2)).Nodup := (pm.map (·.2)).nodup_iff.mpr (List.nodup_cons.mpr ⟨hk, nd⟩)
    have fin : ∀ c : Bool, wpAny (model P w) A (do
        let t := if c = true then t1 else { t1 with plain := false }
        storeSet a es1 t
        if (!false && t.tooFull) = true then setRelay a (SetTable.grown (es.size + 1))
        return true) Q E { s with toks := s.toks + (k.length + 1) } := by
      intro c
      obtain ⟨t2, ht2, a1, a2, a3, a4, a5⟩ : ∃ t2, (if c = true then t1 else { t1 with plain := false }) = t2 ∧ t2.place = t1.place ∧ t2.dummies = t1.dummies ∧ t2.mask = t1.mask ∧ t2.led = t1.led ∧ t2.fill = t1.fill := by
        refine ⟨_, rfl, ?_, ?_, ?_, ?_, ?_⟩ <;> split <;> rfl
      simp only [ht2]
      refine wpAny_bind (wpAny_storeSet_of (s := { s with toks := s.toks + (k.length + 1) }) ho od ?_ (by rw [e1, sizeLine_eq]; omega))
      have full : t2.tooFull = false := by
        unfold SetTable.tooFull
        rw [a5, p9, a3, p4, m7]
        exact decide_eq_false (by omega)
      rw [full, if_neg (by decide)]
      refine wpAny_pure (hQ true _ _ _ L1 (Heap.SameBut.update ..) (Nat.le_add_right _ _) (store_at ho od) ⟨es1, ep + 1, t2, rfl, l1, ?_, ?_, nd1, by rw [a3, p4, m7], by omega⟩ (fun z => absurd z hk) fun _ => pm)
      · refine ⟨by rw [a1]; exact p3.ris, by rw [a2]; exact p3.dm, by rw [a1]; exact p3.sz, by rw [a3]; exact p3.mok, by rw [a1, a3]; exact p3.bd, by rw [a1, a3]; exact p3.reach⟩
      · exact le.imp id fun z => by rw [a4, p5]; exact z
    split
    · refine wpAny_bind (byVal (s := { s with toks := s.toks + (k.length + 1) }) x fun c => ?_)
      exact fin c
    · refine wpAny_bind (wpAny_pure ?_)
      exact fin true
  · have hi : (L.map fun p => hsT P w p.2)[i]? = some (hsT P w k) := by rw [List.getElem?_map, hp, ← ek] <;> rfl
    have il : i < t.place.toList.length := by
      have := (List.getElem?_eq_some_iff.mp hp).1
      rw [Array.length_toList]
      omega
    have hj := List.getElem?_eq_getElem il
    obtain ⟨c, hc, e⟩ := T.before n2 hi hj
    exact ⟨c, Nat.zero_le _, hc, by rw [hj, e]⟩
def skT (P : Program) (w : World) : SK P w KS where
  is := fun h v d => ∃ c, v = Value.ref c ∧ isT P w h d c
  Ob := ObT P w
  most := 4
  fresh := ⟨#[], 0, _, rfl, rfl, ⟨List.Pairwise.nil, rfl, rfl, .inl rfl, (fun x hx => nomatch hx), (fun i h j hi => by simp at hi)⟩, by
    show _ ∨ (!w.params.followText "set-order") = true
    cases w.params.followText "set-order" <;> simp, List.nodup_nil, rfl, Nat.zero_le _⟩
  lay := fun {o L} O => by
    obtain ⟨es, ep, t, e, hr, T, le, nd, m7, l4⟩ := O.ex
    have sz : es.size = L.length := by rw [← Array.length_toList, hr, List.length_map]
    have sz2 : t.place.size = L.length := by have := T.sz; rwa [List.length_map] at this
    refine ⟨es, ep, t, e, ?_, by rw [sz]; exact Nat.lt_of_le_of_lt l4 (by decide), T.ris, le, ?_⟩
    · unfold SetTable.fits SetTable.fill
      rw [T.dm, Bool.and_eq_true, beq_iff_eq, decide_eq_true_eq]
      refine ⟨sz2.trans sz.symm, ?_⟩
      show t.place.size + 0 ≤ t.mask
      omega
    · rw [hr, List.map_map]
      exact List.Perm.refl _
  mono := fun ⟨c, e, x⟩ k => ⟨c, e, isT_up x k⟩
  one := fun ⟨c, e, x⟩ ⟨c', e', x'⟩ => by
    rw [e] at e'
    injection e' with e'
    rw [← e'] at x'
    exact x.inj x'
  nd := fun O => by
    obtain ⟨es, ep, t, e, hr, T, le, nd, m7, l4⟩ := O.ex
    exact nd
  add := fun h0 ho O h0a keep tup ⟨c, e, x⟩ hm hu hQ => by
    subst e
    exact addT ho O (fun p hp => by
      obtain ⟨c', e', x'⟩ := tup p hp
      exact ⟨c', e', isT_up x' keep⟩) (isT_up x keep) hm hu hQ
end
end Mi
set_option Elab.async false
set_option linter.all false
set_option maxRecDepth 100000
/-! M20: set(xs), and what collecting it gives. -/
namespace Mi
open PySem L2 PySem.Spec PyProof.Rows PySem.Froz
/-- what the set has of the first i of xs -/
structure GotD {D : Type} (xs : List (Value × D)) (i : Nat) (L : List (Value × D)) : Prop where
  sub : ∀ p ∈ L, p ∈ xs.take i
  all : ∀ p ∈ xs.take i, p.2 ∈ L.map (·.2)
  len : L.length ≤ i
section
variable {P : Program} {w : World} {A : Around} {E : Value → Shared → Prop} {s : Shared} {D : Type}
theorem GotD.nil {xs : List (Value × D)} : GotD xs 0 [] := ⟨(fun p z => nomatch z), (fun p z => by simp at z), Nat.le_refl _⟩
theorem GotD.same {xs L : List (Value × D)} {i : Nat} {p : Value × D} (g : GotD xs i L) (e : xs[i]? = some p) (m : p.2 ∈ L.map (·.2)) : GotD xs (i + 1) L := by
  have t1 : xs.take (i + 1) = xs.take i ++ [p] := by rw [List.take_succ, e] <;> rfl
  refine ⟨fun q z => by rw [t1]; exact List.mem_append_left _ (g.sub q z), fun q z => ?_, Nat.le_succ_of_le g.len⟩
  rw [t1, List.mem_append, List.mem_singleton] at z
  rcases z with z | z
  · exact g.all q z
  · rw [z]; exact m
theorem GotD.more {xs L L' : List (Value × D)} {i : Nat} {p : Value × D} (g : GotD xs i L) (e : xs[i]? = some p) (m : L'.Perm (p :: L)) : GotD xs (i + 1) L' := by
  have t1 : xs.take (i + 1) = xs.take i ++ [p] := by rw [List.take_succ, e] <;> rfl
  refine ⟨fun q z => ?_, fun q z => ?_, by rw [m.length_eq]; exact Nat.succ_le_succ g.len⟩
  · rw [t1, List.mem_append, List.mem_singleton]
    rcases List.mem_cons.mp (m.mem_iff.mp z) with z | z
    · exact .inr z
    · exact .inl (g.sub q z)
  · rw [(m.map (·.2)).mem_iff, List.map_cons]
    rw [t1, List.mem_append, List.mem_singleton] at z
    rcases z with z | z
    · exact .tail _ (g.all q z)
    · rw [z]; exact .head _
/-- the update's loop -/
theorem feed {I : Addr} {fp wr : List Addr} {G : Array GenState → Array GenState → Prop} {n : Nat} {Pv : Nat → Value → Prop} {St : Nat → Shared → Prop} {R : Result → Shared → Prop}
    (K : SK P w D) (W : WalksS P w A.in1 I fp wr G n Pv St) (a : Addr) (af : a ∉ fp) (xs : List (Value × D)) (hn : n = xs.length) (hm : n ≤ K.most) (hv : ∀ i v, Pv i v → ∃ d, xs[i]? = some (v, d))
    (h0 : Heap) (hk : ∀ p ∈ xs, K.is h0 p.1 p.2) (h0a : h0.get? a = none) (h0w : ∀ b ∈ wr, h0.get? b = none) (hu : A.in1.units < cLine) :
    ∀ (k i : Nat) (s : Shared), n - i = k → i ≤ n → St i s → (∀ b u, h0.get? b = some u → s.heap.get? b = some u) → (∃ o L, s.heap.get? a = some o ∧ K.Ob o L ∧ GotD xs i L) →
      (∀ s' o L, Moved (a :: wr) G s s' → s'.heap.get? a = some o → K.Ob o L → GotD xs n L → (∀ b u, h0.get? b = some u → s'.heap.get? b = some u) → R (.ok (.ret .none)) s') →
      codeAny (model P w) A (.builtin "set.update.loop" ⟨[.ref a, .ref I], []⟩) R s := by
  have aw : a ∉ wr := fun z => af (W.sub _ z)
  have up : ∀ {s s' : Shared}, Moved wr G s s' → (∀ b u, h0.get? b = some u → s.heap.get? b = some u) → ∀ b u, h0.get? b = some u → s'.heap.get? b = some u := fun m h b u e =>
    m.heap b u (fun z => by rw [h0w b z] at e; cases e) (h b u e)
  intro k
  induction k with
  | zero =>
    intro i s e hi st keep ⟨o, L, ho, O, g⟩ hR
    have hi' : i = n := by omega
    subst hi'
    refine codeAny_builtin F.entry_set_update_loop ?_
    rw [Around.under_plainId F.plain_set_update_loop _]
    show wpAny _ A.in1 (pyNext (.ref I) >>= _) _ _ s
    refine wpAny_bind (W.done s _ _ st fun s' m => ?_)
    exact wpAny_pure (hR s' o L (m.mono fun b z => List.mem_cons_of_mem _ z) (m.heap a o aw ho) O g (up m keep))
  | succ k ih =>
    intro i s e hi st keep ⟨o, L, ho, O, g⟩ hR
    refine codeAny_builtin F.entry_set_update_loop ?_
    rw [Around.under_plainId F.plain_set_update_loop _]
    show wpAny _ A.in1 (pyNext (.ref I) >>= _) _ _ s
    have lt : i < n := by omega
    refine wpAny_bind (W.item i s _ _ lt st fun v s' pv st' m => ?_)
    obtain ⟨d, hx⟩ := hv i v pv
    have keep' := up m keep
    have inxs : ∀ p ∈ L, p ∈ xs := fun p z => List.mem_of_mem_take (g.sub p z)
    show wpAny _ A.in1 (holding [v] (setAdd a v) >>= _) _ _ s'
    refine wpAny_bind (wpAny_holding ?_)
    refine K.add h0 (m.heap a o aw ho) O h0a keep' (fun p z => hk p (inxs p z)) (hk _ (List.mem_of_getElem? hx)) (by have := g.len; omega) hu fun b h' tk o' L' sb ht ho' O' c1 c2 => ?_
    have g' : GotD xs (i + 1) L' := by
      by_cases c : d ∈ L.map (·.2)
      · rw [c1 c]; exact g.same hx c
      · exact g.more hx (c2 c)
    have keep2 : ∀ b u, h0.get? b = some u → h'.get? b = some u := fun b u z => (sb.2 b fun q => by rw [q, h0a] at z; cases z).trans (keep' b u z)
    refine wpAny_pure ⟨plainId_quiet F.plain_set_update_loop _, ih (i + 1) _ (by omega) lt (W.frame _ s' _ _ st' ht fun c hc u q => ?_) keep2 ⟨o', L', ho', O', g'⟩ fun s2 o2 L2 m2 ho2 O2 g2 k2 => ?_⟩
    · exact (sb.2 c fun z => af (z ▸ hc)).trans q
    · refine hR s2 o2 L2 (Moved.trans W.gtrans ((m.mono fun b z => List.mem_cons_of_mem _ z).then_heap ht fun c u hc q => ?_) m2) ho2 O2 g2 k2
      exact (sb.2 c fun z => hc (z ▸ List.mem_cons_self)).trans q
/-- what is walked: its type's name T, its iterator, its items -/
structure Src (P : Program) (w : World) (h : Heap) (T : String) (l : Addr) (items : Array Value) where
  ty : ∃ dd n sl, h.get? l = some { cls := .type T, dict := dd, data := .seq items n, slots := sl }
  it : Obj
  St : Addr → Nat → Heap → Prop
  iter : ∀ {A : Around} {E : Value → Shared → Prop} {s : Shared} {Q : Value → Shared → Prop}, (∀ b u, h.get? b = some u → s.heap.get? b = some u) → Q (.ref s.heap.objs.size) { s with heap := s.heap.push it } → wpAny (model P w) A (pyIter (.ref l)) Q E s
  walk : ∀ {A : Around} (I : Addr), A.handled = none → l ≠ I → Walks P w A I [I, l] [I] items.size (fun i v => items[i]? = some v) (St I)
  st : ∀ h' : Heap, (∀ b u, h.get? b = some u → h'.get? b = some u) → St h'.objs.size 0 (h'.push it)
  sub1 : isSubtype (.type T) (.type "set") = pure false
  sub2 : isSubtype (.type T) (.type "frozenset") = pure false
  nd : (Value.type T == Value.type "dict") = false
def srcL {h : Heap} {l : Addr} {items : Array Value} (hl : h.IsList l items) : Src P w h "list" l items where
  ty := by
    obtain ⟨⟨c, d, x, sl⟩, h1, h2, n, h3⟩ := hl
    dsimp only at h2 h3
    subst h2 h3
    exact ⟨d, n, sl, h1⟩
  it := { cls := .type "list_iterator", data := .fields #[.ref l, .int 0 0] }
  St := fun I i h' => h'.IsListIter I l i ∧ h'.IsList l items
  iter := fun k q => wpAny_pyIter_list (hl.at (k _)) q
  walk := fun I hh hne => Walks.list hh I l hne items
  st := fun h' k => ⟨⟨_, Heap.get?_push_size _ rfl, rfl, rfl⟩, (hl.at (k _)).push _⟩
  sub1 := F.sub_list_set
  sub2 := F.sub_list_frozenset
  nd := by decide
def srcT {h : Heap} {l : Addr} {items : Array Value} (hl : h.IsTuple l items) : Src P w h "tuple" l items where
  ty := by
    obtain ⟨⟨c, d, x, sl⟩, h1, h2, n, h3⟩ := hl
    dsimp only at h2 h3
    subst h2 h3
    exact ⟨d, n, sl, h1⟩
  it := { cls := .type "tuple_iterator", data := .fields #[.ref l, .int 0 0] }
  St := fun I i h' => h'.IsTupleIter I l i ∧ h'.IsTuple l items
  iter := fun k q => wpAny_pyIter_tuple (hl.at (k _)) q
  walk := fun I hh hne => Walks.tuple hh I l hne items
  st := fun h' k => ⟨⟨_, Heap.get?_push_size _ rfl, rfl, rfl⟩, (hl.at (k _)).push _⟩
  sub1 := F.sub_tuple_set
  sub2 := F.sub_tuple_frozenset
  nd := by decide
set_option maxHeartbeats 4000000 in
/-- set(x) -/
theorem set_by {T : String} {l : Addr} {items : Array Value} (B : Src P w s.heap T l items) (K : SK P w D) (xs : List (Value × D)) (hi : items.toList = xs.map (·.1)) (hk : ∀ p ∈ xs, K.is s.heap p.1 p.2) (hm : xs.length ≤ K.most)
    (hh : A.handled = none) (hu : A.units + 3 < cLine) {Q : Value → Shared → Prop}
    (hQ : ∀ h' tk o L, h'.get? s.heap.objs.size = some o → K.Ob o L → GotD xs xs.length L → (∀ b u, s.heap.get? b = some u → h'.get? b = some u) → Q (.ref s.heap.objs.size) { s with heap := h', toks := tk }) :
    wpAny (model P w) A (call (.type "set") [.ref l]) Q E s := by
  have hn : items.size = xs.length := by rw [← Array.length_toList, hi, List.length_map]
  obtain ⟨mro0, mro1, mro2⟩ := F.called_set.mro
  obtain ⟨m1, m2, m3, m4, m5⟩ := (⟨F.called_set.made, F.called_set.sub, F.called_set.notType, F.called_set.canCreate, F.typeCall_set_1 (.ref l)⟩ : _ ∧ _ ∧ _ ∧ _ ∧ _)
  refine wpAny_call (codeAny_of_tree (show wpAny _ _ (callAny (.type "set") _) _ _ _ from wpAny_pure ⟨Code.quiet_builtin _ (by decide +kernel), codeAny_builtin F.entry_type_call ?_⟩))
  rw [Around.under_plain (weight_type_call_type "set" [.ref l] []) rfl]
  repeat (any_goals (first | assumption | wp_step))
  refine codeAny_mono (code_set_led1 (.ref l) (E := E) (Q₁ := fun r s1 => r = .ref s.heap.objs.size ∧ s1 = { s with heap := s.heap.push (newSetO w) }) ⟨rfl, rfl⟩) fun r s1 hr => ?_
  match r, hr with
  | .error e, hr => exact hr
  | .ok (.ret obj), hr =>
    obtain ⟨rfl, rfl⟩ := hr
    have oS : (s.heap.push (newSetO w)).get? s.heap.objs.size = some (newSetO w) := Heap.get?_push_size _ rfl
    have tS : Shared.TypeIs { s with heap := s.heap.push (newSetO w) } (.ref s.heap.objs.size) "set" := ⟨_, oS, rfl⟩
    obtain ⟨i1, i2⟩ := (⟨F.called_set.init.lookup, F.called_set.init.bind (.ref s.heap.objs.size)⟩ : _ ∧ _)
    repeat (any_goals (first | assumption | wp_step))
    refine codeAny_mono (codeAny_call_builtin (R := wants (fun r s2 => r = .none ∧ ∃ h' tk o L, s2 = { s with heap := h', toks := tk } ∧ h'.get? s.heap.objs.size = some o ∧ K.Ob o L ∧ GotD xs xs.length L ∧
        ∀ b u, s.heap.get? b = some u → h'.get? b = some u) E) F.called_set.init.plain F.entry_set_init (check_set_init_1 tS ?_)) fun r2 s2 hr2 => ?_
    · obtain ⟨dd, nn, sl, ol⟩ := B.ty
      have ol' : (s.heap.push (newSetO w)).get? l = some { cls := .type T, dict := dd, data := .seq items nn, slots := sl } := Heap.get?_push_of_some _ ol
      have sub1 := B.sub1
      have sub2 := B.sub2
      have nd := B.nd
      have lS : l < s.heap.objs.size := Heap.lt_size ol
      have sz1 : (s.heap.push (newSetO w)).objs.size = s.heap.objs.size + 1 := Heap.size_push ..
      have notI : s.heap.objs.size ∉ [(s.heap.push (newSetO w)).objs.size, l] := fun z => by
        rw [sz1] at z
        rcases List.mem_cons.mp z with z | z
        · exact absurd z (Nat.ne_of_lt (Nat.lt_succ_self _))
        · exact absurd (List.mem_singleton.mp z) (Nat.ne_of_gt lS)
      have free : ∀ b, s.heap.objs.size ≤ b → s.heap.get? b = none := fun b hb => by
        cases q : s.heap.get? b with
        | none => rfl
        | some u => exact absurd (Heap.lt_size q) (Nat.not_lt.mpr hb)
      unfold Builtin.«set.__init__» noKeywords Builtin.Frozenset.updateFrom
      generalize hPI : pyIter = PI
      wp_walk
      subst hPI
      refine B.iter (fun b u e => Heap.get?_push_of_some _ e) ?_
      refine wpAny_bind (wpAny_runValue ?_)
      refine feed K ((B.walk (A := A.in1.in1.in1) _ (by simp [hh]) (Nat.ne_of_lt (by rw [sz1]; exact Nat.lt_succ_of_lt lS))).toS) s.heap.objs.size notI xs hn (by rw [hn]; exact hm)
        (fun i v e => ?_) s.heap hk (free _ (Nat.le_refl _)) (fun b hb => free b (by rw [List.mem_singleton.mp hb, sz1]; exact Nat.le_succ _)) hu (items.size - 0) 0 _ rfl (Nat.zero_le _)
        (B.st _ fun b u e => Heap.get?_push_of_some _ e) (fun b u e => Heap.get?_push_of_some _ (Heap.get?_push_of_some _ e)) ⟨newSetO w, [], Heap.get?_push_of_some _ oS, K.fresh, GotD.nil⟩ fun s3 o L m h3 O g keep => ?_
      · have q : (xs.map (·.1))[i]? = some v := by rw [← hi, Array.getElem?_toList]; exact e
        rw [List.getElem?_map] at q
        cases z : xs[i]? with
        | none => rw [z] at q; cases q
        | some p =>
          rw [z] at q
          cases q
          exact ⟨p.2, rfl⟩
      · obtain ⟨h3', g3, d3, k3, c3⟩ := s3
        have eg : g3 = s.gens := m.gens
        have ed : d3 = s.drawn := m.drawn
        have eo : c3 = s.os := m.os
        subst eg ed eo
        show wpAny _ _ _ _ _ _
        refine wpAny_pure ?_
        show wpAny _ _ (ret Value.none) _ _ _
        rw [hn] at g
        exact wpAny_pure ⟨rfl, h3', k3, o, L, rfl, h3, O, g, keep⟩
    · match r2, hr2 with
      | .error e, hr2 => exact hr2
      | .ok (.ret r), hr2 =>
        obtain ⟨rfl, h', tk, o, L, rfl, h3, O, g, keep⟩ := hr2
        repeat (any_goals (first | assumption | wp_step))
        exact hQ _ _ _ _ h3 O g keep
end
end Mi
set_option Elab.async false
set_option linter.all false
set_option maxRecDepth 100000
/-! M21: sorted(set(x)), len(set(x)). -/
namespace Mi
open PySem L2 PySem.Spec PyProof.Rows PySem.Froz
/-! ### plain: without repeats -/
section
variable {α β : Type}
def dd [DecidableEq α] : List α → List α
  | [] => []
  | x :: xs => if x ∈ xs then dd xs else x :: dd xs
theorem mem_dd [DecidableEq α] {y : α} : ∀ {xs : List α}, y ∈ dd xs ↔ y ∈ xs
  | [] => Iff.rfl
  | x :: xs => by
    unfold dd
    split
    · rename_i h
      rw [mem_dd, List.mem_cons]
      exact ⟨.inr, fun z => z.elim (fun e => e ▸ h) id⟩
    · rw [List.mem_cons, List.mem_cons, mem_dd]
theorem nodup_dd [DecidableEq α] : ∀ xs : List α, (dd xs).Nodup
  | [] => List.nodup_nil
  | x :: xs => by
    unfold dd
    split
    · exact nodup_dd xs
    · rename_i h
      exact List.nodup_cons.mpr ⟨fun z => h (mem_dd.mp z), nodup_dd xs⟩
theorem dd_len [DecidableEq α] : ∀ xs : List α, (dd xs).length ≤ xs.length
  | [] => Nat.le_refl _
  | x :: xs => by
    unfold dd
    split
    · exact Nat.le_succ_of_le (dd_len xs)
    · exact Nat.succ_le_succ (dd_len xs)
def allP (f : α → Option β) : List α → Option (List β)
  | [] => some []
  | x :: xs => match f x, allP f xs with
    | some y, some ys => some (y :: ys)
    | _, _ => none
theorem allP_inv {f : α → Option β} {g : β → α} (hf : ∀ x y, f x = some y → x = g y) : ∀ {xs : List α} {ys : List β}, allP f xs = some ys → xs = ys.map g
  | [], ys, h => by cases h; rfl
  | x :: xs, ys, h => by
    unfold allP at h
    split at h
    · rename_i y ys' h1 h2
      cases h
      rw [List.map_cons, ← hf x y h1, ← allP_inv hf h2]
    · cases h
end
def kyD : Key → PyData
  | .inl i => .int i
  | .inr x => .str x
def tkD (k : KS) : PyData := .tuple (k.map kyD)
def strP : PyData → Option Str
  | .str x => some x
  | _ => none
def tkP : PyData → Option KS
  | .tuple xs => allP keyK xs
  | _ => none
theorem keyK_inv (x : PyData) (k : Key) (h : keyK x = some k) : x = kyD k := by
  cases x <;> first | (cases h; rfl) | cases h
theorem strP_inv (x : PyData) (k : Str) (h : strP x = some k) : x = .str k := by
  cases x <;> first | (cases h; rfl) | cases h
theorem tkP_inv (x : PyData) (k : KS) (h : tkP x = some k) : x = tkD k := by
  cases x with
  | tuple xs => rw [allP_inv keyK_inv (show allP keyK xs = some k from h)]; rfl
  | _ => cases h
/-- a set's members, in some order -/
def setDs (ds : List PyData) : Option (List PyData) := match allP strP ds with
  | some xs => if xs.length ≤ 4000 then some ((dd xs).map .str) else none
  | none => match allP tkP ds with
    | some ks => if ks.length ≤ 4 then some ((dd ks).map tkD) else none
    | none => none
abbrev dle : PyData → PyData → Bool := W.dataLe false id
/-- a list that stands in strict order -/
def stO (r : List PyData) : Bool := match r with
  | [] => true
  | x :: xs => dle x x && xs.all (fun y => dle x y && !dle y x) && stO xs
theorem stO_at : ∀ {r : List PyData}, stO r = true → ∀ (i j : Nat) (x y : PyData), r[i]? = some x → r[j]? = some y → dle x y = decide (i ≤ j)
  | [], _, i, j, x, y, h1, h2 => by simp at h1
  | z :: zs, h, i, j, x, y, h1, h2 => by
    unfold stO at h
    simp only [Bool.and_eq_true, List.all_eq_true, Bool.not_eq_true'] at h
    obtain ⟨⟨k1, k2⟩, k3⟩ := h
    cases i with
    | zero =>
      cases h1
      cases j with
      | zero => cases h2; simp [k1]
      | succ j => rw [(k2 y (List.mem_of_getElem? h2)).1]; simp
    | succ i =>
      cases j with
      | zero => cases h2; rw [(k2 x (List.mem_of_getElem? h1)).2]; simp
      | succ j =>
        rw [stO_at k3 i j x y h1 h2]
        simp
theorem srt_perm {es ds : List PyData} (h : stO (srt es) = true) (p : ds.Perm es) : srt ds = srt es := by
  have m : ∀ d, d ∈ ds → ∃ i, (srt es)[i]? = some d := fun d hd => List.getElem?_of_mem ((List.mergeSort_perm es dle).mem_iff.mpr (p.mem_iff.mp hd))
  -- an order on everything that agrees there
  have cx : ∀ d : PyData, ∃ n, (∃ i, (srt es)[i]? = some d) → (srt es)[n]? = some d := fun d => by
    by_cases z : ∃ i : Nat, (srt es)[i]? = some d
    · exact ⟨z.choose, fun _ => z.choose_spec⟩
    · exact ⟨0, fun y => absurd y z⟩
  obtain ⟨ix, hix⟩ := Classical.axiomOfChoice cx
  let le : PyData → PyData → Bool := fun a b => decide (ix a ≤ ix b)
  have ag : ∀ a, a ∈ ds → ∀ b, b ∈ ds → dle a b = le a b := fun a ha b hb => stO_at h _ _ a b (hix a (m a ha)) (hix b (m b hb))
  have e1 : srt ds = ds.mergeSort le := by
    have := List.map_mergeSort (r := dle) (s := le) (f := id) (l := ds) ag
    rw [List.map_id, List.map_id] at this
    exact this
  have e2 : (srt es).Pairwise fun a b => le a b = true := by
    refine List.pairwise_iff_getElem.mpr fun i j hi hj hij => ?_
    have h1 : (srt es)[i]? = some (srt es)[i] := List.getElem?_eq_getElem hi
    have h2 : (srt es)[j]? = some (srt es)[j] := List.getElem?_eq_getElem hj
    have := stO_at h _ _ _ _ (hix _ ⟨i, h1⟩) (hix _ ⟨j, h2⟩)
    show decide (ix _ ≤ ix _) = true
    rw [← this, stO_at h i j _ _ h1 h2]
    exact decide_eq_true (Nat.le_of_lt hij)
  have e3 : (ds.mergeSort le).Pairwise fun a b => le a b = true := List.pairwise_mergeSort (fun a b c => by simp only [le, decide_eq_true_eq]; omega) (fun a b => by simp only [le, Bool.or_eq_true, decide_eq_true_eq]; omega) ds
  rw [e1]
  refine List.Perm.eq_of_pairwise (fun a b ha hb h1 h2 => ?_) e3 e2 ((List.mergeSort_perm ds le).trans (p.trans (List.mergeSort_perm es dle).symm))
  have ha' := hix a (m a ((List.mergeSort_perm ds le).mem_iff.mp ha))
  have hb' := hix b (List.getElem?_of_mem hb)
  have : ix a = ix b := Nat.le_antisymm (of_decide_eq_true h1) (of_decide_eq_true h2)
  rw [this, hb'] at ha'
  cases ha'
  rfl
end Mi
set_option Elab.async false
set_option linter.all false
set_option maxRecDepth 100000
/-! M22: sorted(set(x)), len(set(x)) as rules. -/
namespace Mi
open PySem L2 PySem.Spec PyProof.Rows PySem.Froz
/-- the set at a, its members in some order -/
def SetH (w : World) (a : Addr) (us : List Value) : HO := .ext fun h => ∃ o, h.get? a = some o ∧ LayO w o us
section
variable {F : Fx} {X : Cx} {σ : L2.St} {H : Hp} {r : Rho} {s : Sto} {A : List Addr} {Hd : Hp} {x : V} {Q : VK}
theorem perm_back {α β : Type} {f : α → β} : ∀ {out : List β} {L : List α}, out.Perm (L.map f) → ∃ L' : List α, L'.Perm L ∧ L'.map f = out
  | [], L, h => by
    have : L = [] := by
      have := h.length_eq
      rw [List.length_map] at this
      exact List.eq_nil_of_length_eq_zero this.symm
    subst this
    exact ⟨[], .nil, rfl⟩
  | v :: out, L, h => by
    obtain ⟨p, hp, e⟩ := List.mem_map.mp (h.mem_iff.mp List.mem_cons_self)
    obtain ⟨l1, l2, rfl⟩ := List.append_of_mem hp
    have h2 : (v :: out).Perm (v :: (l1 ++ l2).map f) := by
      refine h.trans ?_
      rw [← e, ← List.map_cons]
      exact List.perm_middle.map f
    obtain ⟨L', a, b⟩ := perm_back (List.perm_cons v |>.mp h2)
    exact ⟨p :: L', (a.cons p).trans List.perm_middle.symm, by rw [List.map_cons, e, b]⟩
theorem setDs_cases {ds es : List PyData} (h : setDs ds = some es) (P : Program) (w : World) : (∃ ks : List Str, ds = ks.map .str ∧ ks.length ≤ (skS P w).most ∧ es = (dd ks).map .str) ∨ ∃ ks : List KS, ds = ks.map tkD ∧ ks.length ≤ (skT P w).most ∧ es = (dd ks).map tkD := by
  unfold setDs at h
  split at h
  · rename_i ks e
    split at h
    · cases h
      exact .inl ⟨ks, allP_inv strP_inv e, ‹_›, rfl⟩
    · cases h
  · split at h
    · rename_i ks e
      split at h
      · cases h
        exact .inr ⟨ks, allP_inv tkP_inv e, ‹_›, rfl⟩
      · cases h
    · cases h
theorem reads_mix {P : Program} {w : World} {h : Heap} : ∀ {k : KS} {vs : List Value} {as : List Addr}, ReadsAll h vs (k.map kyD) as → ItemsAre (mixKind P w) k vs
  | [], _, _, .nil => .nil
  | k :: ks, _, _, .cons r t => by
    refine .cons ?_ (reads_mix t)
    cases k with
    | inl i => cases r with | int _ t => exact keyIs_int i t
    | inr y => cases r with | str _ t => exact keyIs_str y t
theorem reads_isT {P : Program} {w : World} {h : Heap} {v : Value} {k : KS} {as : List Addr} (r : Reads h v (tkD k) as) : (skT P w).is h v k := by
  unfold tkD at r
  cases r with
  | tuple h1 h2 h3 h4 => exact ⟨_, rfl, _, _, _, h1, h2, h3, reads_mix h4⟩
theorem reads_isS {P : Program} {w : World} {h : Heap} {v : Value} {k : Str} {as : List Addr} (r : Reads h v (.str k) as) : (skS P w).is h v k := by
  cases r with
  | str _ t => exact ⟨t, rfl⟩
def rSetI (K : PySem.W.Frag) (w : World) (Rel : V → PyData → Prop) : List V → Hp → VK → Prop := fun xs H Q => ∃ a vs ds es, xs = [.ref a] ∧ (SqL K H a vs ∨ SqT K H a vs) ∧ All2 Rel vs ds ∧ (∀ x d, Rel x d → Dp K H x d) ∧ setDs ds = some es ∧
  ∀ p us vs' ds', H p = none → Vals vs' us → All2 Rel vs' ds' → ds'.Perm es → Q (.ref p) (upd H p (SetH w p us))
theorem setH_new {w : World} {P : Program} {H : Hp} {h : Heap} {a : Addr} {us : List Value} {o : Obj} (ho : h.get? a = some o) (L : LayO w o us) : ObjOk P w H h a (SetH w a us) :=
  ⟨⟨o, ho, L⟩, ⟨o, ho⟩, fun h1 h2 ⟨o', z, l⟩ k => ⟨o', k o' z, l⟩⟩
theorem rows3 {D : Type} {py : D → PyData} {Rel : V → PyData → Prop} : ∀ {vs : List V} {its : List Value} {ks : List D}, Vals vs its → All2 Rel vs (ks.map py) → ∃ xs : List (Value × D), xs.map (·.1) = its ∧ xs.map (·.2) = ks ∧ ∀ p ∈ xs, ∃ x, RelV x p.1 ∧ Rel x (py p.2)
  | _, _, [], .nil, _ => ⟨[], rfl, rfl, fun p z => nomatch z⟩
  | v :: _, u :: _, k :: _, .cons r t, h => by
    obtain ⟨xs, a, b, c⟩ := rows3 t h.2
    refine ⟨(u, k) :: xs, by rw [List.map_cons, a], by rw [List.map_cons, b], fun p z => ?_⟩
    rcases List.mem_cons.mp z with z | z
    · rw [z]; exact ⟨v, r, h.1⟩
    · exact c p z
  | [], _, _ :: _, _, h => h.elim
  | _ :: _, _, [], _, h => h.elim
theorem rows_back {D : Type} {py : D → PyData} {Rel : V → PyData → Prop} : ∀ {L : List (Value × D)}, (∀ p ∈ L, ∃ x, RelV x p.1 ∧ Rel x (py p.2)) → ∃ vs, Vals vs (L.map (·.1)) ∧ All2 Rel vs (L.map fun p => py p.2)
  | [], _ => ⟨[], .nil, trivial⟩
  | p :: L, h => by
    obtain ⟨x, a, b⟩ := h p List.mem_cons_self
    obtain ⟨vs, c, d⟩ := rows_back fun q z => h q (.tail _ z)
    exact ⟨x :: vs, .cons a c, b, d⟩
/-- the kind's part -/
theorem set_kind {D : Type} [DecidableEq D] (K : SK X.prog X.w D) (py : D → PyData) (hpy : ∀ h v d as, Reads h v (py d) as → K.is h v d) {Rel : V → PyData → Prop} {pins : List (Addr × Obj)} {st : Shared} (I : Inv X pins σ H st) (hc : X.A.handled = none) (hu : X.A.units + 65 < cLine)
    {a : Addr} {vs : List V} {ks : List D} (hq : SqL X.K H a vs ∨ SqT X.K H a vs) (hA : All2 Rel vs (ks.map py)) (hD : ∀ x d, Rel x d → Dp X.K H x d) (hm : ks.length ≤ K.most)
    (q : ∀ p us vs' ds', H p = none → Vals vs' us → All2 Rel vs' ds' → ds'.Perm ((dd ks).map py) → Q (.ref p) (upd H p (SetH X.w p us))) : wpAny (model X.prog X.w) X.A (call (.type "set") [.ref a]) (EP X pins σ Q) X.xe st := by
  obtain ⟨T, its, rv, B⟩ : ∃ T its, Vals vs its ∧ Nonempty (Src X.prog X.w st.heap T a its.toArray) := by
    rcases hq with hq | hq
    · obtain ⟨its, rv, pl, _⟩ := I.list hq
      exact ⟨_, its, rv, ⟨srcL pl.isList⟩⟩
    · obtain ⟨its, rv, pl, _⟩ := I.tuple hq
      exact ⟨_, its, rv, ⟨srcT pl⟩⟩
  obtain ⟨B⟩ := B
  obtain ⟨xs, x1, x2, x3⟩ := rows3 rv hA
  refine set_by B K xs (by simpa using x1.symm) (fun p z => ?_) (by rw [← x2, List.length_map] at hm; exact hm) hc (by omega) fun h' tk o L ho O g keep => ?_
  · obtain ⟨x, r1, r2⟩ := x3 p z
    obtain ⟨as, rd⟩ := Dp.reads I _ _ _ (hD x _ r2) r1
    exact hpy _ _ _ _ rd
  · have tk0 : xs.take xs.length = xs := List.take_length
    have sub : ∀ p ∈ L, p ∈ xs := fun p z => by have := g.sub p z; rwa [tk0] at this
    obtain ⟨vs', v1, v2⟩ := rows_back fun p z => x3 p (sub p z)
    have pm : (L.map (·.2)).Perm (dd ks) := by
      refine (List.perm_ext_iff_of_nodup (K.nd O) (nodup_dd ks)).mpr fun d => ?_
      rw [mem_dd, ← x2]
      refine ⟨fun z => ?_, fun z => ?_⟩
      · obtain ⟨p, hp, e⟩ := List.mem_map.mp z
        exact List.mem_map.mpr ⟨p, sub p hp, e⟩
      · obtain ⟨p, hp, e⟩ := List.mem_map.mp z
        rw [← e]
        exact g.all p (by rw [tk0]; exact hp)
    have hpn : H st.heap.objs.size = none := I.hok.fresh (Nat.le_refl _)
    refine ⟨.ref _, upd H st.heap.objs.size (SetH X.w st.heap.objs.size (L.map (·.1))), I.laid (t' := tk) keep (Nat.le_refl _) (setH_new ho (K.lay O)), rfl, q _ _ vs' _ hpn v1 v2 ?_⟩
    have := pm.map py
    rwa [List.map_map] at this
theorem cr_setI (hc : X.calm = true) (hu : X.A.units + 65 < cLine) {Rel : V → PyData → Prop} : CallR X (.type "set") (rSetI X.K X.w Rel) := by
  intro pins st σ H xs us Q I rr h
  obtain ⟨a, vs, ds, es, rfl, hq, hA, hD, hs, q⟩ := h
  obtain ⟨u, rfl, rx⟩ := vals1 rr
  cases rx
  rcases setDs_cases hs X.prog X.w with ⟨ks, rfl, hm, rfl⟩ | ⟨ks, rfl, hm, rfl⟩
  · exact set_kind (skS X.prog X.w) PyData.str (fun _ _ _ _ => reads_isS) I (I.ok.hd hc) hu hq hA hD hm q
  · exact set_kind (skT X.prog X.w) tkD (fun _ _ _ _ => reads_isT) I (I.ok.hd hc) hu hq hA hD hm q
def rSortH (K : PySem.W.Frag) (w : World) (Rel : V → PyData → Prop) : List V → Hp → VK → Prop := fun xs H Q => ∃ a us vs ds es, xs = [.ref a] ∧ H a = some (SetH w a us) ∧ Vals vs us ∧ All2 Rel vs ds ∧ (∀ x d, Rel x d → Dp K H x d) ∧ ds.Perm es ∧ srtOk es = true ∧ stO (srt es) = true ∧
  ∀ p vs', H p = none → All2 Rel vs' (srt es) → Q (.ref p) (upd H p (.lst vs'))
theorem cr_sortH (hc : X.calm = true) (hu : X.A.units + 65 < cLine) {Rel : V → PyData → Prop} : CallR X (.builtin "sorted") (rSortH X.K X.w Rel) := by
  intro pins s σ H xs us Q I rr h
  obtain ⟨a, su, vs, ds, es, rfl, hS, hv, hA, hD, pm, hok, hst, q⟩ := h
  obtain ⟨u, rfl, rx⟩ := vals1 rr
  cases rx
  obtain ⟨h1, h2, h3, h4⟩ := srtOk_of hok
  obtain ⟨o, ho, L⟩ := (I.hok a _ hS).1
  obtain ⟨ss, ep, t, rfl, lf, lz, lr, ll, lp⟩ := L.ex
  have er : ∀ h', (∀ b o, s.heap.get? b = some o → h'.get? b = some o) → ∀ v d, (∃ x, RelV x v ∧ Rel x d) → ∃ as, Reads h' v d as := fun h' hk v d ⟨x, r1, r2⟩ => by
    obtain ⟨as, k⟩ := Dp.reads I d x v (hD x d r2) r1
    exact ⟨as, PyProof.Rows.Reads.keeps hk k⟩
  refine sorted_any (PD := fun l => l.Perm es) (R := fun v d => ∃ x, RelV x v ∧ Rel x d) (fun Q' hQ' => ?_) er (fun l e d hd d' hd' => h1 d (e.mem_iff.mp hd) d' (e.mem_iff.mp hd')) (fun l e => ?_) (fun l e => by rw [e.length_eq]; exact h4)
    (fun l e d hd => by have := h3 d (e.mem_iff.mp hd); omega) fun s' p out c l e hk hg hos hp he hE => ?_
  · refine collect_set (A := X.A.in1) (I.ok.hd hc) ⟨_, ho, rfl, rfl⟩ lf lz lr ll fun s1 out k1 sz g1 o1 po => ?_
    -- what came out, with its data
    have e0 : W.EachIs (fun v d => ∃ x, RelV x v ∧ Rel x d) su ds := each_of hv hA
    obtain ⟨rows, y1, y2, y3⟩ : ∃ rows : List (Value × PyData), rows.map (·.1) = su ∧ rows.map (·.2) = ds ∧ ∀ p ∈ rows, ∃ x, RelV x p.1 ∧ Rel x p.2 := by
      have := rows3 (py := fun d : PyData => d) hv (by rw [List.map_id']; exact hA)
      exact this
    have po2 : out.Perm (rows.map (·.1)) := by rw [y1]; exact po.trans lp
    obtain ⟨rows', z1, z2⟩ := perm_back po2
    obtain ⟨vs2, w1, w2⟩ := rows_back (py := fun d : PyData => d) fun p z => y3 p (z1.mem_iff.mp z)
    refine hQ' out s1 (rows'.map (·.2)) ?_ k1 sz g1 o1 ?_
    · have := z1.map (fun p : Value × PyData => p.2)
      rw [y2] at this
      exact this.trans pm
    · rw [z2] at w1
      exact each_of w1 w2
  · rcases h2 with h2 | h2
    · rcases h2 with h2 | h2
      · exact .inl (.inl fun d hd => h2 d (e.mem_iff.mp hd))
      · exact .inl (.inr fun d hd => h2 d (e.mem_iff.mp hd))
    · exact .inr fun d hd => h2 d (e.mem_iff.mp hd)
  · have hE' : W.EachIs (fun v d => ∃ x, RelV x v ∧ Rel x d) out (srt es) := by rw [← srt_perm hst e]; exact hE
    obtain ⟨vs', k1, k2⟩ := of_each hE'
    obtain ⟨hh, g, d, t', os⟩ := s'
    cases (show g = s.gens from hg)
    cases (show os = s.os from hos)
    have hl : vs'.length ≤ sizeLine := by
      rw [All2.len k2]
      show (es.mergeSort _).length ≤ sizeLine
      rw [List.length_mergeSort]; exact h4
    have hpn : H p = none := I.hok.fresh hp
    refine ⟨.ref p, upd H p (.lst vs'), ?_, rfl, q p vs' hpn k2⟩
    have I1 := I.laid (h' := hh) (t' := t') (o := .lst vs') hk hp ⟨hl, out, c, k1, he⟩
    have I2 := I1.call (g' := s.gens) (d' := d) (t' := t') (ch := []) Un.refl I1.hok I1.bare (fun _ z => nomatch z)
    exact I2
def rLenH (w : World) : List V → Hp → VK → Prop := fun xs H Q => ∃ a us, xs = [.ref a] ∧ H a = some (SetH w a us) ∧ Q (.int us.length) H
theorem cr_lenH : CallR X (.builtin "len") (rLenH X.w) := by
  intro pins s σ H xs us Q I rr h
  obtain ⟨a, su, rfl, hS, q⟩ := h
  obtain ⟨u, rfl, rx⟩ := vals1 rr
  cases rx
  obtain ⟨o, ho, L⟩ := (I.hok a _ hS).1
  obtain ⟨ss, ep, t, rfl, lf, lz, lr, ll, lp⟩ := L.ex
  have e : ss.size = su.length := by
    have := lp.length_eq
    rwa [List.length_map, Array.length_toList] at this
  refine call_len_set ho ⟨rfl, rfl, rfl⟩ rfl lf (by show ((ss.size : Nat) : Int) < 2 ^ 63; unfold scanBound at lz; omega) ⟨.int su.length, H, I.tok _, ⟨_, by rw [e]⟩, q⟩
end
end Mi
set_option Elab.async false
set_option linter.all false
set_option maxRecDepth 100000
/-! M23: sorted(set(x)), len(set(x)) in the small reading; texts walked. -/
namespace Mi
open PySem L2 PySem.Spec PyProof.Rows
section
variable {F : Fx} {X : Cx} {σ : L2.St} {H : Hp} {r : Rho} {s : Sto} {A : List Addr} {Hd : Hp} {x : V} {Q : VK}
def srtSetC (c : Ct) : Option Rv := (seq? c).bind fun ds => (setDs ds).bind fun es => if srtOk es && stO (srt es) then some (.fr (.lst (srt es))) else none
def lenSetC (c : Ct) : Option Rv := (seq? c).bind fun ds => (setDs ds).bind fun es => some (ad (.int es.length))
theorem seq_at (G : Good F σ H r s A Hd) {c : Ct} {ds : List PyData} (hc : CtR F H Hd x c) (e : seq? c = some ds) : ∃ a vs, x = .ref a ∧ (SqL F.K H a vs ∨ SqT F.K H a vs) ∧ DvAll F Hd vs ds := by
  unfold seq? at e
  split at e
  · cases e
    obtain ⟨a, vs, rfl, k1, k2⟩ := hc.1.tup
    exact ⟨a, vs, rfl, .inr (G.le.sqt k1), k2⟩
  · cases e
    obtain ⟨a, vs, rfl, k1, k2⟩ := hc
    exact ⟨a, vs, rfl, .inl (.inl (Rd.of k1)), k2⟩
  · cases e
def rSrtSet (F : Fx) (w : World) (Hd : Hp) : List V → Hp → VK → Prop := fun xs H Q => rSetI F.K w (Dv F Hd) xs H fun x H1 => rSortH F.K w (Dv F Hd) [x] H1 Q
theorem o1_srtSet (w : World) : Op1 F srtSetC (fun xs H Q => ∃ Hd, rSrtSet F w Hd xs H Q) := by
  intro σ H r s A Hd x c v Q G hc e W
  unfold srtSetC at e
  cases e1 : seq? c with
  | none => rw [e1] at e; cases e
  | some ds =>
    rw [e1, Option.bind_some] at e
    cases e2 : setDs ds with
    | none => rw [e2] at e; cases e
    | some es =>
      rw [e2, Option.bind_some] at e
      split at e
      · rename_i hz
        cases e
        rw [Bool.and_eq_true] at hz
        obtain ⟨a, vs, rfl, k1, k2⟩ := seq_at G hc e1
        refine ⟨Hd, a, vs, ds, es, rfl, k1, all2_dv k2, fun x d h => (h.le G.le).1.dp, e2, fun p us vs' ds' hp hv hA pm => ?_⟩
        have G1 := G.grow (Le.upd (o := SetH w p us) hp)
        exact ⟨p, us, vs', ds', es, rfl, upd_same, hv, hA, fun x d h => (h.le G1.le).1.dp, pm, hz.1, hz.2, fun p2 vs2 hp2 h2 => fin_lst G1 hp2 (dv_all2 h2) W⟩
      · cases e
theorem dd_same {es ds : List PyData} (pm : ds.Perm es) {us : List Value} {vs : List V} (hv : Vals vs us) (hA : All2 (Dv F Hd) vs ds) : us.length = es.length := by rw [← hv.length, All2.len hA, pm.length_eq]
def rLenSet (F : Fx) (w : World) (Hd : Hp) : List V → Hp → VK → Prop := fun xs H Q => rSetI F.K w (Dv F Hd) xs H fun x H1 => rLenH w [x] H1 Q
theorem o1_lenSet (w : World) : Op1 F lenSetC (fun xs H Q => ∃ Hd, rLenSet F w Hd xs H Q) := by
  intro σ H r s A Hd x c v Q G hc e W
  unfold lenSetC at e
  cases e1 : seq? c with
  | none => rw [e1] at e; cases e
  | some ds =>
    rw [e1, Option.bind_some] at e
    cases e2 : setDs ds with
    | none => rw [e2] at e; cases e
    | some es =>
      rw [e2, Option.bind_some] at e
      cases e
      obtain ⟨a, vs, rfl, k1, k2⟩ := seq_at G hc e1
      refine ⟨Hd, a, vs, ds, es, rfl, k1, all2_dv k2, fun x d h => (h.le G.le).1.dp, e2, fun p us vs' ds' hp hv hA pm => ?_⟩
      have G1 := G.grow (Le.upd (o := SetH w p us) hp)
      refine ⟨p, us, rfl, upd_same, ?_⟩
      rw [dd_same pm hv hA]
      exact W _ _ A _ G1 (List.prefix_refl _) Le.rfl ⟨.int _, rfl⟩
theorem callR_ex {ι : Type} {f : Value} {R : ι → List V → Hp → VK → Prop} (h : ∀ i, CallR X f (R i)) : CallR X f (fun xs H Q => ∃ i, R i xs H Q) := fun pins s σ H xs us Q I rr ⟨i, z⟩ => h i pins s σ H xs us Q I rr z
/-- f(set(e)) -/
theorem pe_ofSet (hK : F.K = X.K) (hc : X.calm = true) (hu : X.A.units + 65 < cLine) {f : Str} {id : String} {a : Expr} {p p2 q pos : Pos} {m : M Rv} {C : Ct → Option Rv} {R : Hp → List V → Hp → VK → Prop}
    (hR : ∀ Hd, CallR X (.builtin id) (R Hd)) (ho : Op1 F C fun xs H Q => ∃ Hd, rSetI F.K X.w (Dv F Hd) xs H fun x H1 => R Hd [x] H1 Q)
    (hg : Gl X f) (hm : X.mg f = none) (hb : bootBuiltins f = some (.builtin id)) (hg2 : Gl X "set") (hm2 : X.mg "set" = none) (ha : PA X [a] (tIs F (evs [m])))
    (hn : f ≠ "__name__" := by decide) (hd : (f == ("__debug__" : Str)) = false := by decide)
    (s1 : starEach [a] X.env = (false, eval a X.env) :: starEach [] X.env := by rfl) (s2 : (backTo q (starEach ([] : List Expr) X.env)).any (·.1) = false := by rfl)
    (s3 : starEach [.Call (.Name "set" p2) [a] [] q] X.env = (false, eval (.Call (.Name "set" p2) [a] [] q) X.env) :: starEach [] X.env := by rfl) (s4 : (backTo pos (starEach ([] : List Expr) X.env)).any (·.1) = false := by rfl) :
    PE X (.Call (.Name f p) [.Call (.Name "set" p2) [a] [] q] [] pos) (tI F (gM (gOne C) [m])) := by
  have b2 : bootBuiltins "set" = some (.type "set") := PyProof.Rows.boot_set
  have inner : ∀ Hd, PE X (.Call (.Name "set" p2) [a] [] q) _ := fun Hd => pe_callTy (r := rSetI X.K X.w (Dv F Hd)) (cr_setI hc hu) hg2 hm2 b2 ha (by decide) (by decide) s1 s2
  refine ⟨fun pins st σ H Q I h => ?_⟩
  obtain ⟨r, s, A, Hd0, G, h⟩ := h
  -- the argument first, then what it gave tells the frame
  have h1 := gM_to (Q := Q) (Op1.ops ho).g ⟨r, s, A, Hd0, G, h⟩
  have outer : PE X (.Call (.Name f p) [.Call (.Name "set" p2) [a] [] q] [] pos) (fun σ H Q => tIs F (evs [m]) σ H fun xs H1 => ∃ Hd, rSetI F.K X.w (Dv F Hd) xs H1 fun x H2 => R Hd [x] H2 Q) := by
    have i2 : PE X (.Call (.Name "set" p2) [a] [] q) (fun σ H (Q : VK) => tIs F (evs [m]) σ H fun xs H1 => ∃ Hd, rSetI X.K X.w (Dv F Hd) xs H1 Q) :=
      pe_callTy (r := fun xs H Q => ∃ Hd, rSetI X.K X.w (Dv F Hd) xs H Q) (callR_ex fun Hd => cr_setI hc hu) hg2 hm2 b2 ha (by decide) (by decide) s1 s2
    refine PE.imp (pe_callB (callR_ex hR) hg hm hb (pa_cons i2 pa_nil s3) hn hd s3 s4) fun σ H Q h => ?_
    obtain ⟨r, s, A, Hd0, G, h⟩ := h
    refine ⟨r, s, A, Hd0, G, ?_⟩
    cases e1 : evs [m] r s with
    | no => rw [e1] at h; exact h
    | ok vs r1 s1 =>
      rw [e1] at h
      intro xs H1 A1 Hd1 G1 p1 l1 k1
      obtain ⟨Hd, a, vs', ds, es, z1, z2, z3, z4, z5, z6⟩ := h xs H1 A1 Hd1 G1 p1 l1 k1
      rw [hK] at z2 z4
      exact ⟨Hd, a, vs', ds, es, z1, z2, z3, z4, z5, fun p us v2 d2 hp y1 y2 y3 => ⟨Hd, z6 p us v2 d2 hp y1 y2 y3⟩⟩
  exact outer.run pins st σ H Q I h1
theorem pe_srtSetI (hK : F.K = X.K) (hc : X.calm = true) (hu : X.A.units + 65 < cLine) {a : Expr} {p p2 q pos : Pos} {m : M Rv} (hg : Gl X "sorted") (hm : X.mg "sorted" = none) (hg2 : Gl X "set") (hm2 : X.mg "set" = none) (ha : PA X [a] (tIs F (evs [m])))
    (hb : bootBuiltins "sorted" = some (.builtin "sorted") := by decide +kernel)
    (s1 : starEach [a] X.env = (false, eval a X.env) :: starEach [] X.env := by rfl) (s2 : (backTo q (starEach ([] : List Expr) X.env)).any (·.1) = false := by rfl)
    (s3 : starEach [.Call (.Name "set" p2) [a] [] q] X.env = (false, eval (.Call (.Name "set" p2) [a] [] q) X.env) :: starEach [] X.env := by rfl) (s4 : (backTo pos (starEach ([] : List Expr) X.env)).any (·.1) = false := by rfl) :
    PE X (.Call (.Name "sorted" p) [.Call (.Name "set" p2) [a] [] q] [] pos) (tI F (gM (gOne srtSetC) [m])) :=
  pe_ofSet (R := fun Hd => rSortH F.K X.w (Dv F Hd)) hK hc hu (fun Hd => by rw [hK]; exact cr_sortH hc hu) (o1_srtSet X.w) hg hm hb hg2 hm2 ha (by decide) (by decide) s1 s2 s3 s4
theorem pe_lenSetI' (hK : F.K = X.K) (hc : X.calm = true) (hu : X.A.units + 65 < cLine) {a : Expr} {p p2 q pos : Pos} {m : M Rv} (hg : Gl X "len") (hm : X.mg "len" = none) (hg2 : Gl X "set") (hm2 : X.mg "set" = none) (ha : PA X [a] (tIs F (evs [m])))
    (s1 : starEach [a] X.env = (false, eval a X.env) :: starEach [] X.env := by rfl) (s2 : (backTo q (starEach ([] : List Expr) X.env)).any (·.1) = false := by rfl)
    (s3 : starEach [.Call (.Name "set" p2) [a] [] q] X.env = (false, eval (.Call (.Name "set" p2) [a] [] q) X.env) :: starEach [] X.env := by rfl) (s4 : (backTo pos (starEach ([] : List Expr) X.env)).any (·.1) = false := by rfl) :
    PE X (.Call (.Name "len" p) [.Call (.Name "set" p2) [a] [] q] [] pos) (tI F (gM (gOne lenSetC) [m])) :=
  pe_ofSet (R := fun Hd => rLenH X.w) hK hc hu (fun Hd => cr_lenH) (o1_lenSet X.w) hg hm PySem.boot_len hg2 hm2 ha (by decide) (by decide) s1 s2 s3 s4
end
end Mi
set_option Elab.async false
set_option linter.all false
set_option maxRecDepth 100000
/-! M24: walking a list, a tuple or a text. -/
namespace Mi
open PySem L2
section
variable {F : Fx} {X : Cx} {σ : L2.St} {H : Hp} {r : Rho} {s : Sto} {A : List Addr} {Hd : Hp} {x : V} {Q : VK}
def strD (x : Str) : List PyData := x.cps.toList.map fun c => PyData.str ⟨#[c]⟩
def txt? : Option Ct → Option Str
  | some (.d (.str x)) => some x
  | _ => none
def wkV (v : Rv) : M (List PyData) := fun r s => match txt? (ctR r s (opd v)) with
  | some x => .ok (strD x) r s
  | none => M.bind (restD (opd v)) (fun d => ofOpt (seqL d)) r s
def wkM (m : M Rv) : M (List PyData) := M.bind m wkV
theorem one_ok {x : Str} (h : PyData.strOk x = true) {i c : Nat} (e : x.cps[i]? = some c) : PyData.strOk ⟨#[c]⟩ = true := by
  unfold PyData.strOk at h ⊢
  simp only [Array.all_eq_true] at h ⊢
  obtain ⟨hi, ec⟩ := Array.getElem?_eq_some_iff.mp e
  intro j hj
  have hj0 : j = 0 := by simp at hj; exact hj
  subst hj0
  have := h i hi
  rw [ec] at this
  exact this
theorem its_ok {K : PySem.W.Frag} {x : Str} (hx : PyData.strOk x = true) : ItOk K Hd (Its x) (strD x) := by
  have hl : (strD x).length = x.cps.size := by unfold strD; rw [List.length_map, Array.length_toList]
  refine ⟨fun F1 eK i σ H' r s A Hd' l G hi => by rw [hl] at hi; exact hi, fun F1 eK i σ H' r s A Hd' y H2 l G hi z => ?_, fun F1 eK i σ H' r s A Hd' l G hi => by rw [hl] at hi; exact Nat.le_of_eq hi.symm⟩
  obtain ⟨rfl, c, hc, rfl⟩ := z
  refine ⟨Hd', .str ⟨#[c]⟩, G, Le.rfl, ?_, ⟨.str _, by rw [cl_str]; exact one_ok hx hc⟩⟩
  unfold strD
  rw [List.getElem?_map, Array.getElem?_toList, hc]; rfl
theorem txt_inv {c : Option Ct} {x : Str} (h : txt? c = some x) : c = some (.d (.str x)) := by
  unfold txt? at h
  split at h
  · cases h; rfl
  · cases h
theorem pi_wkI (hK : F.K = X.K) {tg l : Expr} {m : M Rv} (hl : PE X l (tI F m)) : PI X tg l (iI F (wkM m)) := by
  refine PI.imp (PI.or (pi_sqI hK hl) (pi_str hl)) fun σ H R ⟨r, s, A, Hd, G, h⟩ => ?_
  unfold wkM at h
  cases e1 : m r s with
  | no => rw [Rs.bind_no e1] at h; exact h.elim
  | ok v r1 s1 =>
    rw [Rs.bind_ok e1] at h
    unfold wkV at h
    cases e2 : txt? (ctR r1 s1 (opd v)) with
    | some x =>
      rw [e2] at h
      refine .inr ⟨r, s, A, Hd, G, ?_⟩
      rw [e1]
      intro y H1 A1 Hd1 G1 p1 l1 k1
      obtain ⟨Hd2, G2, l2, k2⟩ := G1.opd k1
      have hc := G2.ctR k2 (txt_inv e2)
      have hx := hc.1.str
      exact ⟨x, hx, h H1 A1 Hd2 _ G2 p1 (l1.tr l2) (its_ok (by have := hc.1.2; rwa [cl_str] at this))⟩
    | none =>
      rw [e2] at h
      refine .inl ⟨r, s, A, Hd, G, ?_⟩
      have : sqM m r s = M.bind (restD (opd v)) (fun d => ofOpt (seqL d)) r1 s1 := by
        unfold sqM
        rw [Rs.bind_ok e1]
      rw [this]
      exact h
end
end Mi
set_option Elab.async false
set_option linter.all false
set_option maxRecDepth 100000
/-! M25: dict displays, constants of the module, small words for the printed texts. -/
namespace Mi
open PySem L2
section
variable {F : Fx} {X : Cx} {σ : L2.St} {H : Hp} {r : Rho} {s : Sto} {A : List Addr} {Hd : Hp} {x : V} {Q : VK}
theorem All2.mono {α β : Type} {R R' : α → β → Prop} (h : ∀ a b, R a b → R' a b) : ∀ {as : List α} {bs : List β}, All2 R as bs → All2 R' as bs
  | [], [], _ => trivial
  | _ :: _, _ :: _, z => ⟨h _ _ z.1, All2.mono h z.2⟩
  | [], _ :: _, z => z.elim
  | _ :: _, [], z => z.elim
theorem pe_gstrI {y z : Str} {t : Tok} {pos : Pos} (hg : Gl X y) (hm : X.mg y = some (.str z t)) (h : PyData.strOk z = true) (hd : (y == ("__debug__" : Str)) = false := by decide) : PE X (.Name y pos) (tI F (kd (.str z))) :=
  pe_kdI (pe_glob (v := .str z) hg hm ⟨t, rfl⟩ hd) fun _ => ⟨.str z, cl_str.trans h⟩
theorem pe_gintI {y : Str} {i : Int} {t : Tok} {pos : Pos} (hg : Gl X y) (hm : X.mg y = some (.int i t)) (hd : (y == ("__debug__" : Str)) = false := by decide) : PE X (.Name y pos) (tI F (kd (.int i))) :=
  pe_kdI (pe_glob (v := .int i) hg hm ⟨t, rfl⟩ hd) fun _ => ⟨.int i, by rw [PyData.canLay0]⟩
theorem pe_gfnI {y : Str} {f : Addr} {pos : Pos} (hg : Gl X y) (hm : X.mg y = some (.ref f)) (hd : (y == ("__debug__" : Str)) = false := by decide) : PE X (.Name y pos) (tI F (rwM (.ref f))) :=
  pe_rwI (pe_glob (v := .ref f) hg hm rfl hd)
def mrgD (kvs : List (PyData × PyData)) : List (Str × PyData) → List (PyData × PyData)
  | [] => kvs
  | (k, d) :: r => mrgD (putD kvs (.inr k) (.str k) d) r
def ddM (ks : List Str) (ms : List (M Rv)) : M Rv := M.bind (evs ms) fun vs => M.bind (restDs vs) fun ds => M.pure (.fr (.dic (mrgD [] (ks.zip ds))))
def trsD (K : PySem.W.Frag) : List Str → List (M Rv) → List (TE × TE)
  | k :: ks, m :: ms => (tC (.str k), exE K m) :: trsD K ks ms
  | _, _ => []
theorem pairs_to {K : PySem.W.Frag} (hK : F.K = K) (hF : FxOk F) : ∀ {ks : List Str} {ms : List (M Rv)} {σ : L2.St} {H : Hp} {Q : List (V × V) → Hp → Prop}, ks.length = ms.length → tIs F (evs ms) σ H (fun xs H' => xs.length = ks.length → Q ((ks.map V.str).zip xs) H') → tPairs (trsD K ks ms) σ H Q
  | [], [], σ, H, Q, _, ⟨r, s, A, Hd, G, h⟩ => h [] H A Hd G (List.prefix_refl _) Le.rfl trivial rfl
  | k :: ks, m :: ms, σ, H, Q, hl, h => by
    obtain ⟨r, s, A, Hd, G, h⟩ := tCons_to h
    refine ⟨F, hK, hF, r, s, A, Hd, G, ?_⟩
    cases e1 : m r s with
    | no => rw [e1] at h; exact h
    | ok v r1 s1 =>
      rw [e1] at h
      intro x H' A' Hd' G' p l kk
      refine pairs_to hK hF (Nat.succ.inj hl) ?_
      have := h x H' A' Hd' G' p l kk
      obtain ⟨r2, s2, A2, Hd2, G2, h2⟩ := this
      refine ⟨r2, s2, A2, Hd2, G2, ?_⟩
      cases e2 : evs ms r2 s2 with
      | no => rw [e2] at h2; exact h2
      | ok vs r3 s3 =>
        rw [e2] at h2
        exact fun xs H3 A3 Hd3 G3 p3 l3 k3 hx => h2 xs H3 A3 Hd3 G3 p3 l3 k3 (by rw [List.length_cons, List.length_cons, hx])
  | [], _ :: _, _, _, _, h, _ => by cases h
  | _ :: _, [], _, _, _, h, _ => by cases h
theorem KvK.mrg : ∀ {ks : List Str} {xs : List V} {ds : List PyData} {kv : List (Key × V)} {kvs : List (PyData × PyData)}, (ks.all PyData.strOk) = true → DvAll F Hd xs ds → KvK F Hd kv kvs → KvK F Hd (mergeK kv ((ks.zip xs).map fun p => (.inr p.1, p.2))) (mrgD kvs (ks.zip ds))
  | [], _, _, _, _, _, _, h => h
  | k :: ks, [], [], kv, kvs, _, _, h => h
  | k :: ks, x :: xs, d :: ds, kv, kvs, hk, hd, h => by
    rw [List.all_cons, Bool.and_eq_true] at hk
    have a2 := all2_dv hd
    have ih := KvK.mrg (ks := ks) (xs := xs) (ds := ds) hk.2 (dv_all2 a2.2) (h.put (κ := .inr k) (d := .str k) ⟨rfl, cl_str.trans hk.1⟩ a2.1)
    exact ih
  | _ :: _, [], _ :: _, _, _, _, hd, _ => by have := hd.1; cases this
  | _ :: _, _ :: _, [], _, _, _, hd, _ => by have := hd.1; cases this
theorem pps_at {X : Cx} {pos : Pos} : ∀ {ks : List Str} {ms : List (M Rv)} {keys : List (Option Expr)} {values : List Expr}, PPs X pos keys values (trsD X.K ks ms) → PPs X pos keys values (trsD X.K ks ms) := fun h => h
theorem pe_ddI (hK : F.K = X.K) (hF : FxOk F) {keys : List (Option Expr)} {values : List Expr} {pos : Pos} {ks : List Str} {ms : List (M Rv)} (h : PPs X pos keys values (trsD X.K ks ms)) (hl : ks.length = ms.length) (hs : ks.all PyData.strOk = true) (h15 : ks.length ≤ 15)
    (k1 : keys.all (·.isSome) = true := by rfl) (k2 : keys.length = values.length := by rfl) (k3 : keys ≠ [] := by simp) (k4 : keys.length ≤ 15 := by decide) : PE X (.Dict keys values pos) (tI F (ddM ks ms)) := by
  refine PE.imp (pe_disp h k1 k2 k3 k4) fun σ H Q ⟨r, s, A, Hd, G, h⟩ p hp => ?_
  have hR := G.r0 hF hp
  have hA0 := G.a0 hp
  have hH0 := G.notH hp
  refine pairs_to (F := F.at p (.dK [])) hK hF.at hl ⟨r, s, A, Hd, G.pinNew hp, ?_⟩
  unfold ddM at h
  cases e1 : evs ms r s with
  | no => rw [Rs.bind_no e1] at h; exact h
  | ok vs r1 s1 =>
    rw [Rs.bind_ok e1] at h
    intro xs H1 A1 Hd1 G1 p1 l1 kx hx
    cases e2 : restDs vs r1 s1 with
    | no => rw [Rs.bind_no e2] at h; exact h.elim
    | ok ds r2 s2 =>
      rw [Rs.bind_ok e2] at h
      obtain ⟨rfl, Hd2, G2, l2, k2'⟩ := G1.restDs kx e2
      obtain ⟨q1, q2, q3, q4⟩ := G2.pinned hR hA0
      refine ⟨q1, (ks.zip xs).map fun p => (.inr p.1, p.2), ?_, ?_, ?_⟩
      · rw [List.map_map, List.zip_map_left]
        rfl
      · rw [List.length_map, List.length_zip]; omega
      · have hdv : DvAll F Hd2 xs ds := dv_all2 (by
          have := all2_dv k2'
          exact All2.mono (fun x d z => dvK (F1 := F.at p (.dK [])) (F2 := F) rfl z) this)
        have km := KvK.mrg (kv := []) (kvs := []) hs hdv (show KvK F Hd2 [] [] from trivial)
        have G3 := (G2.repin (u' := .dK (mergeK [] ((ks.zip xs).map fun p => (.inr p.1, p.2)))) hR hA0 hH0)
        have G4 := G3.unpin hH0
        exact h (.ref p) _ A1 Hd2 G4 p1 (l1.tr l2) ⟨p, rfl, q2, q3, hH0, ⟨_, upd_same, km⟩, q4⟩
theorem pps_nilI {pos : Pos} : PPs X pos [] [] (trsD X.K [] []) := pps_nil
theorem pps_consI {pos kp : Pos} {j : _} {k : Str} {v : Expr} {ks : List Str} {ms : List (M Rv)} {keys : List (Option Expr)} {values : List Expr} {m : M Rv} (hv : ∀ F : Fx, F.K = X.K → FxOk F → PE X v (tI F m)) (hr : PPs X pos keys values (trsD X.K ks ms)) :
    PPs X pos (some (.Constant (.str k) j kp) :: keys) (v :: values) (trsD X.K (k :: ks) (m :: ms)) := pps_cons pe_str (pe_ex hv) hr
end
end Mi
set_option Elab.async false
set_option linter.all false
set_option maxRecDepth 100000
/-! M26: the rules as the printed texts name them. -/
namespace Mi
open PySem L2
section
variable {F : Fx} {X : Cx} {σ : L2.St} {H : Hp} {r : Rho} {s : Sto} {A : List Addr} {Hd : Hp} {x : V} {Q : VK}
def negM (m : M Rv) : M Rv := M.bind m fun v => M.bind (ct (opd v)) fun c => M.bind (ofOpt (intC? c)) fun i => M.pure (ad (.int (-i)))
theorem pe_negI {a : Expr} {m : M Rv} {pos : Pos} (ha : PE X a (tI F m)) : PE X (.UnaryOp .USub a pos) (tI F (negM m)) := by
  refine PE.imp (pe_un un_neg ha) fun σ H Q ⟨r, s, A, Hd, G, h⟩ => ⟨r, s, A, Hd, G, ?_⟩
  unfold negM at h
  cases e1 : m r s with
  | no => rw [Rs.bind_no e1] at h; exact h
  | ok v r1 s1 =>
    rw [Rs.bind_ok e1] at h
    intro x H1 A1 Hd1 G1 p1 l1 k1
    obtain ⟨Hd2, G2, l2, k2⟩ := G1.opd k1
    cases e2 : ct (opd v) r1 s1 with
    | no => rw [Rs.bind_no e2] at h; exact h.elim
    | ok c r2 s2 =>
      rw [Rs.bind_ok e2] at h
      obtain ⟨rfl, rfl, q2⟩ := ct_ok e2
      cases e3 : intC? c with
      | none => rw [e3] at h; exact h.elim
      | some i =>
        rw [e3] at h
        have hc := G2.ctR k2 q2
        rw [intC?_eq e3] at hc
        exact ⟨i, hc.1.int, h (.int (-i)) H1 A1 Hd2 G2 p1 (l1.tr l2) ⟨.int _, by rw [PyData.canLay0]⟩⟩
section
variable {p pos : Pos} {e : Expr} {m : M Rv}
theorem pe_lenI (hK : F.K = X.K) (hg : Gl X "len") (hm : X.mg "len" = none) (ha : PE X e (tI F m)) (he : starEach [e] X.env = (false, eval e X.env) :: starEach [] X.env := by rfl) (hpl : (backTo pos (starEach ([] : List Expr) X.env)).any (·.1) = false := by rfl) :
    PE X (.Call (.Name "len" p) [e] [] pos) (tI F (gM (gOne lenC) [m])) := pe_bfI (o1_len.ops.g) (by rw [hK]; exact cr_lenI) hg hm PySem.boot_len (pa_consI ha pa_nilI he) (by decide) (by decide) he hpl
theorem pe_srtI (hK : F.K = X.K) (hu : X.A.units + 65 < cLine) (hg : Gl X "sorted") (hm : X.mg "sorted" = none) (ha : PE X e (tI F m)) (hb : bootBuiltins "sorted" = some (.builtin "sorted") := by decide +kernel) (he : starEach [e] X.env = (false, eval e X.env) :: starEach [] X.env := by rfl) (hpl : (backTo pos (starEach ([] : List Expr) X.env)).any (·.1) = false := by rfl) :
    PE X (.Call (.Name "sorted" p) [e] [] pos) (tI F (gM (gOne srtC) [m])) := pe_bfI (o1_srt.ops.g) (by rw [hK]; exact cr_srtI hu) hg hm hb (pa_consI ha pa_nilI he) (by decide) (by decide) he hpl
theorem pe_anyI (hK : F.K = X.K) (hc : X.calm = true) (hg : Gl X "any") (hm : X.mg "any" = none) (ha : PE X e (tI F m)) (hb : bootBuiltins "any" = some (.builtin "any") := by decide +kernel) (he : starEach [e] X.env = (false, eval e X.env) :: starEach [] X.env := by rfl) (hpl : (backTo pos (starEach ([] : List Expr) X.env)).any (·.1) = false := by rfl) :
    PE X (.Call (.Name "any" p) [e] [] pos) (tI F (gM (gOne (qunC fun bs => bs.any id)) [m])) := pe_bfI (o1_any.ops.g) (by rw [hK]; exact cr_any hc) hg hm hb (pa_consI ha pa_nilI he) (by decide) (by decide) he hpl
theorem pe_allI (hK : F.K = X.K) (hc : X.calm = true) (hg : Gl X "all") (hm : X.mg "all" = none) (ha : PE X e (tI F m)) (hb : bootBuiltins "all" = some (.builtin "all") := by decide +kernel) (he : starEach [e] X.env = (false, eval e X.env) :: starEach [] X.env := by rfl) (hpl : (backTo pos (starEach ([] : List Expr) X.env)).any (·.1) = false := by rfl) :
    PE X (.Call (.Name "all" p) [e] [] pos) (tI F (gM (gOne (qunC fun bs => bs.all id)) [m])) := pe_bfI (o1_all.ops.g) (by rw [hK]; exact cr_all hc) hg hm hb (pa_consI ha pa_nilI he) (by decide) (by decide) he hpl
theorem pe_tupFI (hK : F.K = X.K) (hg : Gl X "tuple") (hm : X.mg "tuple" = none) (ha : PE X e (tI F m)) (hb : bootBuiltins "tuple" = some (.type "tuple") := by decide +kernel) (he : starEach [e] X.env = (false, eval e X.env) :: starEach [] X.env := by rfl) (hpl : (backTo pos (starEach ([] : List Expr) X.env)).any (·.1) = false := by rfl) :
    PE X (.Call (.Name "tuple" p) [e] [] pos) (tI F (gM (gOne tupC) [m])) := pe_btI (o1_tup.ops.g) (by rw [hK]; exact call_tuple_of) hg hm hb (pa_consI ha pa_nilI he) (by decide) (by decide) he hpl
theorem pe_lstFI (hK : F.K = X.K) (hg : Gl X "list") (hm : X.mg "list" = none) (ha : PE X e (tI F m)) (hb : bootBuiltins "list" = some (.type "list") := by decide +kernel) (he : starEach [e] X.env = (false, eval e X.env) :: starEach [] X.env := by rfl) (hpl : (backTo pos (starEach ([] : List Expr) X.env)).any (·.1) = false := by rfl) :
    PE X (.Call (.Name "list" p) [e] [] pos) (tI F (gM (gOne lstC) [m])) := pe_btI (o1_lst.ops.g) (by rw [hK]; exact call_list_of) hg hm hb (pa_consI ha pa_nilI he) (by decide) (by decide) he hpl
theorem pe_intFI (hg : Gl X "int") (hm : X.mg "int" = none) (ha : PE X e (tI F m)) (hb : bootBuiltins "int" = some (.type "int") := by decide +kernel) (he : starEach [e] X.env = (false, eval e X.env) :: starEach [] X.env := by rfl) (hpl : (backTo pos (starEach ([] : List Expr) X.env)).any (·.1) = false := by rfl) :
    PE X (.Call (.Name "int" p) [e] [] pos) (tI F (gM (gOne intTC) [m])) := pe_btI (o1_int.ops.g) call_int1 hg hm hb (pa_consI ha pa_nilI he) (by decide) (by decide) he hpl
end
section
variable {o e : Expr} {apos cpos : Pos} {mo m : M Rv}
theorem pe_appI (hK : F.K = X.K) (ho : PE X o (tI F mo)) (ha : PE X e (tI F m)) (hbase : attributeBase o "append" X.env (eval o X.env) = eval o X.env := by rfl)
    (hfew : ((backTo cpos (starEach [e] X.env)).all (fun x => !x.1) && (backToKw cpos (keywordEach [] X.env)).all (fun x => x.1.isSome)
      && decide ([e].length + ([] : List Keyword).length + (if ([] : List Keyword).isEmpty then 0 else 1) < 30)) = true := by rfl)
    (hline : (apos.endLine == cpos.line) = true := by rfl) (hst : starEach [e] X.env = (false, eval e X.env) :: starEach [] X.env := by rfl) (hplain : (backTo cpos (starEach ([] : List Expr) X.env)).any (·.1) = false := by rfl) :
    PE X (.Call (.Attribute o "append" apos) [e] [] cpos) (tI F (mthM "list" mo [m] gAppend)) := pe_mI hK og_append PySem.F.plainAttrs_list PySem.F.slot_list_append PySem.F.type_list_append mt_append ho (pa_consI ha pa_nilI hst) hbase hfew hline hst hplain
theorem pe_popI (hK : F.K = X.K) (ho : PE X o (tI F mo)) (ha : PE X e (tI F m)) (hbase : attributeBase o "pop" X.env (eval o X.env) = eval o X.env := by rfl)
    (hfew : ((backTo cpos (starEach [e] X.env)).all (fun x => !x.1) && (backToKw cpos (keywordEach [] X.env)).all (fun x => x.1.isSome)
      && decide ([e].length + ([] : List Keyword).length + (if ([] : List Keyword).isEmpty then 0 else 1) < 30)) = true := by rfl)
    (hline : (apos.endLine == cpos.line) = true := by rfl) (hst : starEach [e] X.env = (false, eval e X.env) :: starEach [] X.env := by rfl) (hplain : (backTo cpos (starEach ([] : List Expr) X.env)).any (·.1) = false := by rfl) :
    PE X (.Call (.Attribute o "pop" apos) [e] [] cpos) (tI F (mthM "list" mo [m] gPop)) := pe_mI hK og_pop PySem.F.plainAttrs_list PySem.F.slot_list_pop PySem.F.type_list_pop mt_popAt ho (pa_consI ha pa_nilI hst) hbase hfew hline hst hplain
end
theorem pt_orI {op : BoolOp} {es : List Expr} {pos : Pos} {m : M Bool} (h : PW X (.BoolOp op es pos) (tTI F m)) : PT X (.BoolOp op es pos) (tTI F m) := h.pt
theorem hu_of {k : Nat} {A : Around} (r : Room k A) : A.units + 65 < cLine := by have := r.un; omega
theorem hu1_of {k : Nat} {A : Around} (r : Room k A) : A.units + 1 < cLine := by have := r.un; omega
theorem kbnA {K : PySem.W.Frag} {nm qual : Str} {params : Arguments} {body : List Stmt} {scope : Scope} {kws : List (Str × V)} {f : Addr} {fd : FuncData} {ps ks : List Str} (F : FunD K nm qual params body scope [] kws f fd) (n : Nat)
    (h : ∀ (kV doc pm : Value) (an : Option Addr) (cdv ct : Value) (us ws : List Value), us.length = n → ws.length = ks.length → bindArgs (PySem.W.fnOf nm qual params body scope .none kV doc pm an cdv ct) ⟨us, ks.zip ws⟩ = pure (ps.zip (us ++ ws))) :
    KBn K fd ps n ks (fun us ws => us ++ ws) (fun vs zs => vs ++ zs) := by
  obtain ⟨oc, od, dV, kV, doc, pm, an, cdv, ct, osl, rfl, lk, hcd, hD, hK⟩ := F.ex
  refine ⟨fun s us ws X l1 l2 => ?_, fun r1 r2 => r1.append r2⟩
  rcases hD with ⟨_, rfl⟩ | ⟨e, _⟩
  · exact .of_eq (h kV doc pm an cdv ct us ws l1 l2)
  · exact absurd rfl e
end
end Mi
set_option Elab.async false
set_option linter.all false
set_option maxRecDepth 100000
/-! M27: what the head needs. -/
namespace Mi
open PySem L2
/-- a keyword-only default of a def -/
def kwAt (f : Str × Option Str) (x : Str) (K : PySem.W.Frag) : Addr := match K.lookup (He.fAd K f) with
  | some ⟨_, _, .func fd, _⟩ => (match fd.kwdefaults with
    | .ref D => (match PySem.W.nsIn K D x with
      | some (some (.ref b)) => b
      | _ => 0)
    | _ => 0)
  | _ => 0
theorem good_top {P : Program} {w : World} {K : PySem.W.Frag} {H : Hp} : Good (frF P w K H [] H) [] H [] [] [] H := by
  refine ⟨Le.rfl, rfl, rfl, fun n a o h => by simp at h, List.nodup_nil, List.prefix_refl _, fun a h => by simp at h, fun b o h _ => h, fun i c h => by simp at h, ?_, ?_⟩
  · intro i j c1 c2 a h1 h2
    simp at h1
  · intro b o h
    exact .inr (show H b ≠ none by rw [h]; simp)
theorem dv_ints {F : Fx} {Hd : Hp} : ∀ {ns : List Int}, DvAll F Hd (ns.map V.int) (ns.map PyData.int)
  | [] => DvAll.nil
  | i :: _ => DvAll.cons ⟨.int i, by rw [PyData.canLay0]⟩ dv_ints
end Mi
set_option Elab.async false
set_option linter.all false
set_option maxRecDepth 100000
/-! M28: reasoning on mirrors: what a run ends in. -/
namespace Mi
open PySem L2
section
variable {α β : Type} {r r0 : Rho} {s : Sto}
def Wp (x : Rs α) (Q : α → Rho → Sto → Prop) : Prop := match x with
  | .ok a r s => Q a r s
  | .no => False
theorem wp_ok {a : α} {Q : α → Rho → Sto → Prop} : Wp (.ok a r s) Q ↔ Q a r s := Iff.rfl
theorem wp_bind {m : M α} {f : α → M β} {Q : β → Rho → Sto → Prop} : Wp (M.bind m f r s) Q ↔ Wp (m r s) fun a r' s' => Wp (f a r' s') Q := by
  unfold M.bind
  cases m r s <;> exact Iff.rfl
theorem wp_pure {a : α} {Q : α → Rho → Sto → Prop} : Wp (M.pure a r s) Q ↔ Q a r s := Iff.rfl
theorem wp_opt {o : Option α} {Q : α → Rho → Sto → Prop} : Wp (ofOpt o r s) Q ↔ ∃ a, o = some a ∧ Q a r s := by
  cases o with
  | none => exact ⟨fun h => h.elim, fun ⟨a, e, _⟩ => by cases e⟩
  | some a => exact ⟨fun h => ⟨a, rfl, h⟩, fun ⟨b, e, h⟩ => by cases e; exact h⟩
theorem wp_mono {x : Rs α} {Q Q' : α → Rho → Sto → Prop} (h : Wp x Q) (k : ∀ a r s, Q a r s → Q' a r s) : Wp x Q' := by
  cases x with
  | no => exact h
  | ok a r s => exact k a r s h
theorem wp_eq {x : Rs α} {a : α} {r' : Rho} {s' : Sto} {Q : α → Rho → Sto → Prop} (e : x = .ok a r' s') : Wp x Q ↔ Q a r' s' := by rw [e]; exact Iff.rfl
theorem wp_get {x : Rs α} {Q : α → Rho → Sto → Prop} (h : Wp x Q) : ∃ a r' s', x = .ok a r' s' ∧ Q a r' s' := by
  cases x with
  | no => exact h.elim
  | ok a r s => exact ⟨a, r, s, rfl, h⟩
theorem b_ok {m : M α} {f : α → M β} {a : α} {r' : Rho} {s' : Sto} (e : m r s = .ok a r' s') : M.bind m f r s = f a r' s' := by
  unfold M.bind
  rw [e]
  rfl
/-- what a def's run ends in -/
def Fp (x : Option (Rv × Sto)) (Q : Rv → Sto → Prop) : Prop := match x with
  | some (v, s) => Q v s
  | none => False
theorem fp_get {x : Option (Rv × Sto)} {Q : Rv → Sto → Prop} (h : Fp x Q) : ∃ v s', x = some (v, s') ∧ Q v s' := by
  cases x with
  | none => exact h.elim
  | some p => exact ⟨p.1, p.2, rfl, h⟩
theorem fp_mono {x : Option (Rv × Sto)} {Q Q' : Rv → Sto → Prop} (h : Fp x Q) (k : ∀ v s, Q v s → Q' v s) : Fp x Q' := by
  cases x with
  | none => exact h
  | some p => exact k _ _ h
/-- a def whose body returns -/
theorem runF_wp {n : Nat} {m : M Out} {ws : List Wv} {Q : Rv → Sto → Prop} (h : Wp (m (ws.map Sl.w ++ List.replicate (n - ws.length) Sl.un) s) fun o r' s' => match o with
    | .rt v => ∃ v', retV r' v = some v' ∧ Q v' s'
    | .nx => Q (ad .none) s'
    | _ => False) : Fp (runF n m ws s) Q := by
  unfold runF
  cases e : m (ws.map Sl.w ++ List.replicate (n - ws.length) Sl.un) s with
  | no => rw [e] at h; exact h
  | ok o r' s' =>
    rw [e] at h
    cases o with
    | rt v =>
      obtain ⟨v', e1, q⟩ := h
      show Fp ((retV r' v).map fun v => (v, s')) Q
      rw [e1]
      exact q
    | nx => exact h
    | _ => exact h.elim
/-- the statements after -/
theorem wp_seq {m1 m2 : M Out} {Q : Out → Rho → Sto → Prop} : Wp (seqM m1 m2 r s) Q ↔ Wp (m1 r s) fun o r' s' => match o with
    | .nx => Wp (m2 r' s') Q
    | o => Q o r' s' := by
  unfold seqM
  rw [wp_bind]
  cases m1 r s with
  | no => exact Iff.rfl
  | ok o r' s' => cases o <;> exact Iff.rfl
/-- a for loop, by an invariant: what is left, the slots, the shared -/
theorem wp_forL {t : Tgt} {body : M Out} {Q : Out → Rho → Sto → Prop} (I : List PyData → Rho → Sto → Prop) (hend : ∀ r s, I [] r s → Q .nx r s)
    (step : ∀ d ds r s, I (d :: ds) r s → ∃ r1, setT t d r = some r1 ∧ Wp (body r1 s) fun o r' s' => match o with
      | .nx => I ds r' s'
      | .ct => I ds r' s'
      | .bk => Q .nx r' s'
      | .rt v => Q (.rt v) r' s') : ∀ (ds : List PyData) (r : Rho) (s : Sto), I ds r s → Wp (forL t body ds r s) Q
  | [], r, s, h => hend r s h
  | d :: ds, r, s, h => by
    obtain ⟨r1, e, w⟩ := step d ds r s h
    have eg : tgM t d r s = .ok () r1 s := by unfold tgM; rw [e]
    unfold forL
    rw [wp_bind, eg]
    show Wp (M.bind body _ r1 s) Q
    rw [wp_bind]
    refine wp_mono w fun o r' s' q => ?_
    cases o with
    | nx => exact wp_forL I hend step ds r' s' q
    | ct => exact wp_forL I hend step ds r' s' q
    | bk => exact q
    | rt v => exact q
/-- a list comprehension, by an invariant: what is left, what there is, the shared -/
theorem wp_lcL {vs : List Nat} {t : Tgt} {tt : M Bool} {te : M Rv} {Q : List PyData → Rho → Sto → Prop} (I : List PyData → List PyData → Sto → Prop) (hend : ∀ acc s, I [] acc s → Q acc r0 s)
    (hsz : ∀ ds acc s, I ds acc s → acc.length + ds.length ≤ sizeLine)
    (step : ∀ d ds acc s, I (d :: ds) acc s → ∃ r1, setT t d r0 = some r1 ∧ Wp (tt r1 s) fun k r2 s2 => if k = true then Wp (te r2 s2) fun v r3 s3 => Wp (restD (opd v) r3 s3) fun x r4 s4 => wipeR r4 vs = r0 ∧ I ds (acc ++ [x]) s4
      else wipeR r2 vs = r0 ∧ I ds acc s2) : ∀ (ds acc : List PyData) (s : Sto), I ds acc s → Wp (lcL vs t tt te ds acc r0 s) Q
  | [], acc, s, h => hend acc s h
  | d :: ds, acc, s, h => by
    obtain ⟨r1, e, w⟩ := step d ds acc s h
    have eg : tgM t d r0 s = .ok () r1 s := by unfold tgM; rw [e]
    have hz := hsz _ _ _ h
    unfold lcL
    rw [wp_bind, eg]
    show Wp (M.bind tt _ r1 s) Q
    rw [wp_bind]
    refine wp_mono w fun k r2 s2 q => ?_
    cases k with
    | false =>
      rw [if_neg (by decide)] at q ⊢
      obtain ⟨e2, q⟩ := q
      show Wp (lcL vs t tt te ds acc (wipeR r2 vs) s2) Q
      rw [e2]
      exact wp_lcL I hend hsz step ds acc s2 q
    | true =>
      rw [if_pos rfl] at q ⊢
      rw [wp_bind]
      refine wp_mono q fun v r3 s3 q => ?_
      rw [wp_bind]
      refine wp_mono q fun x r4 s4 ⟨e2, q⟩ => ?_
      rw [if_pos (decide_eq_true (by rw [List.length_cons] at hz; omega))]
      show Wp (lcL vs t tt te ds (acc ++ [x]) (wipeR r4 vs) s4) Q
      rw [e2]
      exact wp_lcL I hend hsz step ds (acc ++ [x]) s4 q
/-- a comprehension that leaves all as it is, over xs: its test p, its element g -/
theorem lcL_map {ι : Type} {vs : List Nat} {t : Tgt} {tt : M Bool} {te : M Rv} (enc : ι → PyData) (p : ι → Bool) (g : ι → PyData) : ∀ (xs : List ι) (acc : List PyData), acc.length + xs.length ≤ sizeLine →
    (∀ x ∈ xs, ∃ r1, setT t (enc x) r0 = some r1 ∧ wipeR r1 vs = r0 ∧ tt r1 s = .ok (p x) r1 s ∧ (p x = true → ∃ v, te r1 s = .ok v r1 s ∧ restD (opd v) r1 s = .ok (g x) r1 s)) →
    lcL vs t tt te (xs.map enc) acc r0 s = .ok (acc ++ (xs.filter p).map g) r0 s
  | [], acc, _, _ => by
    show Rs.ok acc r0 s = _
    rw [List.filter_nil, List.map_nil, List.append_nil]
  | d :: ds, acc, hz, h => by
    obtain ⟨r1, e, e2, e3, e4⟩ := h d List.mem_cons_self
    have eg : tgM t (enc d) r0 s = .ok () r1 s := by unfold tgM; rw [e]
    have tl : ∀ d ∈ ds, _ := fun d z => h d (List.mem_cons_of_mem _ z)
    rw [List.length_cons] at hz
    rw [List.map_cons]
    unfold lcL
    rw [b_ok eg, b_ok e3]
    cases hp : p d with
    | false =>
      rw [if_neg (by decide), List.filter_cons_of_neg (by rw [hp]; decide)]
      show lcL vs t tt te (ds.map enc) acc (wipeR r1 vs) s = _
      rw [e2]
      exact lcL_map enc p g ds acc (by omega) tl
    | true =>
      obtain ⟨v, e5, e6⟩ := e4 hp
      rw [if_pos rfl, b_ok e5, b_ok e6, if_pos (decide_eq_true (by omega)), List.filter_cons_of_pos hp]
      show lcL vs t tt te (ds.map enc) (acc ++ [g d]) (wipeR r1 vs) s = _
      rw [e2, lcL_map enc p g ds (acc ++ [g d]) (by rw [List.length_append, List.length_singleton]; omega) tl, List.append_assoc]
      rfl
theorem lc_map {ι : Type} {it : M (List PyData)} {vs : List Nat} {t : Tgt} {tt : M Bool} {te : M Rv} {r1 : Rho} {s1 : Sto} (enc : ι → PyData) (p : ι → Bool) (g : ι → PyData) {xs : List ι} (hit : it r s = .ok (xs.map enc) r1 s1) (hw : wipeR r1 vs = r0) (hw2 : wipeR r0 vs = r0) (hz : xs.length ≤ sizeLine)
    (h : ∀ x ∈ xs, ∃ r2, setT t (enc x) r0 = some r2 ∧ wipeR r2 vs = r0 ∧ tt r2 s1 = .ok (p x) r2 s1 ∧ (p x = true → ∃ v, te r2 s1 = .ok v r2 s1 ∧ restD (opd v) r2 s1 = .ok (g x) r2 s1)) :
    lcM it vs t tt te r s = .ok (.fr (.lst ((xs.filter p).map g))) r0 s1 := by
  unfold lcM
  rw [b_ok hit, b_ok (show wpM vs r1 s1 = .ok () r0 s1 by unfold wpM; rw [hw]), b_ok (lcL_map enc p g xs [] (by simpa using hz) h), b_ok (show wpM vs r0 s1 = .ok () r0 s1 by unfold wpM; rw [hw2])]
  rfl
/-- .. without a test -/
theorem lc_all {ι : Type} {it : M (List PyData)} {vs : List Nat} {t : Tgt} {te : M Rv} {r1 : Rho} {s1 : Sto} (enc : ι → PyData) (g : ι → PyData) {xs : List ι} (hit : it r s = .ok (xs.map enc) r1 s1) (hw : wipeR r1 vs = r0) (hw2 : wipeR r0 vs = r0) (hz : xs.length ≤ sizeLine)
    (h : ∀ x ∈ xs, ∃ r2, setT t (enc x) r0 = some r2 ∧ wipeR r2 vs = r0 ∧ ∃ v, te r2 s1 = .ok v r2 s1 ∧ restD (opd v) r2 s1 = .ok (g x) r2 s1) :
    lcM it vs t (M.pure true) te r s = .ok (.fr (.lst (xs.map g))) r0 s1 := by
  have := lc_map (tt := M.pure true) enc (fun _ => true) g hit hw hw2 hz fun x hx => by
    obtain ⟨r2, a, b, c⟩ := h x hx
    exact ⟨r2, a, b, rfl, fun _ => c⟩
  rw [this, List.filter_eq_self.mpr fun _ _ => rfl]
/-- a def whose body returns, as an equation -/
theorem runF_ret {n : Nat} {m : M Out} {ws : List Wv} {v v' : Rv} {r' : Rho} {s' : Sto} (h : m (ws.map Sl.w ++ List.replicate (n - ws.length) Sl.un) s = .ok (.rt v) r' s') (e : retV r' v = some v') : runF n m ws s = some (v', s') := by
  unfold runF
  rw [h]
  show (retV r' v).map _ = _
  rw [e]
  rfl
theorem reM_eq {m : M Rv} {v : Rv} {r' : Rho} {s' : Sto} (h : m r s = .ok v r' s') : reM m r s = .ok (.rt v) r' s' := by
  unfold reM
  rw [b_ok h]
  rfl
end
end Mi
set_option Elab.async false
set_option linter.all false
set_option maxRecDepth 100000
/-! M29: the order of data, plain. -/
namespace Mi
open PySem PyProof.Rows
abbrev tk : PyData → List (Int ⊕ List Nat) := W.keyToks
abbrev kO : KeyOrd := listOrd itemOrd
theorem dle_def (a b : PyData) : dle a b = !kO.blt (tk b) (tk a) := rfl
theorem dlt_def (a b : PyData) : W.dataLt a b = kO.blt (tk a) (tk b) := rfl
theorem dle_refl (a : PyData) : dle a a = true := by rw [dle_def, kO.irrefl]; rfl
theorem dle_total (a b : PyData) : (dle a b || dle b a) = true := by
  rw [dle_def, dle_def]
  cases h1 : kO.blt (tk b) (tk a) with
  | false => rfl
  | true =>
    cases h2 : kO.blt (tk a) (tk b) with
    | false => rfl
    | true => have := kO.trans _ _ _ h1 h2; rw [kO.irrefl] at this; cases this
theorem dle_trans (a b c : PyData) (h1 : dle a b = true) (h2 : dle b c = true) : dle a c = true := by
  rw [dle_def, Bool.not_eq_true'] at h1 h2 ⊢
  cases h : kO.blt (tk c) (tk a) with
  | false => rfl
  | true =>
    rcases kO.negTrans _ (tk b) _ h with z | z
    · rw [h2] at z; cases z
    · rw [h1] at z; cases z
theorem dle_anti {a b : PyData} (h1 : dle a b = true) (h2 : dle b a = true) : tk a = tk b := by
  rw [dle_def, Bool.not_eq_true'] at h1 h2
  exact kO.total _ _ h2 h1
theorem srt_perm_self (es : List PyData) : (srt es).Perm es := List.mergeSort_perm es dle
theorem mem_srt {es : List PyData} {d : PyData} : d ∈ srt es ↔ d ∈ es := (srt_perm_self es).mem_iff
theorem srt_le (es : List PyData) : (srt es).Pairwise fun a b => dle a b = true := List.pairwise_mergeSort dle_trans dle_total es
theorem srt_len (es : List PyData) : (srt es).length = es.length := (srt_perm_self es).length_eq
/-- different data of the list have different keys -/
def TkInj (es : List PyData) : Prop := ∀ a ∈ es, ∀ b ∈ es, tk a = tk b → a = b
theorem stO_iff : ∀ {r : List PyData}, stO r = true ↔ r.Pairwise fun a b => dle a b = true ∧ dle b a = false
  | [] => by unfold stO; simp
  | x :: xs => by
    unfold stO
    rw [List.pairwise_cons, Bool.and_eq_true, Bool.and_eq_true, stO_iff, List.all_eq_true]
    constructor
    · rintro ⟨⟨_, h2⟩, h3⟩
      refine ⟨fun b hb => ?_, h3⟩
      have := h2 b hb
      rw [Bool.and_eq_true, Bool.not_eq_true'] at this
      exact this
    · rintro ⟨h2, h3⟩
      refine ⟨⟨dle_refl x, fun b hb => ?_⟩, h3⟩
      rw [Bool.and_eq_true, Bool.not_eq_true']
      exact h2 b hb
theorem stO_of {es : List PyData} (hn : es.Nodup) (hi : TkInj es) (hs : es.Pairwise fun a b => dle a b = true) : stO es = true := by
  rw [stO_iff]
  have : es.Pairwise fun a b => a ≠ b ∧ dle a b = true := List.Pairwise.and hn hs
  refine List.Pairwise.imp_of_mem (fun {a b} ha hb ⟨h1, h2⟩ => ⟨h2, ?_⟩) this
  cases h : dle b a with
  | false => rfl
  | true => exact absurd (hi a ha b hb (dle_anti h2 h)) h1
theorem stO_srt {es : List PyData} (hn : es.Nodup) (hi : TkInj es) : stO (srt es) = true :=
  stO_of ((srt_perm_self es).nodup_iff.mpr hn) (fun a ha b hb => hi a (mem_srt.mp ha) b (mem_srt.mp hb)) (srt_le es)
/-- sorted lists without repeats are told by their members -/
theorem srt_same {ds es : List PyData} (h1 : ds.Nodup) (h2 : es.Nodup) (hi : TkInj es) (hm : ∀ d, d ∈ ds ↔ d ∈ es) : srt ds = srt es :=
  srt_perm (stO_srt h2 hi) ((List.perm_ext_iff_of_nodup h1 h2).mpr hm)
theorem srt_id {es : List PyData} (h : stO es = true) : srt es = es := by
  refine List.mergeSort_of_pairwise ?_
  exact (stO_iff.mp h).imp fun h => h.1
/-! texts -/
abbrev sD (xs : List Str) : List PyData := xs.map PyData.str
theorem str_inj {x y : Str} (h : tk (.str x) = tk (.str y)) : x = y := by
  have h' : [(Sum.inr x.cps.toList : Int ⊕ List Nat)] = [Sum.inr y.cps.toList] := by simpa [W.keyToks] using h
  simp only [List.cons.injEq, Sum.inr.injEq, and_true] at h'
  exact W.str_of_cps h'
theorem tkInj_s (xs : List Str) : TkInj (sD xs) := by
  intro a ha b hb h
  obtain ⟨x, _, rfl⟩ := List.mem_map.mp ha
  obtain ⟨y, _, rfl⟩ := List.mem_map.mp hb
  rw [str_inj h]
theorem nodup_s {xs : List Str} (h : xs.Nodup) : (sD xs).Nodup := List.pairwise_map.mpr (h.imp fun h e => h (by injection e))
theorem allP_s : ∀ xs : List Str, allP strP (sD xs) = some xs
  | [] => rfl
  | x :: xs => by
    show allP strP (.str x :: sD xs) = _
    unfold allP
    rw [allP_s xs]
    rfl
theorem setDs_s {xs : List Str} (h : xs.length ≤ 4000) : setDs (sD xs) = some (sD (dd xs)) := by
  unfold setDs
  rw [allP_s]
  exact if_pos h
theorem srtOk_s {xs : List Str} (h : xs.length ≤ sizeLine) : srtOk (sD xs) = true := by
  unfold srtOk
  simp only [Bool.and_eq_true, List.all_eq_true, Bool.or_eq_true]
  refine ⟨⟨⟨?_, .inr ?_⟩, ?_⟩, ?_⟩
  · intro d hd e he
    obtain ⟨x, _, rfl⟩ := List.mem_map.mp hd
    obtain ⟨y, _, rfl⟩ := List.mem_map.mp he
    rw [W.alike]
  · intro d hd
    obtain ⟨x, _, rfl⟩ := List.mem_map.mp hd
    rfl
  · intro d hd
    obtain ⟨x, _, rfl⟩ := List.mem_map.mp hd
    unfold shp
    exact decide_eq_true (by rw [PyData.depth]; omega)
  · unfold size
    rw [List.length_map]
    exact decide_eq_true h
end Mi
set_option Elab.async false
set_option linter.all false
set_option maxRecDepth 100000
/-! M30: single steps of mirrors on texts, plain. -/
namespace Mi
open PySem PyProof.Rows
theorem eqv_s (x y : Str) : PyData.eqv (.str x) (.str y) = decide (x = y) := by
  rw [PyData.eqv]
  by_cases h : x = y
  · subst h; simp
  · rw [decide_eq_false h]; exact beq_eq_false_iff_ne.mpr h
theorem any_s (x : Str) : ∀ ys : List Str, ((sD ys).any fun z => PyData.eqv z (.str x)) = decide (x ∈ ys)
  | [] => by simp
  | y :: ys => by
    show (PyData.eqv (.str y) (.str x) || (sD ys).any _) = _
    rw [any_s x ys, eqv_s]
    by_cases h : y = x
    · subst h; simp
    · rw [decide_eq_false h, Bool.false_or]
      simp [List.mem_cons, Ne.symm h]
theorem shp_s (x : Str) : shp (.str x) = true := by
  unfold shp
  exact decide_eq_true (by rw [PyData.depth]; omega)
theorem inn_st (x : Str) (ys : List Str) : innC (.d (.str x)) (.d (.tuple (sD ys))) = some (decide (x ∈ ys)) := by
  show (if shp (.str x) then some _ else none) = _
  rw [if_pos (shp_s x), any_s]
theorem inn_sl (x : Str) (ys : List Str) : innC (.d (.str x)) (.o (.lst (sD ys))) = some (decide (x ∈ ys)) := by
  show (if shp (.str x) then some _ else none) = _
  rw [if_pos (shp_s x), any_s]
end Mi
set_option Elab.async false
set_option linter.all false
set_option maxRecDepth 100000
/-! M31: dict comprehensions over distinct keys, plain. -/
namespace Mi
open PySem
section
variable {r r0 : Rho} {s : Sto}
theorem putD_new {kvs : List (PyData × PyData)} {k : Str} {v : PyData} (h : ∀ p ∈ kvs, keyK p.1 ≠ some (.inr k)) : putD kvs (.inr k) (.str k) v = kvs ++ [(.str k, v)] := by
  unfold putD
  rw [if_neg]
  intro z
  rw [List.any_eq_true] at z
  obtain ⟨p, hp, e⟩ := z
  exact h p hp (of_decide_eq_true e)
theorem dcL_all {ι : Type} {vs : List Nat} {t : Tgt} {tk tv : M Rv} (enc : ι → PyData) (key : ι → Str) (val : ι → PyData) : ∀ (xs : List ι) (acc : List (PyData × PyData)), acc.length + xs.length ≤ sizeLine → (xs.map key).Nodup → (∀ p ∈ acc, ∀ x ∈ xs, keyK p.1 ≠ some (.inr (key x))) →
    (∀ x ∈ xs, ∃ r1, setT t (enc x) r0 = some r1 ∧ wipeR r1 vs = r0 ∧ tk r1 s = .ok (ad (.str (key x))) r1 s ∧ tv r1 s = .ok (ad (val x)) r1 s ∧ restD (ad (val x)) r1 s = .ok (val x) r1 s) →
    dcL vs t (M.pure true) tk tv (xs.map enc) acc r0 s = .ok (acc ++ xs.map fun x => (.str (key x), val x)) r0 s
  | [], acc, _, _, _, _ => by
    rw [List.map_nil, List.map_nil, List.append_nil]
    rfl
  | x :: xs, acc, hz, hn, ha, h => by
    obtain ⟨r1, e, e2, e3, e4, e5⟩ := h x List.mem_cons_self
    have eg : tgM t (enc x) r0 s = .ok () r1 s := by unfold tgM; rw [e]
    rw [List.length_cons] at hz
    rw [List.map_cons, List.nodup_cons] at hn
    rw [List.map_cons]
    unfold dcL
    rw [b_ok eg, b_ok (show M.pure true r1 s = .ok true r1 s from rfl), if_pos rfl, b_ok e3, b_ok e4]
    rw [b_ok (show ct (opd (ad (.str (key x)))) r1 s = .ok (.d (.str (key x))) r1 s from rfl), b_ok (show ofOpt (keyC (.d (.str (key x)))) r1 s = .ok (.inr (key x)) r1 s from rfl), b_ok (show ofOpt (Ct.data? (.d (.str (key x)))) r1 s = .ok (.str (key x)) r1 s from rfl),
      b_ok (show restD (opd (ad (val x))) r1 s = .ok (val x) r1 s from e5), if_pos (decide_eq_true (by omega))]
    show dcL vs t (M.pure true) tk tv (xs.map enc) (putD acc (.inr (key x)) (.str (key x)) (val x)) (wipeR r1 vs) s = _
    rw [e2, putD_new (fun p hp => ha p hp x List.mem_cons_self)]
    rw [dcL_all enc key val xs _ (by rw [List.length_append, List.length_singleton]; omega) hn.2 (fun p hp y hy => ?_) fun y hy => h y (List.mem_cons_of_mem _ hy), List.append_assoc]
    · rfl
    · rcases List.mem_append.mp hp with z | z
      · exact ha p z y (List.mem_cons_of_mem _ hy)
      · rw [List.mem_singleton.mp z]
        intro q
        have : key x = key y := by
          have q' : some (Sum.inr (key x) : L2.Key) = some (.inr (key y)) := q
          injection q' with q'
          injection q'
        exact hn.1 (this ▸ List.mem_map.mpr ⟨y, hy, rfl⟩)
theorem dc_all {ι : Type} {it : M (List PyData)} {vs : List Nat} {t : Tgt} {tk tv : M Rv} {r1 : Rho} {s1 : Sto} (enc : ι → PyData) (key : ι → Str) (val : ι → PyData) {xs : List ι} (hit : it r s = .ok (xs.map enc) r1 s1) (hw : wipeR r1 vs = r0) (hw2 : wipeR r0 vs = r0) (hz : xs.length ≤ sizeLine) (hn : (xs.map key).Nodup)
    (h : ∀ x ∈ xs, ∃ r2, setT t (enc x) r0 = some r2 ∧ wipeR r2 vs = r0 ∧ tk r2 s1 = .ok (ad (.str (key x))) r2 s1 ∧ tv r2 s1 = .ok (ad (val x)) r2 s1 ∧ restD (ad (val x)) r2 s1 = .ok (val x) r2 s1) :
    dcM it vs t (M.pure true) tk tv r s = .ok (.fr (.dic (xs.map fun x => (.str (key x), val x)))) r0 s1 := by
  unfold dcM
  rw [b_ok hit, b_ok (show wpM vs r1 s1 = .ok () r0 s1 by unfold wpM; rw [hw]), b_ok (dcL_all enc key val xs [] (by simpa using hz) hn (fun p hp => nomatch hp) h), b_ok (show wpM vs r0 s1 = .ok () r0 s1 by unfold wpM; rw [hw2])]
  rfl
end
end Mi
set_option Elab.async false
set_option linter.all false
set_option maxRecDepth 100000
/-! M32: what a slot owns may be laid to rest at any time. -/
namespace Mi
open PySem L2
def frzM (i : Nat) : M Out := fun r s => match r[i]? with
  | some (.ow o) => .ok .nx (r.set i (.w (frzW o))) s
  | _ => .ok .nx r s
theorem frz_to {F : Fx} {m : M Out} {i : Nat} {D : Ends} {σ : L2.St} {H : Hp} (h : tS F (seqM (frzM i) m) D σ H) : tS F m D σ H := by
  obtain ⟨r, s, A, Hd, G, l, h⟩ := h
  unfold seqM at h
  cases q : r[i]? with
  | none =>
    rw [Rs.bind_ok (show frzM i r s = .ok .nx r s by unfold frzM; rw [q])] at h
    exact ⟨r, s, A, Hd, G, l, h⟩
  | some c =>
    cases c with
    | un =>
      rw [Rs.bind_ok (show frzM i r s = .ok .nx r s by unfold frzM; rw [q])] at h
      exact ⟨r, s, A, Hd, G, l, h⟩
    | w v =>
      rw [Rs.bind_ok (show frzM i r s = .ok .nx r s by unfold frzM; rw [q])] at h
      exact ⟨r, s, A, Hd, G, l, h⟩
    | ow o =>
      rw [Rs.bind_ok (show frzM i r s = .ok .nx (r.set i (.w (frzW o))) s by unfold frzM; rw [q])] at h
      obtain ⟨a, k1, _⟩ := G.env i _ q
      have e : rest (.pk i) r s = .ok (frzW o) (r.set i (.w (frzW o))) s := by
        show (match r[i]? with
          | some (.ow o) => Rs.ok (frzW o) (r.set i (.w (frzW o))) s
          | some (.w v) => Rs.ok v r s
          | _ => Rs.no) = _
        rw [q]
      obtain ⟨_, Hd2, G2, l2, _⟩ := G.rest (x := .ref a) (v := .pk i) k1 e
      refine ⟨_, s, A, Hd2, G2, l.tr l2, ?_⟩
      have h' : match m (r.set i (.w (frzW o))) s with
        | .ok o r' s' => ∀ σ' H' A' Hd', Good F σ' H' r' s' A' Hd' → A <+: A' → Le Hd Hd' → outD F D σ' H' Hd' A' r' o
        | .no => False := h
      cases e2 : m (r.set i (.w (frzW o))) s with
      | no => rw [e2] at h'; exact h'
      | ok o' r' s' =>
        rw [e2] at h'
        exact fun σ' H' A' Hd' G' p' l' => h' σ' H' A' Hd' G' p' (l2.tr l')
theorem pss_frI {F : Fx} {X : Cx} {ss : List Stmt} {m : M Out} (i : Nat) (h : PSs X ss (tS F m)) : PSs X ss (tS F (seqM (frzM i) m)) := PSs.imp h fun D σ H h => frz_to h
end Mi
set_option Elab.async false
set_option linter.all false
set_option maxRecDepth 100000
/-! T1: a typed reading of mirrors: judgements. -/
namespace Tz
open PySem Mi
abbrev PM := StateT Sto Option
section
variable {α β γ δ ι τ τ' ρ l : Type}
theorem pm_bind {t : PM α} {k : α → PM β} {s s' : Sto} {b : β} (h : (t >>= k) s = some (b, s')) : ∃ a s1, t s = some (a, s1) ∧ k a s1 = some (b, s') := by
  cases e : t s with
  | none =>
    have h' : Option.bind (t s) (fun p => k p.1 p.2) = some (b, s') := h
    rw [e] at h'
    cases h'
  | some p =>
    have h' : Option.bind (t s) (fun p => k p.1 p.2) = some (b, s') := h
    rw [e] at h'
    exact ⟨p.1, p.2, rfl, h'⟩
theorem pm_pure {a b : α} {s s' : Sto} (h : (pure a : PM α) s = some (b, s')) : b = a ∧ s' = s := by
  have h' : some (a, s) = some (b, s') := h
  cases h'
  exact ⟨rfl, rfl⟩
/-- under a condition -/
def gd (b : Bool) (x : α) : PM α := fun s => if b = true then some (x, s) else none
theorem pm_gd {b : Bool} {x y : α} {s s' : Sto} (h : gd b x s = some (y, s')) : b = true ∧ y = x ∧ s' = s := by
  unfold gd at h
  by_cases e : b = true
  · rw [if_pos e] at h; cases h; exact ⟨e, rfl, rfl⟩
  · rw [if_neg e] at h; cases h
theorem gd_t (x : α) : gd true x = (pure x : PM α) := Eq.trans rfl rfl
theorem gd_of {b : Bool} {x : α} (h : b = true) : gd b x = (pure x : PM α) := by subst h; rfl
def op (o : Option α) : PM α := fun s => o.map fun x => (x, s)
theorem pm_op {o : Option α} {y : α} {s s' : Sto} (h : op o s = some (y, s')) : o = some y ∧ s' = s := by
  unfold op at h
  cases o with
  | none => cases h
  | some x => cases h; exact ⟨rfl, rfl⟩
theorem op_some (x : α) : op (some x) = (pure x : PM α) := Eq.trans rfl rfl
theorem op_of {o : Option α} {x : α} (h : o = some x) : op o = (pure x : PM α) := by subst h; rfl
def no : PM α := fun _ => none

abbrev En := List (Option Sl)
def Mt (Γ : En) (r : Rho) : Prop := r.length = Γ.length ∧ ∀ (i : Nat) (c : Sl), Γ[i]? = some (some c) → r[i]? = some c
inductive Sh (α : Type) where
  | D (e : α → Wv)
  | F (e : α → OD)
  | P (i : Nat) (e : α → OD)
def Vl (Γ : En) : Sh α → α → Rv → Prop
  | .D e, a, v => v = .w (e a)
  | .F e, a, v => v = .fr (e a)
  | .P i e, a, v => v = .pk i ∧ Γ[i]? = some (some (.ow (e a)))
def Sh.np : Sh α → Bool
  | .P _ _ => false
  | _ => true
def ctW0 : Wv → Option Ct := ctW []
def Sh.cn : Sh α → α → Option Ct
  | .D e, a => ctW0 (e a)
  | .F e, a => some (.o (e a))
  | .P _ e, a => some (.o (e a))
theorem ctW_of {w : Wv} {c : Ct} {s : Sto} (h : ctW0 w = some c) : ctW s w = some c := by
  cases w with
  | d x => cases x <;> exact h
  | c o => exact h
  | obj n => unfold ctW0 ctW at h; simp at h
  | raw v => cases h
  | ro xs => exact h
theorem ct_frz (s : Sto) (o : OD) : ctW s (frzW o) = some (.o o) := by cases o <;> rfl
theorem vl_ct {Γ : En} {sh : Sh α} {a : α} {v : Rv} {r : Rho} {s : Sto} {c : Ct} (h : Vl Γ sh a v) (m : Mt Γ r) (e : sh.cn a = some c) : ctR r s v = some c := by
  cases sh with
  | D f =>
    cases h
    exact ctW_of e
  | F f =>
    cases h
    exact e
  | P i f =>
    obtain ⟨rfl, h2⟩ := h
    cases e
    have := m.2 _ _ h2
    show (match r[i]? with
      | some (.ow o) => some (Ct.o o)
      | some (.w v) => ctW s v
      | _ => none) = _
    rw [this]
theorem vl_cto {Γ : En} {sh : Sh α} {a : α} {v : Rv} {r : Rho} {s : Sto} {c : Ct} (h : Vl Γ sh a v) (m : Mt Γ r) (e : sh.cn a = some c) : ctR r s (opd v) = some c := by
  cases v with
  | w v => exact vl_ct h m e
  | pk i => exact vl_ct h m e
  | fr o =>
    cases sh with
    | D f => cases h
    | P i f => cases h.1
    | F f =>
      cases h
      cases e
      exact ct_frz s _
theorem ct_of {v : Rv} {r : Rho} {s : Sto} {c : Ct} (h : ctR r s v = some c) : ct v r s = .ok c r s := by
  unfold ct
  rw [h]
/-- an expression: its typed reading t, what it hands back, the slots after -/
def TEx (m : M Rv) (Γ : En) (t : PM α) (sh : Sh α) (G : α → En) : Prop := ∀ r s a s', Mt Γ r → t s = some (a, s') → ∃ v r', m r s = .ok v r' s' ∧ Mt (G a) r' ∧ Vl (G a) sh a v
abbrev TE (m : M Rv) (Γ : En) (t : PM α) (sh : Sh α) : Prop := TEx m Γ t sh fun _ => Γ
def TT (m : M Bool) (Γ : En) (t : PM Bool) : Prop := ∀ r s a s', Mt Γ r → t s = some (a, s') → ∃ r', m r s = .ok a r' s' ∧ Mt Γ r'
/-- data at rest -/
def TD (m : M Rv) (Γ : En) (t : PM α) (e : α → PyData) : Prop := ∀ r s a s', Mt Γ r → t s = some (a, s') → ∃ v r', m r s = .ok v r' s' ∧ Mt Γ r' ∧ opd v = ad (e a)
/-- operands, none of which a slot owns -/
def TW (ms : List (M Rv)) (Γ : En) (t : PM τ) (ws : τ → List Wv) : Prop := ∀ r s a s', Mt Γ r → t s = some (a, s') → ∃ r', evs ms r s = .ok ((ws a).map Rv.w) r' s' ∧ Mt Γ r'
/-- a walk -/
def TI (m : M (List PyData)) (Γ : En) (t : PM (List ι)) (e : ι → PyData) : Prop := ∀ r s a s', Mt Γ r → t s = some (a, s') → ∃ r', m r s = .ok (a.map e) r' s' ∧ Mt Γ r'
/-- a def -/
def TF (f : Fm) (ws : List Wv) (t : PM α) (sh : Sh α) : Prop := ∀ s a s', t s = some (a, s') → ∃ v, f ws s = some (v, s') ∧ Vl [] sh a v
inductive Fl (τ l ρ : Type) where
  | nx (a : τ)
  | bk (a : l)
  | ct (a : l)
  | rt (b : ρ)
def Sh.ret : Sh α → Sh α
  | .P _ e => .F e
  | s => s
def OutP (x : Rs Out) (s' : Sto) (G : τ → En) (L : l → En) (sh : Sh ρ) : Fl τ l ρ → Prop
  | .nx a => ∃ r', x = .ok .nx r' s' ∧ Mt (G a) r'
  | .bk a => ∃ r', x = .ok .bk r' s' ∧ Mt (L a) r'
  | .ct a => ∃ r', x = .ok .ct r' s' ∧ Mt (L a) r'
  | .rt b => ∃ v r' v', x = .ok (.rt v) r' s' ∧ retV r' v = some v' ∧ Vl [] sh b v'
/-- statements -/
def TS (m : M Out) (Γ : En) (t : PM (Fl τ l ρ)) (G : τ → En) (L : l → En) (sh : Sh ρ) : Prop := ∀ r s o s', Mt Γ r → t s = some (o, s') → OutP (m r s) s' G L sh o
def Fl.go (k : τ → PM (Fl τ' l ρ)) : Fl τ l ρ → PM (Fl τ' l ρ)
  | .nx a => k a
  | .bk a => pure (.bk a)
  | .ct a => pure (.ct a)
  | .rt b => pure (.rt b)
/-- one after another -/
def sq (t : PM (Fl τ l ρ)) (k : τ → PM (Fl τ' l ρ)) : PM (Fl τ' l ρ) := t >>= Fl.go k
theorem sq_nx {t : PM α} {f : α → τ} {k : τ → PM (Fl τ' l ρ)} : sq (t >>= fun a => pure (.nx (f a))) k = t >>= fun a => k (f a) := by
  unfold sq
  rw [bind_assoc]
  congr 1
theorem sq_pnx {a : τ} {k : τ → PM (Fl τ' l ρ)} : sq (pure (.nx a)) k = k a := Eq.trans rfl rfl
theorem sq_rt {t : PM α} {f : α → ρ} {k : τ → PM (Fl τ' l ρ)} : sq (t >>= fun a => pure (.rt (f a))) k = t >>= fun a => pure (.rt (f a)) := by
  unfold sq
  rw [bind_assoc]
  congr 1
theorem sq_prt {b : ρ} {k : τ → PM (Fl τ' l ρ)} : sq (pure (.rt b)) k = pure (.rt b) := Eq.trans rfl rfl
theorem sq_bind {t : PM α} {f : α → PM (Fl τ l ρ)} {k : τ → PM (Fl τ' l ρ)} : sq (t >>= f) k = t >>= fun a => sq (f a) k := by
  unfold sq
  rw [bind_assoc]
theorem sq_if {b : Bool} {t u : PM (Fl τ l ρ)} {k : τ → PM (Fl τ' l ρ)} : sq (if b = true then t else u) k = if b = true then sq t k else sq u k := by
  cases b <;> rfl
def Fl.out : Fl τ l ρ → PM ρ
  | .rt b => pure b
  | _ => no
/-- a def whose body returns -/
def fnR (t : PM (Fl τ l ρ)) : PM ρ := t >>= Fl.out
theorem fnR_rt {t : PM α} {f : α → ρ} : fnR (t >>= fun a => pure (.rt (f a)) : PM (Fl τ l ρ)) = t >>= fun a => pure (f a) := by
  unfold fnR
  rw [bind_assoc]
  congr 1
theorem fnR_prt {b : ρ} : fnR (pure (.rt b) : PM (Fl τ l ρ)) = pure b := Eq.trans rfl rfl
theorem fnR_bind {t : PM α} {f : α → PM (Fl τ l ρ)} : fnR (t >>= f) = t >>= fun a => fnR (f a) := by
  unfold fnR
  rw [bind_assoc]
theorem fnR_if {b : Bool} {t u : PM (Fl τ l ρ)} : fnR (if b = true then t else u) = if b = true then fnR t else fnR u := by
  cases b <;> rfl
/-- a def whose body falls through -/
def Fl.outN : Fl τ l Unit → PM Unit
  | .nx _ => pure ()
  | _ => no
def fnN (t : PM (Fl τ l Unit)) : PM Unit := t >>= Fl.outN

/-! ### the slots' descriptions -/
theorem mt_len {Γ : En} {r : Rho} (h : Mt Γ r) : r.length = Γ.length := h.1
theorem mt_at {Γ : En} {r : Rho} {i : Nat} {c : Sl} (h : Mt Γ r) (e : Γ[i]? = some (some c)) : r[i]? = some c := h.2 i c e
theorem mt_set {Γ : En} {r : Rho} {i : Nat} {c : Sl} (h : Mt Γ r) : Mt (Γ.set i (some c)) (r.set i c) := by
  refine ⟨by rw [List.length_set, List.length_set]; exact h.1, fun j d e => ?_⟩
  by_cases z : i = j
  · subst z
    have hl : i < Γ.length := by
      have := (List.getElem?_eq_some_iff.mp e).1
      rwa [List.length_set] at this
    rw [List.getElem?_set_self hl] at e
    cases e
    exact List.getElem?_set_self (by rw [h.1]; exact hl)
  · rw [List.getElem?_set_ne z] at e ⊢
    exact h.2 j d e
/-- less is said -/
def Wk (Γ Γ' : En) : Prop := Γ.length = Γ'.length ∧ ∀ (i : Nat) (c : Sl), Γ'[i]? = some (some c) → Γ[i]? = some (some c)
theorem Wk.mt {Γ Γ' : En} {r : Rho} (w : Wk Γ Γ') (h : Mt Γ r) : Mt Γ' r := ⟨h.1.trans w.1, fun i c e => h.2 i c (w.2 i c e)⟩
theorem wn : Wk [] [] := ⟨rfl, fun i c e => by simp at e⟩
theorem we {Γ Γ' : En} {x : Option Sl} (w : Wk Γ Γ') : Wk (x :: Γ) (x :: Γ') := by
  refine ⟨by rw [List.length_cons, List.length_cons, w.1], fun i c e => ?_⟩
  cases i with
  | zero => exact e
  | succ i => simp only [List.getElem?_cons_succ] at e ⊢; exact w.2 i c e
theorem wa {Γ Γ' : En} {x : Option Sl} (w : Wk Γ Γ') : Wk (x :: Γ) (none :: Γ') := by
  refine ⟨by rw [List.length_cons, List.length_cons, w.1], fun i c e => ?_⟩
  cases i with
  | zero => simp at e
  | succ i => simp only [List.getElem?_cons_succ] at e ⊢; exact w.2 i c e
theorem wq {Γ Γ' : En} {x y : Sl} (e : x = y) (w : Wk Γ Γ') : Wk (some x :: Γ) (some y :: Γ') := by
  subst e
  exact we w
theorem Wk.rfl {Γ : En} : Wk Γ Γ := ⟨Eq.refl _, fun _ _ e => e⟩
mutual
def setG : Tgt → PyData → En → Option En
  | .nm i, d, r => some (r.set i (some (.w (.d d))))
  | .tp ts, .tuple ds, r => setGs ts ds r
  | .tp _, _, _ => none
def setGs : Tgs → List PyData → En → Option En
  | .nil, [], r => some r
  | .cons t ts, d :: ds, r => match setG t d r with
    | some r' => setGs ts ds r'
    | none => none
  | _, _, _ => none
end
mutual
theorem setG_ok : ∀ {t : Tgt} {d : PyData} {Γ Γ' : En} {r : Rho}, setG t d Γ = some Γ' → Mt Γ r → ∃ r', setT t d r = some r' ∧ Mt Γ' r'
  | .nm i, d, Γ, Γ', r, h, m => by
    simp only [setG] at h
    cases h
    exact ⟨_, by simp only [setT], mt_set m⟩
  | .tp ts, .tuple ds, Γ, Γ', r, h, m => by
    simp only [setG] at h
    obtain ⟨r', h1, h2⟩ := setGs_ok h m
    exact ⟨r', by simp only [setT]; exact h1, h2⟩
  | .tp _, .none, _, _, _, h, _ => by simp only [setG] at h; cases h
  | .tp _, .bool _, _, _, _, h, _ => by simp only [setG] at h; cases h
  | .tp _, .int _, _, _, _, h, _ => by simp only [setG] at h; cases h
  | .tp _, .str _, _, _, _, h, _ => by simp only [setG] at h; cases h
  | .tp _, .list _, _, _, _, h, _ => by simp only [setG] at h; cases h
  | .tp _, .dict _, _, _, _, h, _ => by simp only [setG] at h; cases h
theorem setGs_ok : ∀ {ts : Tgs} {ds : List PyData} {Γ Γ' : En} {r : Rho}, setGs ts ds Γ = some Γ' → Mt Γ r → ∃ r', setTs ts ds r = some r' ∧ Mt Γ' r'
  | .nil, [], Γ, Γ', r, h, m => by
    simp only [setGs] at h
    cases h
    exact ⟨r, by simp only [setTs], m⟩
  | .nil, _ :: _, _, _, _, h, _ => by simp only [setGs] at h; cases h
  | .cons _ _, [], _, _, _, h, _ => by simp only [setGs] at h; cases h
  | .cons t ts, d :: ds, Γ, Γ', r, h, m => by
    simp only [setGs] at h
    cases q : setG t d Γ with
    | none => rw [q] at h; cases h
    | some Γ1 =>
      rw [q] at h
      obtain ⟨r1, e1, m1⟩ := setG_ok q m
      obtain ⟨r2, e2, m2⟩ := setGs_ok (Γ := Γ1) h m1
      exact ⟨r2, by simp only [setTs, e1]; exact e2, m2⟩
end
mutual
theorem setG_ne : ∀ {t : Tgt} {d : PyData} {Γ Γ' : En} {i : Nat}, setG t d Γ = some Γ' → i ∉ t.sl → Γ'[i]? = Γ[i]?
  | .nm j, d, Γ, Γ', i, h, n => by
    simp only [setG] at h
    cases h
    rw [List.getElem?_set_ne]
    intro z; subst z; exact n (List.mem_singleton.mpr rfl)
  | .tp ts, .tuple ds, Γ, Γ', i, h, n => by
    simp only [setG] at h
    exact setGs_ne h n
  | .tp _, .none, _, _, _, h, _ => by simp only [setG] at h; cases h
  | .tp _, .bool _, _, _, _, h, _ => by simp only [setG] at h; cases h
  | .tp _, .int _, _, _, _, h, _ => by simp only [setG] at h; cases h
  | .tp _, .str _, _, _, _, h, _ => by simp only [setG] at h; cases h
  | .tp _, .list _, _, _, _, h, _ => by simp only [setG] at h; cases h
  | .tp _, .dict _, _, _, _, h, _ => by simp only [setG] at h; cases h
theorem setGs_ne : ∀ {ts : Tgs} {ds : List PyData} {Γ Γ' : En} {i : Nat}, setGs ts ds Γ = some Γ' → i ∉ ts.sl → Γ'[i]? = Γ[i]?
  | .nil, [], Γ, Γ', i, h, _ => by
    simp only [setGs] at h
    cases h
    rfl
  | .nil, _ :: _, _, _, _, h, _ => by simp only [setGs] at h; cases h
  | .cons _ _, [], _, _, _, h, _ => by simp only [setGs] at h; cases h
  | .cons t ts, d :: ds, Γ, Γ', i, h, n => by
    simp only [setGs] at h
    have n' : i ∉ t.sl ∧ i ∉ ts.sl := ⟨fun z => n (by simp only [Tgs.sl]; exact List.mem_append_left _ z), fun z => n (by simp only [Tgs.sl]; exact List.mem_append_right _ z)⟩
    cases q : setG t d Γ with
    | none => rw [q] at h; cases h
    | some Γ1 =>
      rw [q] at h
      rw [setGs_ne (Γ := Γ1) h n'.2, setG_ne q n'.1]
end
def nn (Γ : En) : List Nat → Bool
  | [] => true
  | v :: vs => (match Γ[v]? with
    | some none => true
    | _ => false) && nn Γ vs
theorem nn_at {Γ : En} : ∀ {vs : List Nat} {v : Nat}, nn Γ vs = true → v ∈ vs → Γ[v]? = some none
  | [], _, _, h => by cases h
  | x :: vs, v, e, h => by
    unfold nn at e
    rw [Bool.and_eq_true] at e
    rcases List.mem_cons.mp h with z | z
    · subst z
      have e1 := e.1
      split at e1
      · assumption
      · cases e1
    · exact nn_at e.2 z
theorem wipe_len : ∀ {vs : List Nat} {r : Rho}, (wipeR r vs).length = r.length
  | [], _ => rfl
  | v :: vs, r => by
    unfold wipeR
    rw [List.length_set, wipe_len]
theorem wipe_ne : ∀ {vs : List Nat} {r : Rho} {i : Nat}, i ∉ vs → (wipeR r vs)[i]? = r[i]?
  | [], _, _, _ => rfl
  | v :: vs, r, i, h => by
    unfold wipeR
    rw [List.getElem?_set_ne (fun z => h (by rw [z]; exact List.mem_cons_self)), wipe_ne fun z => h (List.mem_cons_of_mem _ z)]
theorem mt_wipe {Γ : En} {r : Rho} {vs : List Nat} (h : Mt Γ r) (n : nn Γ vs = true) : Mt Γ (wipeR r vs) := by
  refine ⟨by rw [wipe_len]; exact h.1, fun i c e => ?_⟩
  rw [wipe_ne fun z => by rw [nn_at n z] at e; cases e]
  exact h.2 i c e
theorem mt_wipeX {Γ Γx : En} {r : Rho} {t : Tgt} {d : PyData} {vs : List Nat} (hx : setG t d Γ = some Γx) (h : Mt Γx r) (hl : Γx.length = Γ.length) (n : nn Γ vs = true) (hs : ∀ i ∈ t.sl, i ∈ vs) : Mt Γ (wipeR r vs) := by
  refine ⟨by rw [wipe_len]; exact h.1.trans hl, fun i c e => ?_⟩
  have iv : i ∉ vs := fun z => by rw [nn_at n z] at e; cases e
  rw [wipe_ne iv]
  refine h.2 i c ?_
  rw [setG_ne hx fun z => iv (hs i z)]
  exact e
mutual
theorem setG_len : ∀ {t : Tgt} {d : PyData} {Γ Γ' : En}, setG t d Γ = some Γ' → Γ'.length = Γ.length
  | .nm j, d, Γ, Γ', h => by
    simp only [setG] at h
    cases h
    rw [List.length_set]
  | .tp ts, .tuple ds, Γ, Γ', h => by
    simp only [setG] at h
    exact setGs_len h
  | .tp _, .none, _, _, h => by simp only [setG] at h; cases h
  | .tp _, .bool _, _, _, h => by simp only [setG] at h; cases h
  | .tp _, .int _, _, _, h => by simp only [setG] at h; cases h
  | .tp _, .str _, _, _, h => by simp only [setG] at h; cases h
  | .tp _, .list _, _, _, h => by simp only [setG] at h; cases h
  | .tp _, .dict _, _, _, h => by simp only [setG] at h; cases h
theorem setGs_len : ∀ {ts : Tgs} {ds : List PyData} {Γ Γ' : En}, setGs ts ds Γ = some Γ' → Γ'.length = Γ.length
  | .nil, [], Γ, Γ', h => by
    simp only [setGs] at h
    cases h
    rfl
  | .nil, _ :: _, _, _, h => by simp only [setGs] at h; cases h
  | .cons _ _, [], _, _, h => by simp only [setGs] at h; cases h
  | .cons t ts, d :: ds, Γ, Γ', h => by
    simp only [setGs] at h
    cases q : setG t d Γ with
    | none => rw [q] at h; cases h
    | some Γ1 =>
      rw [q] at h
      rw [setGs_len (Γ := Γ1) h, setG_len q]
end
end
end Tz
set_option Elab.async false
set_option linter.all false
set_option maxRecDepth 100000
/-! T2: encodings; rules of expressions. -/
namespace Tz
open PySem Mi
abbrev eI : Int → PyData := PyData.int
abbrev eB : Bool → PyData := PyData.bool
abbrev eS : Str → PyData := PyData.str
abbrev eN : Unit → PyData := fun _ => .none
section
variable {α β γ δ ε ζ ι κ τ τ' ρ l : Type}
abbrev eT (e : α → PyData) : List α → PyData := fun xs => .tuple (xs.map e)
abbrev eL (e : α → PyData) : List α → PyData := fun xs => .list (xs.map e)
abbrev eP2 (e1 : α → PyData) (e2 : β → PyData) : α × β → PyData := fun p => .tuple [e1 p.1, e2 p.2]
abbrev eP3 (e1 : α → PyData) (e2 : β → PyData) (e3 : γ → PyData) : α × β × γ → PyData := fun p => .tuple [e1 p.1, e2 p.2.1, e3 p.2.2]
abbrev eP4 (e1 : α → PyData) (e2 : β → PyData) (e3 : γ → PyData) (e4 : δ → PyData) : α × β × γ × δ → PyData := fun p => .tuple [e1 p.1, e2 p.2.1, e3 p.2.2.1, e4 p.2.2.2]
abbrev eP1 (e1 : α → PyData) : α → PyData := fun a => .tuple [e1 a]
abbrev dW (e : α → PyData) : α → Wv := fun a => .d (e a)
abbrev oL (e : α → PyData) : List α → OD := fun xs => .lst (xs.map e)
abbrev oD (ek : κ → PyData) (ev : β → PyData) : List (κ × β) → OD := fun m => .dic (m.map fun p => (ek p.1, ev p.2))
/-! ### equality and order of typed data -/
structure EqE [DecidableEq α] (e : α → PyData) (n : Nat) : Prop where
  eq : ∀ a b, PyData.eqv (e a) (e b) = decide (a = b)
  dep : ∀ a, (e a).depth ≤ n
theorem eqe_i : EqE eI 0 := ⟨fun a b => by rw [PyData.eqv]; by_cases h : a = b <;> simp [h], fun a => by rw [PyData.depth]; exact Nat.le_refl _⟩
theorem eqe_b : EqE eB 0 := ⟨fun a b => by cases a <;> cases b <;> rfl, fun a => by rw [PyData.depth]; exact Nat.le_refl _⟩
theorem eqe_s : EqE eS 0 := ⟨fun a b => eqv_s a b, fun a => by rw [PyData.depth]; exact Nat.le_refl _⟩
theorem eqe_n : EqE eN 0 := ⟨fun a b => by cases a; cases b; rfl, fun a => by rw [PyData.depth]; exact Nat.le_refl _⟩
theorem eqa_map [DecidableEq α] {e : α → PyData} {n : Nat} (E : EqE e n) : ∀ xs ys : List α, PyData.eqvAll (xs.map e) (ys.map e) = decide (xs = ys)
  | [], [] => by simp [PyData.eqvAll]
  | [], _ :: _ => by simp [PyData.eqvAll]
  | _ :: _, [] => by simp [PyData.eqvAll]
  | x :: xs, y :: ys => by
    rw [List.map_cons, List.map_cons, PyData.eqvAll, E.eq, eqa_map E xs ys]
    by_cases h : x = y <;> simp [h]
theorem dep_map {e : α → PyData} {n : Nat} (E : ∀ a, (e a).depth ≤ n) : ∀ xs : List α, PyData.depthAll (xs.map e) ≤ n
  | [] => by rw [List.map_nil, PyData.depthAll]; exact Nat.zero_le _
  | x :: xs => by
    rw [List.map_cons, PyData.depthAll]
    exact Nat.max_le.mpr ⟨E x, dep_map E xs⟩
theorem EqE.tup [DecidableEq α] {e : α → PyData} {n : Nat} (E : EqE e n) : EqE (eT e) (n + 1) := ⟨fun a b => by rw [PyData.eqv]; exact eqa_map E a b, fun a => by rw [PyData.depth]; exact Nat.succ_le_succ (dep_map E.dep a)⟩
theorem EqE.lst [DecidableEq α] {e : α → PyData} {n : Nat} (E : EqE e n) : EqE (eL e) (n + 1) := ⟨fun a b => by rw [PyData.eqv]; exact eqa_map E a b, fun a => by rw [PyData.depth]; exact Nat.succ_le_succ (dep_map E.dep a)⟩
theorem EqE.p2 [DecidableEq α] [DecidableEq β] {e1 : α → PyData} {e2 : β → PyData} {n m : Nat} (E1 : EqE e1 n) (E2 : EqE e2 m) : EqE (eP2 e1 e2) (max n m + 1) := ⟨fun a b => by
    obtain ⟨a1, a2⟩ := a
    obtain ⟨b1, b2⟩ := b
    rw [PyData.eqv, PyData.eqvAll, PyData.eqvAll, PyData.eqvAll, E1.eq, E2.eq]
    by_cases h1 : a1 = b1 <;> by_cases h2 : a2 = b2 <;> simp [h1, h2], fun a => by
    have h1 := E1.dep a.1
    have h2 := E2.dep a.2
    simp only [PyData.depth, PyData.depthAll]
    omega⟩
theorem EqE.p3 [DecidableEq α] [DecidableEq β] [DecidableEq γ] {e1 : α → PyData} {e2 : β → PyData} {e3 : γ → PyData} {n m k : Nat} (E1 : EqE e1 n) (E2 : EqE e2 m) (E3 : EqE e3 k) : EqE (eP3 e1 e2 e3) (max n (max m k) + 1) := ⟨fun a b => by
    obtain ⟨a1, a2, a3⟩ := a
    obtain ⟨b1, b2, b3⟩ := b
    rw [PyData.eqv, PyData.eqvAll, PyData.eqvAll, PyData.eqvAll, PyData.eqvAll, E1.eq, E2.eq, E3.eq]
    by_cases h1 : a1 = b1 <;> by_cases h2 : a2 = b2 <;> by_cases h3 : a3 = b3 <;> simp [h1, h2, h3], fun a => by
    have h1 := E1.dep a.1
    have h2 := E2.dep a.2.1
    have h3 := E3.dep a.2.2
    simp only [PyData.depth, PyData.depthAll]
    omega⟩
theorem EqE.shp [DecidableEq α] {e : α → PyData} {n : Nat} (E : EqE e n) (h : n ≤ 60) (a : α) : shp (e a) = true := by
  unfold Mi.shp
  exact decide_eq_true (Nat.le_trans (E.dep a) h)
theorem EqE.eqD [DecidableEq α] {e : α → PyData} {n : Nat} (E : EqE e n) (h : n ≤ 60) (a b : α) : eqD (e a) (e b) = some (decide (a = b)) := by
  unfold Mi.eqD
  rw [if_pos (by rw [E.shp h a]; rfl), E.eq]
theorem any_eq [DecidableEq α] {e : α → PyData} {n : Nat} (E : EqE e n) (x : α) : ∀ ys : List α, ((ys.map e).any fun z => PyData.eqv z (e x)) = decide (x ∈ ys)
  | [] => by simp
  | y :: ys => by
    rw [List.map_cons, List.any_cons, any_eq E x ys, E.eq]
    by_cases h : y = x
    · subst h; simp
    · rw [decide_eq_false h, Bool.false_or]
      simp [List.mem_cons, Ne.symm h]
structure LtE (e : α → PyData) (n : Nat) : Prop where
  al : ∀ a b, W.alike (e a) (e b) = true
  nn : ∀ a, e a ≠ .none
  dep : ∀ a, (e a).depth ≤ n
theorem lte_i : LtE eI 0 := ⟨fun a b => by rw [W.alike], fun a h => (by cases h), fun a => by rw [PyData.depth]; exact Nat.le_refl _⟩
theorem lte_s : LtE eS 0 := ⟨fun a b => by rw [W.alike], fun a h => (by cases h), fun a => by rw [PyData.depth]; exact Nat.le_refl _⟩
theorem ala_map {e : α → PyData} (E : ∀ a b, W.alike (e a) (e b) = true) : ∀ xs ys : List α, W.alikeAll (xs.map e) (ys.map e) = true
  | [], ys => by rw [List.map_nil, W.alikeAll]
  | _ :: _, [] => by rw [List.map_nil, List.map_cons, W.alikeAll]
  | x :: xs, y :: ys => by rw [List.map_cons, List.map_cons, W.alikeAll, E, ala_map E xs ys]; rfl
theorem LtE.tup {e : α → PyData} {n : Nat} (E : LtE e n) : LtE (eT e) (n + 1) := ⟨fun a b => by rw [W.alike]; exact ala_map E.al a b, fun a h => (by cases h), fun a => by rw [PyData.depth]; exact Nat.succ_le_succ (dep_map E.dep a)⟩
theorem LtE.p3 {e1 : α → PyData} {e2 : β → PyData} {e3 : γ → PyData} {n m k : Nat} (E1 : LtE e1 n) (E2 : LtE e2 m) (E3 : LtE e3 k) : LtE (eP3 e1 e2 e3) (max n (max m k) + 1) := ⟨fun a b => by
    rw [W.alike, W.alikeAll, W.alikeAll, W.alikeAll, W.alikeAll, E1.al, E2.al, E3.al]; rfl, fun a h => (by cases h), fun a => by
    have h1 := E1.dep a.1
    have h2 := E2.dep a.2.1
    have h3 := E3.dep a.2.2
    simp only [PyData.depth, PyData.depthAll]
    omega⟩
theorem LtE.p2 {e1 : α → PyData} {e2 : β → PyData} {n m : Nat} (E1 : LtE e1 n) (E2 : LtE e2 m) : LtE (eP2 e1 e2) (max n m + 1) := ⟨fun a b => by
    rw [W.alike, W.alikeAll, W.alikeAll, W.alikeAll, E1.al, E2.al]; rfl, fun a h => (by cases h), fun a => by
    have h1 := E1.dep a.1
    have h2 := E2.dep a.2
    simp only [PyData.depth, PyData.depthAll]
    omega⟩
theorem LtE.ltD {e : α → PyData} {n : Nat} (E : LtE e n) (h : n ≤ 60) (a b : α) : ltD (e a) (e b) = some (W.dataLt (e a) (e b)) := by
  have hs : (shp (e a) && W.alike (e a) (e b)) = true := by
    rw [E.al, Bool.and_true]
    unfold shp
    exact decide_eq_true (Nat.le_trans (E.dep a) h)
  have hn := E.nn a
  unfold Mi.ltD
  split
  · rename_i z; exact absurd z hn
  · rw [if_pos hs]
/-- sorted -/
def sr (e : α → PyData) (xs : List α) : List α := xs.mergeSort fun a b => dle (e a) (e b)
theorem srt_map (e : α → PyData) (xs : List α) : srt (xs.map e) = (sr e xs).map e := by
  unfold srt sr
  exact (List.map_mergeSort (r := fun a b => dle (e a) (e b)) (s := W.dataLe false id) (f := e) (fun _ _ _ _ => rfl)).symm
theorem LtE.srtOk {e : α → PyData} {n : Nat} (E : LtE e n) (h : n ≤ 60) (ht : (∀ a, isTup (e a) = true) ∨ ∀ a, nonNT (e a) = true) {xs : List α} (hz : xs.length ≤ sizeLine) : srtOk (xs.map e) = true := by
  unfold Mi.srtOk
  simp only [Bool.and_eq_true, List.all_eq_true, Bool.or_eq_true]
  refine ⟨⟨⟨?_, ?_⟩, ?_⟩, ?_⟩
  · intro d hd e' he
    obtain ⟨x, _, rfl⟩ := List.mem_map.mp hd
    obtain ⟨y, _, rfl⟩ := List.mem_map.mp he
    exact E.al x y
  · refine ht.imp (fun h d hd => ?_) fun h d hd => ?_
    · obtain ⟨x, _, rfl⟩ := List.mem_map.mp hd
      exact h x
    · obtain ⟨x, _, rfl⟩ := List.mem_map.mp hd
      exact h x
  · intro d hd
    obtain ⟨x, _, rfl⟩ := List.mem_map.mp hd
    unfold shp
    exact decide_eq_true (Nat.le_trans (E.dep x) h)
  · unfold size
    rw [List.length_map]
    exact decide_eq_true hz
/-! ### rules -/
theorem vl_up {Γ : En} {sh : Sh α} {a : α} {v : Rv} (h : Vl [] sh a v) : Vl Γ sh a v := by
  cases sh with
  | D e => exact h
  | F e => exact h
  | P i e => have := h.2; simp at this
/-- one operand, laid to rest -/
def T1 (m : M Rv) (Γ : En) (t : PM α) (w : α → Wv) : Prop := ∀ r s a s', Mt Γ r → t s = some (a, s') → ∃ v r', m r s = .ok v r' s' ∧ Mt Γ r' ∧ opd v = .w (w a)
theorem t1_d {m : M Rv} {Γ : En} {t : PM α} {w : α → Wv} (h : TE m Γ t (.D w)) : T1 m Γ t w := fun r s a s' hm ht => by
  obtain ⟨v, r', e, hm', k⟩ := h r s a s' hm ht
  exact ⟨v, r', e, hm', by cases k; rfl⟩
theorem t1_f {m : M Rv} {Γ : En} {t : PM α} {o : α → OD} (h : TE m Γ t (.F o)) : T1 m Γ t fun a => frzW (o a) := fun r s a s' hm ht => by
  obtain ⟨v, r', e, hm', k⟩ := h r s a s' hm ht
  exact ⟨v, r', e, hm', by cases k; rfl⟩
theorem t1_l {m : M Rv} {Γ : En} {t : PM (List α)} {e : α → PyData} (h : TE m Γ t (.F (oL e))) : T1 m Γ t (dW (eL e)) := t1_f h
theorem tw_nil {Γ : En} : TW [] Γ (pure ()) (fun _ => []) := fun r s a s' hm ht => by
  obtain ⟨rfl, rfl⟩ := pm_pure ht
  exact ⟨r, rfl, hm⟩
theorem tw_cons {m : M Rv} {ms : List (M Rv)} {Γ : En} {t : PM α} {ts : PM τ} {w : α → Wv} {ws : τ → List Wv} (h : T1 m Γ t w) (hs : TW ms Γ ts ws) : TW (m :: ms) Γ (t >>= fun a => ts >>= fun p => pure (a, p)) (fun p => w p.1 :: ws p.2) := fun r s q s' hm ht => by
  obtain ⟨a, s1, e1, ht⟩ := pm_bind ht
  obtain ⟨p, s2, e2, ht⟩ := pm_bind ht
  obtain ⟨rfl, rfl⟩ := pm_pure ht
  obtain ⟨v, r1, k1, m1, k2⟩ := h r s a s1 hm e1
  obtain ⟨r2, k3, m2⟩ := hs r1 s1 p s' m1 e2
  refine ⟨r2, ?_, m2⟩
  unfold evs
  rw [b_ok k1, b_ok k3, k2]
  rfl
theorem restWs_w : ∀ (ws : List Wv) (r : Rho) (s : Sto), restWs (ws.map Rv.w) r s = .ok ws r s
  | [], r, s => rfl
  | w :: ws, r, s => by
    rw [List.map_cons]
    unfold restWs
    rw [b_ok (show restO (.w w) r s = .ok w r s from rfl), b_ok (restWs_w ws r s)]
    rfl
theorem restDs_w : ∀ (ds : List PyData) (r : Rho) (s : Sto), restDs ((ds.map Wv.d).map Rv.w) r s = .ok ds r s
  | [], r, s => rfl
  | d :: ds, r, s => by
    rw [List.map_cons, List.map_cons]
    unfold restDs
    rw [b_ok (show restD (.w (.d d)) r s = .ok d r s from rfl), b_ok (restDs_w ds r s)]
    rfl
/-! names, constants -/
theorem te_rd {Γ : En} {i : Nat} {a : α} {w : α → Wv} (h : Γ[i]? = some (some (.w (w a)))) : TE (rd i) Γ (pure a) (.D w) := fun r s b s' hm ht => by
  obtain ⟨rfl, rfl⟩ := pm_pure ht
  refine ⟨.w (w b), r, ?_, hm, rfl⟩
  unfold rd
  rw [mt_at hm h]
theorem te_ro {Γ : En} {i : Nat} {a : α} {o : α → OD} (h : Γ[i]? = some (some (.ow (o a)))) : TE (rd i) Γ (pure a) (.P i o) := fun r s b s' hm ht => by
  obtain ⟨rfl, rfl⟩ := pm_pure ht
  refine ⟨.pk i, r, ?_, hm, rfl, h⟩
  unfold rd
  rw [mt_at hm h]
theorem te_kd {Γ : En} {a : α} {e : α → PyData} : TE (kd (e a)) Γ (pure a) (.D (dW e)) := fun r s b s' hm ht => by
  obtain ⟨rfl, rfl⟩ := pm_pure ht
  exact ⟨_, r, rfl, hm, rfl⟩
theorem te_rw {Γ : En} {v : L2.V} : TE (rwM v) Γ (pure ()) (.D fun _ => .raw v) := fun r s b s' hm ht => by
  obtain ⟨_, rfl⟩ := pm_pure ht
  exact ⟨_, r, rfl, hm, rfl⟩
/-! displays -/
theorem te_tup {ms : List (M Rv)} {Γ : En} {t : PM τ} {ws : τ → List Wv} {e : α → PyData} (f : τ → α) (h : TW ms Γ t ws) (k : ∀ p, ∃ ds, e (f p) = .tuple ds ∧ ws p = ds.map Wv.d ∧ size ds.length = true) : TE (tupM ms) Γ (t >>= fun p => pure (f p)) (.D (dW e)) := fun r s q s' hm ht => by
  obtain ⟨p, s1, e1, ht⟩ := pm_bind ht
  obtain ⟨rfl, rfl⟩ := pm_pure ht
  obtain ⟨r1, k1, m1⟩ := h r s p s' hm e1
  obtain ⟨ds, q1, q2, q3⟩ := k p
  refine ⟨_, r1, ?_, m1, rfl⟩
  rw [q2] at k1
  unfold tupM
  rw [b_ok k1, b_ok (restDs_w ds r1 s'), if_pos q3]
  show Rs.ok (ad (.tuple ds)) r1 s' = _
  rw [← q1]
  rfl
theorem te_lst {ms : List (M Rv)} {Γ : En} {t : PM τ} {ws : τ → List Wv} {e : α → PyData} (f : τ → List α) (h : TW ms Γ t ws) (k : ∀ p, ws p = ((f p).map e).map Wv.d ∧ size ((f p).map e).length = true) : TE (lstM ms) Γ (t >>= fun p => pure (f p)) (.F (oL e)) := fun r s q s' hm ht => by
  obtain ⟨p, s1, e1, ht⟩ := pm_bind ht
  obtain ⟨rfl, rfl⟩ := pm_pure ht
  obtain ⟨r1, k1, m1⟩ := h r s p s' hm e1
  obtain ⟨q2, q3⟩ := k p
  refine ⟨_, r1, ?_, m1, rfl⟩
  rw [q2] at k1
  unfold lstM
  rw [b_ok k1, b_ok (restDs_w _ r1 s'), if_pos q3]
  rfl
/-! operations -/
def G2 (g : List Rv → M Rv) (f : Ct → Ct → Option Rv) : Prop := ∀ v1 v2 r s c1 c2 v, ctR r s v1 = some c1 → ctR r s v2 = some c2 → f c1 c2 = some v → g [v1, v2] r s = .ok v r s
theorem cts2 {v1 v2 : Rv} {r : Rho} {s : Sto} {c1 c2 : Ct} (h1 : ctR r s v1 = some c1) (h2 : ctR r s v2 = some c2) : cts [v1, v2] r s = .ok [c1, c2] r s := by
  unfold cts
  rw [b_ok (ct_of h1)]
  unfold cts
  rw [b_ok (show M.bind (ct v2) _ r s = .ok [c2] r s by rw [b_ok (ct_of h2)]; rfl)]
  rfl
theorem g2_of (f : Ct → Ct → Option Rv) : G2 (ofOp (two f)) f := fun v1 v2 r s c1 c2 v h1 h2 h => by
  unfold ofOp
  rw [b_ok (cts2 h1 h2)]
  show ofOpt (f c1 c2) r s = _
  rw [h]
  rfl
theorem g2_alt (f g : Ct → Ct → Option Rv) : G2 (altG (ofOp (two f)) (ofOp (two g))) fun a b => (f a b).or (g a b) := fun v1 v2 r s c1 c2 v h1 h2 h => by
  replace h : (f c1 c2).or (g c1 c2) = some v := h
  unfold altG
  cases e : f c1 c2 with
  | some w =>
    rw [g2_of f v1 v2 r s c1 c2 w h1 h2 e]
    rw [e] at h
    cases h
    rfl
  | none =>
    rw [e] at h
    have : ofOp (two f) [v1, v2] r s = .no := by
      unfold ofOp
      rw [b_ok (cts2 h1 h2)]
      show ofOpt (f c1 c2) r s = _
      rw [e]
      rfl
    rw [this]
    exact g2_of g v1 v2 r s c1 c2 v h1 h2 h
theorem te_g2 {g : List Rv → M Rv} {f : Ct → Ct → Option Rv} (hg : G2 g f) {m1 m2 : M Rv} {Γ : En} {t1 : PM α} {t2 : PM β} {sh1 : Sh α} {sh2 : Sh β} {sh : Sh γ} (k : α → β → PM γ) (h1 : TE m1 Γ t1 sh1) (h2 : TE m2 Γ t2 sh2)
    (h : ∀ a b s c s', k a b s = some (c, s') → s' = s ∧ ∃ x y v, sh1.cn a = some x ∧ sh2.cn b = some y ∧ f x y = some v ∧ Vl [] sh c v) : TE (gM g [m1, m2]) Γ (t1 >>= fun a => t2 >>= fun b => k a b) sh := fun r s q s' hm ht => by
  obtain ⟨a, s1, e1, ht⟩ := pm_bind ht
  obtain ⟨b, s2, e2, ht⟩ := pm_bind ht
  obtain ⟨rfl, x, y, v, q1, q2, q3, q4⟩ := h a b s2 q s' ht
  obtain ⟨v1, r1, k1, hm1, l1⟩ := h1 r s a s1 hm e1
  obtain ⟨v2, r2, k2, hm2, l2⟩ := h2 r1 s1 b s' hm1 e2
  refine ⟨v, r2, ?_, hm2, vl_up q4⟩
  unfold gM evs
  rw [b_ok (show M.bind m1 _ r s = .ok [opd v1, opd v2] r2 s' by
    rw [b_ok k1]
    unfold evs
    rw [b_ok (show M.bind m2 _ r1 s1 = .ok [opd v2] r2 s' by rw [b_ok k2]; rfl)]
    rfl)]
  exact hg _ _ r2 s' x y v (vl_cto l1 hm2 q1) (vl_cto l2 hm2 q2) q3
theorem te_g1 {f : Ct → Option Rv} {m1 : M Rv} {Γ : En} {t1 : PM α} {sh1 : Sh α} {sh : Sh γ} (k : α → PM γ) (h1 : TE m1 Γ t1 sh1)
    (h : ∀ a s c s', k a s = some (c, s') → s' = s ∧ ∃ x v, sh1.cn a = some x ∧ f x = some v ∧ Vl [] sh c v) : TE (gM (gOne f) [m1]) Γ (t1 >>= fun a => k a) sh := fun r s q s' hm ht => by
  obtain ⟨a, s1, e1, ht⟩ := pm_bind ht
  obtain ⟨rfl, x, v, q1, q3, q4⟩ := h a s1 q s' ht
  obtain ⟨v1, r1, k1, hm1, l1⟩ := h1 r s a s' hm e1
  refine ⟨v, r1, ?_, hm1, vl_up q4⟩
  unfold gM evs
  rw [b_ok (show M.bind m1 _ r s = .ok [opd v1] r1 s' by rw [b_ok k1]; rfl)]
  show ofOp (one f) [opd v1] r1 s' = _
  unfold ofOp
  rw [b_ok (show cts [opd v1] r1 s' = .ok [x] r1 s' by
    unfold cts
    rw [b_ok (ct_of (vl_cto l1 hm1 q1))]
    rfl)]
  show ofOpt (f x) r1 s' = _
  rw [q3]
  rfl
/-- the content is a sequence -/
def Sq (sh : Sh (List α)) (e : α → PyData) : Prop := (∀ xs, sh.cn xs = some (.d (.tuple (xs.map e)))) ∨ ∀ xs, sh.cn xs = some (.o (.lst (xs.map e)))
def IsT (sh : Sh (List α)) (e : α → PyData) : Prop := ∀ xs, sh.cn xs = some (.d (.tuple (xs.map e)))
def IsL (sh : Sh (List α)) (e : α → PyData) : Prop := ∀ xs, sh.cn xs = some (.o (.lst (xs.map e)))
/-- the content is data -/
def Dc (sh : Sh α) (e : α → PyData) : Prop := ∀ a, ∃ c, sh.cn a = some c ∧ c.data? = some (e a)
theorem dc_d {e : α → PyData} : Dc (.D (dW e)) e := fun a => by
  cases q : e a with
  | list xs => exact ⟨.o (.lst xs), by show ctW0 (.d (e a)) = _; rw [q]; rfl, rfl⟩
  | _ => exact ⟨.d (e a), by show ctW0 (.d (e a)) = _; rw [q]; rfl, by rw [q]; rfl⟩
theorem dc_f {e : α → PyData} : Dc (.F (oL e)) (eL e) := fun a => ⟨_, rfl, rfl⟩
theorem dc_p {i : Nat} {e : α → PyData} : Dc (.P i (oL e)) (eL e) := fun a => ⟨_, rfl, rfl⟩
variable {m m1 m2 m3 : M Rv} {Γ : En}
theorem te_add {t1 t2 : PM Int} (h1 : TE m1 Γ t1 (.D (dW eI))) (h2 : TE m2 Γ t2 (.D (dW eI))) : TE (gM (gBin .add) [m1, m2]) Γ (t1 >>= fun a => t2 >>= fun b => pure (a + b)) (.D (dW eI)) :=
  te_g2 (g2_of _) _ h1 h2 fun a b s c s' h => by obtain ⟨rfl, rfl⟩ := pm_pure h; exact ⟨rfl, _, _, _, rfl, rfl, rfl, rfl⟩
theorem te_sub {t1 t2 : PM Int} (h1 : TE m1 Γ t1 (.D (dW eI))) (h2 : TE m2 Γ t2 (.D (dW eI))) : TE (gM (gBin .sub) [m1, m2]) Γ (t1 >>= fun a => t2 >>= fun b => pure (a - b)) (.D (dW eI)) :=
  te_g2 (g2_of _) _ h1 h2 fun a b s c s' h => by obtain ⟨rfl, rfl⟩ := pm_pure h; exact ⟨rfl, _, _, _, rfl, rfl, rfl, rfl⟩
theorem te_mul {t1 t2 : PM Int} (h1 : TE m1 Γ t1 (.D (dW eI))) (h2 : TE m2 Γ t2 (.D (dW eI))) : TE (gM (gBin .mul) [m1, m2]) Γ (t1 >>= fun a => t2 >>= fun b => gd (cmul a b) (a * b)) (.D (dW eI)) :=
  te_g2 (g2_of _) _ h1 h2 fun a b s c s' h => by
    obtain ⟨q, rfl, rfl⟩ := pm_gd h
    refine ⟨rfl, _, _, ad (.int (a * b)), rfl, rfl, ?_, rfl⟩
    show (mulI a b).map _ = _
    unfold mulI
    rw [if_pos q]
    rfl
theorem te_mod {t1 t2 : PM Int} (h1 : TE m1 Γ t1 (.D (dW eI))) (h2 : TE m2 Γ t2 (.D (dW eI))) : TE (gM (gBin .mod) [m1, m2]) Γ (t1 >>= fun a => t2 >>= fun b => gd (decide (b ≠ 0)) (a.fmod b)) (.D (dW eI)) :=
  te_g2 (g2_of _) _ h1 h2 fun a b s c s' h => by
    obtain ⟨q, rfl, rfl⟩ := pm_gd h
    refine ⟨rfl, _, _, ad (.int (a.fmod b)), rfl, rfl, ?_, rfl⟩
    show (modI a b).map _ = _
    unfold modI
    rw [if_pos q]
    rfl
theorem te_fdiv {t1 t2 : PM Int} (h1 : TE m1 Γ t1 (.D (dW eI))) (h2 : TE m2 Γ t2 (.D (dW eI))) : TE (gM (gBin .fdiv) [m1, m2]) Γ (t1 >>= fun a => t2 >>= fun b => gd (decide (b ≠ 0 ∧ b.natAbs < 1073741824)) (a.fdiv b)) (.D (dW eI)) :=
  te_g2 (g2_of _) _ h1 h2 fun a b s c s' h => by
    obtain ⟨q, rfl, rfl⟩ := pm_gd h
    refine ⟨rfl, _, _, ad (.int (a.fdiv b)), rfl, rfl, ?_, rfl⟩
    show (fdivI a b).map _ = _
    unfold fdivI
    rw [if_pos q]
    rfl
theorem te_pow {t1 t2 : PM Int} (h1 : TE m1 Γ t1 (.D (dW eI))) (h2 : TE m2 Γ t2 (.D (dW eI))) : TE (gM (gBin .pow) [m1, m2]) Γ (t1 >>= fun a => t2 >>= fun b => gd (decide (0 ≤ b ∧ b ≤ 1000000 ∧ a.natAbs < 2 ^ 64)) (a ^ b.toNat)) (.D (dW eI)) :=
  te_g2 (g2_of _) _ h1 h2 fun a b s c s' h => by
    obtain ⟨q, rfl, rfl⟩ := pm_gd h
    refine ⟨rfl, _, _, ad (.int (a ^ b.toNat)), rfl, rfl, ?_, rfl⟩
    show (powI a b).map _ = _
    unfold powI
    rw [if_pos q]
    rfl
theorem te_addT {e : α → PyData} {sh1 sh2 : Sh (List α)} {t1 t2 : PM (List α)} (h1 : TE m1 Γ t1 sh1) (h2 : TE m2 Γ t2 sh2) (k1 : IsT sh1 e) (k2 : IsT sh2 e) : TE (gM (gBin .add) [m1, m2]) Γ (t1 >>= fun a => t2 >>= fun b => gd (size (a.length + b.length)) (a ++ b)) (.D (dW (eT e))) :=
  te_g2 (g2_of _) _ h1 h2 fun a b s c s' h => by
    obtain ⟨q, rfl, rfl⟩ := pm_gd h
    refine ⟨rfl, _, _, ad (.tuple (a.map e ++ b.map e)), k1 a, k2 b, ?_, by rw [← List.map_append]; rfl⟩
    show (if size ((a.map e).length + (b.map e).length) then some (ad (.tuple (a.map e ++ b.map e))) else none) = _
    rw [List.length_map, List.length_map, if_pos q]
theorem te_addL {e : α → PyData} {sh1 sh2 : Sh (List α)} {t1 t2 : PM (List α)} (h1 : TE m1 Γ t1 sh1) (h2 : TE m2 Γ t2 sh2) (k1 : IsL sh1 e) (k2 : IsL sh2 e) : TE (gM (gBin .add) [m1, m2]) Γ (t1 >>= fun a => t2 >>= fun b => gd (size (a.length + b.length)) (a ++ b)) (.F (oL e)) :=
  te_g2 (g2_of _) _ h1 h2 fun a b s c s' h => by
    obtain ⟨q, rfl, rfl⟩ := pm_gd h
    refine ⟨rfl, _, _, .fr (.lst (a.map e ++ b.map e)), k1 a, k2 b, ?_, by rw [← List.map_append]; rfl⟩
    show (if size ((a.map e).length + (b.map e).length) then some (Rv.fr (.lst (a.map e ++ b.map e))) else none) = _
    rw [List.length_map, List.length_map, if_pos q]
theorem te_addS {t1 t2 : PM Str} (h1 : TE m1 Γ t1 (.D (dW eS))) (h2 : TE m2 Γ t2 (.D (dW eS))) : TE (gM (gBin .add) [m1, m2]) Γ (t1 >>= fun a => t2 >>= fun b => gd (size (a.length + b.length)) (a ++ b)) (.D (dW eS)) :=
  te_g2 (g2_of _) _ h1 h2 fun a b s c s' h => by
    obtain ⟨q, rfl, rfl⟩ := pm_gd h
    refine ⟨rfl, _, _, ad (.str (a ++ b)), rfl, rfl, ?_, rfl⟩
    show (if size (a.length + b.length) then some (ad (.str (a ++ b))) else none) = _
    rw [if_pos q]
/-! comparisons -/
theorem te_cmp {o : CmpO} {e1 : α → PyData} {e2 : β → PyData} {sh1 : Sh α} {sh2 : Sh β} {t1 : PM α} {t2 : PM β} (f : α → β → Bool) (hf : ∀ x y c d, x.data? = some c → y.data? = some d → cmpC o x y = (cmpD o c d).map bl) (h1 : TE m1 Γ t1 sh1) (h2 : TE m2 Γ t2 sh2) (k1 : Dc sh1 e1) (k2 : Dc sh2 e2) (h : ∀ a b, cmpD o (e1 a) (e2 b) = some (f a b)) :
    TE (gM (gCmp o) [m1, m2]) Γ (t1 >>= fun a => t2 >>= fun b => pure (f a b)) (.D (dW eB)) :=
  te_g2 (g2_of _) _ h1 h2 fun a b s c s' q => by
    obtain ⟨rfl, rfl⟩ := pm_pure q
    obtain ⟨x, p1, p2⟩ := k1 a
    obtain ⟨y, p3, p4⟩ := k2 b
    exact ⟨rfl, x, y, bl (f a b), p1, p3, by rw [hf x y _ _ p2 p4, h]; rfl, rfl⟩
theorem cmpC_d (o : CmpO) (h : o ≠ .inn) (h' : o ≠ .nin) (x y : Ct) (c d : PyData) (p : x.data? = some c) (q : y.data? = some d) : cmpC o x y = (cmpD o c d).map bl := by
  have : cmpC o x y = x.data?.bind fun x => y.data?.bind fun y => (cmpD o x y).map bl := by
    cases o <;> first | rfl | exact absurd rfl h | exact absurd rfl h'
  rw [this, p, q]
  rfl
theorem te_eq [DecidableEq α] {e : α → PyData} {n : Nat} {sh1 sh2 : Sh α} {t1 t2 : PM α} (E : EqE e n) (hn : n ≤ 60) (h1 : TE m1 Γ t1 sh1) (h2 : TE m2 Γ t2 sh2) (k1 : Dc sh1 e) (k2 : Dc sh2 e) : TE (gM (gCmp .eq) [m1, m2]) Γ (t1 >>= fun a => t2 >>= fun b => pure (decide (a = b))) (.D (dW eB)) :=
  te_cmp (fun a b => decide (a = b)) (cmpC_d _ (by decide) (by decide)) h1 h2 k1 k2 fun a b => E.eqD hn a b
theorem te_ne [DecidableEq α] {e : α → PyData} {n : Nat} {sh1 sh2 : Sh α} {t1 t2 : PM α} (E : EqE e n) (hn : n ≤ 60) (h1 : TE m1 Γ t1 sh1) (h2 : TE m2 Γ t2 sh2) (k1 : Dc sh1 e) (k2 : Dc sh2 e) : TE (gM (gCmp .ne) [m1, m2]) Γ (t1 >>= fun a => t2 >>= fun b => pure (!decide (a = b))) (.D (dW eB)) :=
  te_cmp (fun a b => !decide (a = b)) (cmpC_d _ (by decide) (by decide)) h1 h2 k1 k2 fun a b => by show (eqD (e a) (e b)).map _ = _; rw [E.eqD hn a b]; rfl
theorem te_lt {e : α → PyData} {n : Nat} {sh1 sh2 : Sh α} {t1 t2 : PM α} (E : LtE e n) (hn : n ≤ 60) (h1 : TE m1 Γ t1 sh1) (h2 : TE m2 Γ t2 sh2) (k1 : Dc sh1 e) (k2 : Dc sh2 e) : TE (gM (gCmp .lt) [m1, m2]) Γ (t1 >>= fun a => t2 >>= fun b => pure (W.dataLt (e a) (e b))) (.D (dW eB)) :=
  te_cmp (fun a b => W.dataLt (e a) (e b)) (cmpC_d _ (by decide) (by decide)) h1 h2 k1 k2 fun a b => E.ltD hn a b
theorem lt_int (i j : Int) : W.dataLt (.int i) (.int j) = decide (i < j) := by
  show (decide (i < j) || (!decide (j < i) && false)) = _
  simp
theorem te_ltI {t1 t2 : PM Int} (h1 : TE m1 Γ t1 (.D (dW eI))) (h2 : TE m2 Γ t2 (.D (dW eI))) : TE (gM (gCmp .lt) [m1, m2]) Γ (t1 >>= fun a => t2 >>= fun b => pure (decide (a < b))) (.D (dW eB)) :=
  te_cmp (fun a b => decide (a < b)) (cmpC_d _ (by decide) (by decide)) h1 h2 dc_d dc_d fun a b => by show ltD (eI a) (eI b) = some (decide (a < b)); rw [lte_i.ltD (by decide), lt_int]
theorem te_leI {t1 t2 : PM Int} (h1 : TE m1 Γ t1 (.D (dW eI))) (h2 : TE m2 Γ t2 (.D (dW eI))) : TE (gM (gCmp .le) [m1, m2]) Γ (t1 >>= fun a => t2 >>= fun b => pure (decide (a ≤ b))) (.D (dW eB)) :=
  te_cmp (fun a b => decide (a ≤ b)) (cmpC_d _ (by decide) (by decide)) h1 h2 dc_d dc_d fun a b => rfl
theorem te_gtI {t1 t2 : PM Int} (h1 : TE m1 Γ t1 (.D (dW eI))) (h2 : TE m2 Γ t2 (.D (dW eI))) : TE (gM (gCmp .gt) [m1, m2]) Γ (t1 >>= fun a => t2 >>= fun b => pure (decide (b < a))) (.D (dW eB)) :=
  te_cmp (fun a b => decide (b < a)) (cmpC_d _ (by decide) (by decide)) h1 h2 dc_d dc_d fun a b => rfl
theorem te_geI {t1 t2 : PM Int} (h1 : TE m1 Γ t1 (.D (dW eI))) (h2 : TE m2 Γ t2 (.D (dW eI))) : TE (gM (gCmp .ge) [m1, m2]) Γ (t1 >>= fun a => t2 >>= fun b => pure (decide (b ≤ a))) (.D (dW eB)) :=
  te_cmp (fun a b => decide (b ≤ a)) (cmpC_d _ (by decide) (by decide)) h1 h2 dc_d dc_d fun a b => rfl
theorem te_isB {t1 t2 : PM Bool} (h1 : TE m1 Γ t1 (.D (dW eB))) (h2 : TE m2 Γ t2 (.D (dW eB))) : TE (gM (gCmp .isn) [m1, m2]) Γ (t1 >>= fun a => t2 >>= fun b => pure (decide (a = b))) (.D (dW eB)) :=
  te_cmp (fun a b => decide (a = b)) (cmpC_d _ (by decide) (by decide)) h1 h2 dc_d dc_d fun a b => rfl
theorem te_nisB {t1 t2 : PM Bool} (h1 : TE m1 Γ t1 (.D (dW eB))) (h2 : TE m2 Γ t2 (.D (dW eB))) : TE (gM (gCmp .nisn) [m1, m2]) Γ (t1 >>= fun a => t2 >>= fun b => pure (!decide (a = b))) (.D (dW eB)) :=
  te_cmp (fun a b => !decide (a = b)) (cmpC_d _ (by decide) (by decide)) h1 h2 dc_d dc_d fun a b => rfl
/-! in -/
theorem innC_eq [DecidableEq α] {e : α → PyData} {n : Nat} (E : EqE e n) (hn : n ≤ 60) {x : Ct} {a : α} {ys : List α} (hx : x.data? = some (e a)) : innC x (.d (.tuple (ys.map e))) = some (decide (a ∈ ys)) ∧ innC x (.o (.lst (ys.map e))) = some (decide (a ∈ ys)) := by
  have k : (if shp (e a) then some ((ys.map e).any fun z => PyData.eqv z (e a)) else none) = some (decide (a ∈ ys)) := by rw [if_pos (E.shp hn a), any_eq E]
  constructor
  · show x.data?.bind _ = _
    rw [hx]
    exact k
  · show x.data?.bind _ = _
    rw [hx]
    exact k
theorem te_in [DecidableEq α] {e : α → PyData} {n : Nat} {sh1 : Sh α} {sh2 : Sh (List α)} {t1 : PM α} {t2 : PM (List α)} (E : EqE e n) (hn : n ≤ 60) (h1 : TE m1 Γ t1 sh1) (h2 : TE m2 Γ t2 sh2) (k1 : Dc sh1 e) (k2 : Sq sh2 e) : TE (gM gIn [m1, m2]) Γ (t1 >>= fun a => t2 >>= fun b => pure (decide (a ∈ b))) (.D (dW eB)) :=
  te_g2 (g2_alt _ _) _ h1 h2 fun a b s c s' q => by
    obtain ⟨rfl, rfl⟩ := pm_pure q
    obtain ⟨x, p1, p2⟩ := k1 a
    rcases k2 with k2 | k2
    · exact ⟨rfl, x, _, bl (decide (a ∈ b)), p1, k2 b, by show ((innC x _).map bl).or _ = _; rw [(innC_eq E hn p2).1]; rfl, rfl⟩
    · exact ⟨rfl, x, _, bl (decide (a ∈ b)), p1, k2 b, by show ((innC x _).map bl).or _ = _; rw [(innC_eq E hn p2).2]; rfl, rfl⟩
theorem te_nin [DecidableEq α] {e : α → PyData} {n : Nat} {sh1 : Sh α} {sh2 : Sh (List α)} {t1 : PM α} {t2 : PM (List α)} (E : EqE e n) (hn : n ≤ 60) (h1 : TE m1 Γ t1 sh1) (h2 : TE m2 Γ t2 sh2) (k1 : Dc sh1 e) (k2 : Sq sh2 e) : TE (gM gNin [m1, m2]) Γ (t1 >>= fun a => t2 >>= fun b => pure (!decide (a ∈ b))) (.D (dW eB)) :=
  te_g2 (g2_alt _ _) _ h1 h2 fun a b s c s' q => by
    obtain ⟨rfl, rfl⟩ := pm_pure q
    obtain ⟨x, p1, p2⟩ := k1 a
    rcases k2 with k2 | k2
    · exact ⟨rfl, x, _, bl (!decide (a ∈ b)), p1, k2 b, by show ((innC x _).map _).or _ = _; rw [(innC_eq E hn p2).1]; rfl, rfl⟩
    · exact ⟨rfl, x, _, bl (!decide (a ∈ b)), p1, k2 b, by show ((innC x _).map _).or _ = _; rw [(innC_eq E hn p2).2]; rfl, rfl⟩
def inS (x y : Str) : Bool := !(Builtin.Str.occurrences y x 0 y.length 1).isEmpty
theorem te_inS {t1 t2 : PM Str} (h1 : TE m1 Γ t1 (.D (dW eS))) (h2 : TE m2 Γ t2 (.D (dW eS))) : TE (gM gIn [m1, m2]) Γ (t1 >>= fun a => t2 >>= fun b => pure (inS a b)) (.D (dW eB)) :=
  te_g2 (g2_alt _ _) _ h1 h2 fun a b s c s' q => by
    obtain ⟨rfl, rfl⟩ := pm_pure q
    exact ⟨rfl, _, _, bl (inS a b), rfl, rfl, rfl, rfl⟩
theorem te_ninS {t1 t2 : PM Str} (h1 : TE m1 Γ t1 (.D (dW eS))) (h2 : TE m2 Γ t2 (.D (dW eS))) : TE (gM gNin [m1, m2]) Γ (t1 >>= fun a => t2 >>= fun b => pure (!inS a b)) (.D (dW eB)) :=
  te_g2 (g2_alt _ _) _ h1 h2 fun a b s c s' q => by
    obtain ⟨rfl, rfl⟩ := pm_pure q
    exact ⟨rfl, _, _, bl (!inS a b), rfl, rfl, rfl, rfl⟩
/-! subscripts -/
theorem atI_map (f : α → β) (xs : List α) (i : Int) : L2.atI (xs.map f) i = (L2.atI xs i).map f := by
  unfold L2.atI
  rw [List.length_map]
  cases L2.ixN xs.length i with
  | none => rfl
  | some j => exact List.getElem?_map
theorem te_ix {e : α → PyData} {sh1 : Sh (List α)} {t1 : PM (List α)} {t2 : PM Int} (h1 : TE m1 Γ t1 sh1) (h2 : TE m2 Γ t2 (.D (dW eI))) (k1 : Sq sh1 e) : TE (gM gIx [m1, m2]) Γ (t1 >>= fun a => t2 >>= fun b => op (L2.atI a b)) (.D (dW e)) :=
  te_g2 (g2_alt _ _) _ h1 h2 fun a b s c s' q0 => by
    obtain ⟨q, rfl⟩ := pm_op q0
    rcases k1 with k1 | k1
    · exact ⟨rfl, _, _, ad (e c), k1 a, rfl, by show ((L2.atI (a.map e) b).map ad).or _ = _; rw [atI_map, q]; rfl, rfl⟩
    · exact ⟨rfl, _, _, ad (e c), k1 a, rfl, by show ((L2.atI (a.map e) b).map ad).or _ = _; rw [atI_map, q]; rfl, rfl⟩
/-- a dict's entry -/
def lk [DecidableEq κ] (m : List (κ × β)) (k : κ) : Option β := (m.find? fun p => decide (p.1 = k)).map (·.2)
/-- keys -/
structure KyE [DecidableEq κ] (e : κ → PyData) (f : κ → L2.Key) : Prop where
  k : ∀ a, keyK (e a) = some (f a)
  inj : ∀ a b, f a = f b → a = b
theorem kye_s : KyE eS Sum.inr := ⟨fun _ => rfl, fun a b h => by injection h⟩
theorem kye_i : KyE eI Sum.inl := ⟨fun _ => rfl, fun a b h => by injection h⟩
theorem valD_map [DecidableEq κ] {ek : κ → PyData} {f : κ → L2.Key} {ev : β → PyData} (K : KyE ek f) (k : κ) : ∀ m : List (κ × β), valD (m.map fun p => (ek p.1, ev p.2)) (f k) = (lk m k).map ev
  | [] => rfl
  | p :: m => by
    rw [List.map_cons]
    unfold valD lk
    rw [K.k]
    by_cases h : p.1 = k
    · rw [if_pos (by rw [h]), List.find?_cons_of_pos (by exact decide_eq_true h)]
      rfl
    · rw [if_neg (fun z => h (K.inj _ _ (Option.some.inj z))), List.find?_cons_of_neg (by rw [decide_eq_true_iff]; exact h)]
      exact valD_map K k m
theorem dc_key [DecidableEq κ] {ek : κ → PyData} {f : κ → L2.Key} {sh : Sh κ} (K : KyE ek f) (h : Dc sh ek) (k : κ) : ∃ c, sh.cn k = some c ∧ keyC c = some (f k) := by
  obtain ⟨c, h1, h2⟩ := h k
  exact ⟨c, h1, by unfold keyC; rw [h2]; exact K.k k⟩
def IsD (sh : Sh (List (κ × β))) (ek : κ → PyData) (ev : β → PyData) : Prop := ∀ m, sh.cn m = some (.o (oD ek ev m))
theorem ixC_dic (kvs : List (PyData × PyData)) (c : Ct) : ixC (.o (.dic kvs)) c = none := by
  cases c with
  | d x => cases x <;> rfl
  | _ => rfl
theorem te_dg [DecidableEq κ] {ek : κ → PyData} {f : κ → L2.Key} {ev : β → PyData} {sh1 : Sh (List (κ × β))} {sh2 : Sh κ} {t1 : PM (List (κ × β))} {t2 : PM κ} (K : KyE ek f) (h1 : TE m1 Γ t1 sh1) (h2 : TE m2 Γ t2 sh2) (k1 : IsD sh1 ek ev) (k2 : Dc sh2 ek) : TE (gM gIx [m1, m2]) Γ (t1 >>= fun a => t2 >>= fun b => op (lk a b)) (.D (dW ev)) :=
  te_g2 (g2_alt _ _) _ h1 h2 fun a b s c s' q0 => by
    obtain ⟨q, rfl⟩ := pm_op q0
    obtain ⟨y, p1, p2⟩ := dc_key K k2 b
    refine ⟨rfl, _, y, ad (ev c), k1 a, p1, ?_, rfl⟩
    show (ixC (.o (.dic _)) y).or ((keyC y).bind fun k => (valD (a.map fun p => (ek p.1, ev p.2)) k).map ad) = _
    rw [ixC_dic, p2]
    show (valD (a.map fun p => (ek p.1, ev p.2)) (f b)).map ad = _
    rw [valD_map K, q]
    rfl
theorem innC_dic (x : Ct) (kvs : List (PyData × PyData)) : innC x (.o (.dic kvs)) = none := by
  cases x with
  | d x => cases x <;> rfl
  | _ => rfl
theorem te_inD [DecidableEq κ] {ek : κ → PyData} {f : κ → L2.Key} {ev : β → PyData} {sh1 : Sh κ} {sh2 : Sh (List (κ × β))} {t1 : PM κ} {t2 : PM (List (κ × β))} (K : KyE ek f) (h1 : TE m1 Γ t1 sh1) (h2 : TE m2 Γ t2 sh2) (k1 : Dc sh1 ek) (k2 : IsD sh2 ek ev) : TE (gM gIn [m1, m2]) Γ (t1 >>= fun a => t2 >>= fun b => pure (lk b a).isSome) (.D (dW eB)) :=
  te_g2 (g2_alt _ _) _ h1 h2 fun a b s c s' q => by
    obtain ⟨rfl, rfl⟩ := pm_pure q
    obtain ⟨y, p1, p2⟩ := dc_key K k1 a
    refine ⟨rfl, y, _, bl (lk b a).isSome, p1, k2 b, ?_, rfl⟩
    show ((innC y (.o (oD ek ev b))).map bl).or ((keyC y).map fun k => bl (id (valD (b.map fun p => (ek p.1, ev p.2)) k).isSome)) = _
    rw [innC_dic, p2]
    show some (bl (valD (b.map fun p => (ek p.1, ev p.2)) (f a)).isSome) = _
    rw [valD_map K, Option.isSome_map]
theorem te_ninD [DecidableEq κ] {ek : κ → PyData} {f : κ → L2.Key} {ev : β → PyData} {sh1 : Sh κ} {sh2 : Sh (List (κ × β))} {t1 : PM κ} {t2 : PM (List (κ × β))} (K : KyE ek f) (h1 : TE m1 Γ t1 sh1) (h2 : TE m2 Γ t2 sh2) (k1 : Dc sh1 ek) (k2 : IsD sh2 ek ev) : TE (gM gNin [m1, m2]) Γ (t1 >>= fun a => t2 >>= fun b => pure (!(lk b a).isSome)) (.D (dW eB)) :=
  te_g2 (g2_alt _ _) _ h1 h2 fun a b s c s' q => by
    obtain ⟨rfl, rfl⟩ := pm_pure q
    obtain ⟨y, p1, p2⟩ := dc_key K k1 a
    refine ⟨rfl, y, _, bl (!(lk b a).isSome), p1, k2 b, ?_, rfl⟩
    show ((innC y (.o (oD ek ev b))).map fun k => bl (!k)).or ((keyC y).map fun k => bl (!(valD (b.map fun p => (ek p.1, ev p.2)) k).isSome)) = _
    rw [innC_dic, p2]
    show some (bl (!(valD (b.map fun p => (ek p.1, ev p.2)) (f a)).isSome)) = _
    rw [valD_map K, Option.isSome_map]
end
end Tz
set_option Elab.async false
set_option linter.all false
set_option maxRecDepth 100000
/-! T3: one-place operations, slices, tests, comprehensions, calls. -/
namespace Tz
open PySem Mi
section
variable {α β γ δ ε ζ ι κ τ τ' ρ l : Type} {m m1 m2 m3 : M Rv} {Γ : En}
theorem te_len {e : α → PyData} {sh : Sh (List α)} {t : PM (List α)} (h : TE m Γ t sh) (k : Sq sh e) : TE (gM (gOne lenC) [m]) Γ (t >>= fun a => pure ((a.length : Nat) : Int)) (.D (dW eI)) :=
  te_g1 _ h fun a s c s' q => by
    obtain ⟨rfl, rfl⟩ := pm_pure q
    rcases k with k | k
    · exact ⟨rfl, _, ad (.int ((a.map e).length : Nat)), k a, rfl, by rw [List.length_map]; rfl⟩
    · exact ⟨rfl, _, ad (.int ((a.map e).length : Nat)), k a, rfl, by rw [List.length_map]; rfl⟩
theorem te_lenS {t : PM Str} (h : TE m Γ t (.D (dW eS))) : TE (gM (gOne lenC) [m]) Γ (t >>= fun a => gd (size a.length) ((a.length : Nat) : Int)) (.D (dW eI)) :=
  te_g1 _ h fun a s c s' q0 => by
    obtain ⟨q, rfl, rfl⟩ := pm_gd q0
    refine ⟨rfl, _, ad (.int (a.length : Nat)), rfl, ?_, rfl⟩
    show (if size a.length then some (ad (.int (a.length : Nat))) else none) = _
    rw [if_pos q]
theorem te_lenD {ek : κ → PyData} {ev : β → PyData} {sh : Sh (List (κ × β))} {t : PM (List (κ × β))} (h : TE m Γ t sh) (k : IsD sh ek ev) : TE (gM (gOne lenC) [m]) Γ (t >>= fun a => pure ((a.length : Nat) : Int)) (.D (dW eI)) :=
  te_g1 _ h fun a s c s' q => by
    obtain ⟨rfl, rfl⟩ := pm_pure q
    exact ⟨rfl, _, ad (.int ((a.map fun p => (ek p.1, ev p.2)).length : Nat)), k a, rfl, by rw [List.length_map]; rfl⟩
/-- the length of something of a fixed length -/
theorem te_lenK {sh : Sh α} {t : PM α} (n : Nat) (h : TE m Γ t sh) (k : ∀ a, ∃ ds, sh.cn a = some (.d (.tuple ds)) ∧ ds.length = n) : TE (gM (gOne lenC) [m]) Γ (t >>= fun a => pure (n : Int)) (.D (dW eI)) :=
  te_g1 (fun _ => pure (n : Int)) h fun a s c s' q => by
    obtain ⟨rfl, rfl⟩ := pm_pure q
    obtain ⟨ds, k1, k2⟩ := k a
    exact ⟨rfl, _, ad (.int (ds.length : Nat)), k1, rfl, by rw [k2]; rfl⟩
theorem te_tupQ {e : α → PyData} {sh : Sh (List α)} {t : PM (List α)} (h : TE m Γ t sh) (k : Sq sh e) : TE (gM (gOne tupC) [m]) Γ t (.D (dW (eT e))) := by
  have := te_g1 (f := tupC) (sh := .D (dW (eT e))) (fun a => pure a) h fun a s c s' q => by
    obtain ⟨rfl, rfl⟩ := pm_pure q
    rcases k with k | k
    · exact ⟨rfl, _, ad (.tuple (c.map e)), k c, rfl, rfl⟩
    · exact ⟨rfl, _, ad (.tuple (c.map e)), k c, rfl, rfl⟩
  rw [bind_pure] at this
  exact this
theorem te_lstQ {e : α → PyData} {sh : Sh (List α)} {t : PM (List α)} (h : TE m Γ t sh) (k : Sq sh e) : TE (gM (gOne lstC) [m]) Γ t (.F (oL e)) := by
  have := te_g1 (f := lstC) (sh := .F (oL e)) (fun a => pure a) h fun a s c s' q => by
    obtain ⟨rfl, rfl⟩ := pm_pure q
    rcases k with k | k
    · exact ⟨rfl, _, .fr (.lst (c.map e)), k c, rfl, rfl⟩
    · exact ⟨rfl, _, .fr (.lst (c.map e)), k c, rfl, rfl⟩
  rw [bind_pure] at this
  exact this
theorem te_srt {e : α → PyData} {n : Nat} {sh : Sh (List α)} {t : PM (List α)} (E : LtE e n) (hn : n ≤ 60) (ht : (∀ a, isTup (e a) = true) ∨ ∀ a, nonNT (e a) = true) (h : TE m Γ t sh) (k : Sq sh e) : TE (gM (gOne srtC) [m]) Γ (t >>= fun a => gd (size a.length) (sr e a)) (.F (oL e)) :=
  te_g1 _ h fun a s c s' q0 => by
    obtain ⟨q, rfl, rfl⟩ := pm_gd q0
    have z := E.srtOk hn ht (xs := a) (of_decide_eq_true q)
    rcases k with k | k
    · exact ⟨rfl, _, .fr (.lst (srt (a.map e))), k a, if_pos z, by rw [srt_map]; rfl⟩
    · exact ⟨rfl, _, .fr (.lst (srt (a.map e))), k a, if_pos z, by rw [srt_map]; rfl⟩
theorem sq_seq {e : α → PyData} {sh : Sh (List α)} (k : Sq sh e) (a : List α) : ∃ c, sh.cn a = some c ∧ seq? c = some (a.map e) := by
  rcases k with k | k
  · exact ⟨_, k a, rfl⟩
  · exact ⟨_, k a, rfl⟩
theorem te_srtSetS {sh : Sh (List Str)} {t : PM (List Str)} (h : TE m Γ t sh) (k : Sq sh eS) : TE (gM (gOne srtSetC) [m]) Γ (t >>= fun a => gd (decide (a.length ≤ 4000)) (sr eS (dd a))) (.F (oL eS)) :=
  te_g1 _ h fun a s c s' q0 => by
    obtain ⟨q, rfl, rfl⟩ := pm_gd q0
    have hz := of_decide_eq_true q
    obtain ⟨x, k1, k2⟩ := sq_seq k a
    refine ⟨rfl, x, .fr (.lst (srt (sD (dd a)))), k1, ?_, by rw [srt_map]; rfl⟩
    show (seq? x).bind _ = _
    rw [k2]
    show (setDs (sD a)).bind _ = _
    rw [setDs_s hz]
    show (if srtOk (sD (dd a)) && stO (srt (sD (dd a))) then some (Rv.fr (.lst (srt (sD (dd a))))) else none) = _
    rw [if_pos]
    rw [srtOk_s (by have := dd_len a; rw [PySem.sizeLine_eq]; omega), stO_srt (nodup_s (nodup_dd a)) (tkInj_s _)]
    rfl
theorem te_lenSetS {sh : Sh (List Str)} {t : PM (List Str)} (h : TE m Γ t sh) (k : Sq sh eS) : TE (gM (gOne lenSetC) [m]) Γ (t >>= fun a => gd (decide (a.length ≤ 4000)) (((dd a).length : Nat) : Int)) (.D (dW eI)) :=
  te_g1 _ h fun a s c s' q0 => by
    obtain ⟨q, rfl, rfl⟩ := pm_gd q0
    have hz := of_decide_eq_true q
    obtain ⟨x, k1, k2⟩ := sq_seq k a
    refine ⟨rfl, x, ad (.int ((sD (dd a)).length : Nat)), k1, ?_, by rw [List.length_map]; rfl⟩
    show (seq? x).bind _ = _
    rw [k2]
    show (setDs (sD a)).bind _ = _
    rw [setDs_s hz]
    rfl
/-! sets of tuples of texts -/
theorem allP_strP_t : ∀ (x : List Str) (xs : List (List Str)), allP strP ((x :: xs).map (eT eS)) = none
  | x, xs => by
    rw [List.map_cons]
    unfold allP
    rfl
theorem allK_s : ∀ xs : List Str, allP keyK (sD xs) = some (xs.map Sum.inr)
  | [] => rfl
  | x :: xs => by
    show allP keyK (.str x :: sD xs) = _
    unfold allP
    rw [allK_s xs]
    rfl
theorem allP_t : ∀ xs : List (List Str), allP tkP (xs.map (eT eS)) = some (xs.map fun x => x.map Sum.inr)
  | [] => rfl
  | x :: xs => by
    rw [List.map_cons]
    unfold allP
    rw [allP_t xs, show tkP (eT eS x) = some (x.map Sum.inr) from allK_s x]
    rfl
theorem dd_map [DecidableEq α] [DecidableEq β] {f : α → β} (hf : ∀ a b, f a = f b → a = b) : ∀ xs : List α, dd (xs.map f) = (dd xs).map f
  | [] => rfl
  | x :: xs => by
    rw [List.map_cons]
    unfold dd
    rw [dd_map hf xs]
    by_cases h : x ∈ xs
    · rw [if_pos h, if_pos (List.mem_map.mpr ⟨x, h, rfl⟩)]
    · rw [if_neg h, if_neg, List.map_cons]
      intro z
      obtain ⟨y, h1, h2⟩ := List.mem_map.mp z
      exact h (hf _ _ h2 ▸ h1)
theorem inr_inj : ∀ a b : List Str, a.map (Sum.inr : Str → L2.Key) = b.map Sum.inr → a = b
  | [], [], _ => rfl
  | [], _ :: _, h => by cases h
  | _ :: _, [], h => by cases h
  | x :: a, y :: b, h => by
    rw [List.map_cons, List.map_cons] at h
    injection h with h1 h2
    injection h1 with h1
    rw [h1, inr_inj a b h2]
theorem tkD_s (x : List Str) : tkD (x.map Sum.inr) = eT eS x := by
  unfold tkD
  rw [List.map_map]
  rfl
theorem setDs_t {xs : List (List Str)} (h : xs.length ≤ 4) : setDs (xs.map (eT eS)) = some ((dd xs).map (eT eS)) := by
  cases xs with
  | nil => rfl
  | cons x xs =>
    unfold setDs
    rw [allP_strP_t]
    show (match allP tkP ((x :: xs).map (eT eS)) with
      | some ks => if ks.length ≤ 4 then some ((dd ks).map tkD) else none
      | none => none) = _
    rw [allP_t]
    show (if ((x :: xs).map fun (x : List Str) => x.map (Sum.inr : Str → L2.Key)).length ≤ 4 then some ((dd ((x :: xs).map fun (x : List Str) => x.map (Sum.inr : Str → L2.Key))).map tkD) else none) = _
    rw [List.length_map, if_pos h, dd_map (f := fun x : List Str => x.map (Sum.inr : Str → L2.Key)) inr_inj, List.map_map]
    congr 2
    funext x
    exact tkD_s x
theorem ka_s : ∀ xs ys : List Str, W.keyToksAll (sD xs) = W.keyToksAll (sD ys) → xs = ys
  | [], [], _ => rfl
  | [], y :: ys, h => by
    simp only [sD, List.map_nil, List.map_cons, W.keyToksAll] at h
    injection h with h1 h2
    injection h1 with h1
    cases h1
  | x :: xs, [], h => by
    simp only [sD, List.map_nil, List.map_cons, W.keyToksAll] at h
    injection h with h1 h2
    injection h1 with h1
    cases h1
  | x :: xs, y :: ys, h => by
    simp only [sD, List.map_cons, W.keyToksAll, W.keyToks] at h
    injection h with h1 h2
    rw [List.singleton_append, List.singleton_append] at h2
    injection h2 with h3 h4
    injection h3 with h3
    rw [W.str_of_cps h3, ka_s xs ys h4]
theorem tkInj_t (xs : List (List Str)) : TkInj (xs.map (eT eS)) := by
  intro a ha b hb h
  obtain ⟨x, _, rfl⟩ := List.mem_map.mp ha
  obtain ⟨y, _, rfl⟩ := List.mem_map.mp hb
  have h' : W.keyToks (.tuple (sD x)) = W.keyToks (.tuple (sD y)) := h
  rw [W.keyToks, W.keyToks] at h'
  rw [ka_s x y h']
theorem nodup_t {xs : List (List Str)} (h : xs.Nodup) : (xs.map (eT eS)).Nodup := List.pairwise_map.mpr (h.imp fun {a b} h e => h (by
  have e' : PyData.tuple (sD a) = PyData.tuple (sD b) := e
  injection e' with e'
  exact List.map_inj_right (fun x y z => by injection z) |>.mp e'))
theorem te_srtSetT {sh : Sh (List (List Str))} {t : PM (List (List Str))} (h : TE m Γ t sh) (k : Sq sh (eT eS)) : TE (gM (gOne srtSetC) [m]) Γ (t >>= fun a => gd (decide (a.length ≤ 4)) (sr (eT eS) (dd a))) (.F (oL (eT eS))) :=
  te_g1 _ h fun a s c s' q0 => by
    obtain ⟨q, rfl, rfl⟩ := pm_gd q0
    have hz := of_decide_eq_true q
    obtain ⟨x, k1, k2⟩ := sq_seq k a
    refine ⟨rfl, x, .fr (.lst (srt ((dd a).map (eT eS)))), k1, ?_, by rw [srt_map]; rfl⟩
    show (seq? x).bind _ = _
    rw [k2]
    show (setDs (a.map (eT eS))).bind _ = _
    rw [setDs_t hz]
    show (if srtOk ((dd a).map (eT eS)) && stO (srt ((dd a).map (eT eS))) then some (Rv.fr (.lst (srt ((dd a).map (eT eS))))) else none) = _
    rw [if_pos]
    rw [lte_s.tup.srtOk (by decide) (.inl fun _ => rfl) (by have := dd_len a; rw [PySem.sizeLine_eq]; omega), stO_srt (nodup_t (nodup_dd a)) (tkInj_t _)]
    rfl
theorem bools_map : ∀ bs : List Bool, bools? (bs.map PyData.bool) = some bs
  | [] => rfl
  | b :: bs => by
    show bools? (.bool b :: bs.map PyData.bool) = _
    unfold bools?
    rw [bools_map bs]
    rfl
theorem te_qun {f : List Bool → Bool} {sh : Sh (List Bool)} {t : PM (List Bool)} (h : TE m Γ t sh) (k : IsL sh eB) : TE (gM (gOne (qunC f)) [m]) Γ (t >>= fun a => pure (f a)) (.D (dW eB)) :=
  te_g1 _ h fun a s c s' q => by
    obtain ⟨rfl, rfl⟩ := pm_pure q
    refine ⟨rfl, _, bl (f a), k a, ?_, rfl⟩
    show (bools? (a.map eB)).map _ = _
    rw [bools_map]
    rfl
theorem te_intB {t : PM Bool} (h : TE m Γ t (.D (dW eB))) : TE (gM (gOne intTC) [m]) Γ (t >>= fun a => pure (if a = true then (1 : Int) else 0)) (.D (dW eI)) :=
  te_g1 _ h fun a s c s' q => by
    obtain ⟨rfl, rfl⟩ := pm_pure q
    exact ⟨rfl, _, ad (.int (if a then 1 else 0)), rfl, rfl, by cases a <;> rfl⟩
theorem te_isi {T : String} {sh : Sh α} {t : PM α} (b : Bool) (h : TE m Γ t sh) (k : ∀ a, ∃ c, sh.cn a = some c ∧ isiC T c = some (bl b)) : TE (isiM T m) Γ (t >>= fun _ => pure b) (.D (dW eB)) := fun r s q s' hm ht => by
  obtain ⟨a, s1, e1, ht⟩ := pm_bind ht
  obtain ⟨rfl, rfl⟩ := pm_pure ht
  obtain ⟨v1, r1, k1, hm1, l1⟩ := h r s a s' hm e1
  obtain ⟨c, q1, q2⟩ := k a
  refine ⟨_, r1, ?_, hm1, rfl⟩
  unfold isiM
  rw [b_ok k1, b_ok (ct_of (vl_cto l1 hm1 q1)), q2]
  rfl
theorem te_neg {t : PM Int} (h : TE m Γ t (.D (dW eI))) : TE (negM m) Γ (t >>= fun a => pure (-a)) (.D (dW eI)) := fun r s q s' hm ht => by
  obtain ⟨a, s1, e1, ht⟩ := pm_bind ht
  obtain ⟨rfl, rfl⟩ := pm_pure ht
  obtain ⟨v1, r1, k1, hm1, l1⟩ := h r s a s' hm e1
  refine ⟨_, r1, ?_, hm1, rfl⟩
  unfold negM
  cases l1
  rw [b_ok k1]
  rfl
/-! slices -/
def TO (lo : Option (M Rv)) (Γ : En) (t : PM (Option Int)) : Prop := ∀ r s a s', Mt Γ r → t s = some (a, s') → ∃ r', prM lo r s = .ok a r' s' ∧ Mt Γ r'
theorem to_n : TO none Γ (pure none) := fun r s a s' hm ht => by
  obtain ⟨rfl, rfl⟩ := pm_pure ht
  exact ⟨r, rfl, hm⟩
theorem to_s {t : PM Int} (h : TE m Γ t (.D (dW eI))) : TO (some m) Γ (t >>= fun i => pure (some i)) := fun r s q s' hm ht => by
  obtain ⟨a, s1, e1, ht⟩ := pm_bind ht
  obtain ⟨rfl, rfl⟩ := pm_pure ht
  obtain ⟨v1, r1, k1, hm1, l1⟩ := h r s a s' hm e1
  refine ⟨r1, ?_, hm1⟩
  cases l1
  show M.bind m _ r s = _
  rw [b_ok k1]
  rfl
theorem cut_map (f : α → β) (xs : List α) (lo hi : Option Int) : cutD (xs.map f) lo hi = (cutD xs lo hi).map f := by
  unfold cutD
  rw [List.length_map, List.map_take, List.map_drop]
theorem te_sl {sh : Sh α} {sh' : Sh β} {lo hi : Option (M Rv)} {t : PM α} {tl th : PM (Option Int)} (f : α → Option Int → Option Int → PM β) (h : TE m Γ t sh) (h1 : TO lo Γ tl) (h2 : TO hi Γ th)
    (k : ∀ a x y s b s', f a x y s = some (b, s') → s' = s ∧ ∃ c v, sh.cn a = some c ∧ slC c x y = some v ∧ Vl [] sh' b v) : TE (slM m lo hi) Γ (t >>= fun a => tl >>= fun x => th >>= fun y => f a x y) sh' := fun r s q s' hm ht => by
  obtain ⟨a, s1, e1, ht⟩ := pm_bind ht
  obtain ⟨x, s2, e2, ht⟩ := pm_bind ht
  obtain ⟨y, s3, e3, ht⟩ := pm_bind ht
  obtain ⟨v1, r1, k1, hm1, l1⟩ := h r s a s1 hm e1
  obtain ⟨r2, k2, hm2⟩ := h1 r1 s1 x s2 hm1 e2
  obtain ⟨r3, k3, hm3⟩ := h2 r2 s2 y s3 hm2 e3
  obtain ⟨rfl, c, v, q1, q2, q3⟩ := k a x y s3 q s' ht
  refine ⟨v, r3, ?_, hm3, vl_up q3⟩
  unfold slM
  rw [b_ok k1, b_ok k2, b_ok k3, b_ok (ct_of (vl_cto l1 hm3 q1)), q2]
  rfl
theorem te_slT {e : α → PyData} {sh : Sh (List α)} {lo hi : Option (M Rv)} {t : PM (List α)} {tl th : PM (Option Int)} (h : TE m Γ t sh) (h1 : TO lo Γ tl) (h2 : TO hi Γ th) (k : IsT sh e) : TE (slM m lo hi) Γ (t >>= fun a => tl >>= fun x => th >>= fun y => pure (cutD a x y)) (.D (dW (eT e))) :=
  te_sl _ h h1 h2 fun a x y s b s' q => by
    obtain ⟨rfl, rfl⟩ := pm_pure q
    exact ⟨rfl, _, ad (.tuple (cutD (a.map e) x y)), k a, rfl, by rw [cut_map]; rfl⟩
theorem te_slL {e : α → PyData} {sh : Sh (List α)} {lo hi : Option (M Rv)} {t : PM (List α)} {tl th : PM (Option Int)} (h : TE m Γ t sh) (h1 : TO lo Γ tl) (h2 : TO hi Γ th) (k : IsL sh e) : TE (slM m lo hi) Γ (t >>= fun a => tl >>= fun x => th >>= fun y => pure (cutD a x y)) (.F (oL e)) :=
  te_sl _ h h1 h2 fun a x y s b s' q => by
    obtain ⟨rfl, rfl⟩ := pm_pure q
    exact ⟨rfl, _, .fr (.lst (cutD (a.map e) x y)), k a, rfl, by rw [cut_map]; rfl⟩
theorem te_slR {sh : Sh (List α)} {e : α → PyData} {lo hi : Option (M Rv)} {t : PM (List α)} {tl th : PM (Option Int)} (h : TE m Γ t sh) (h1 : TO lo Γ tl) (h2 : TO hi Γ th) (k : ∀ a, sh.cn a = some (.s (a.map e))) : TE (slM m lo hi) Γ (t >>= fun a => tl >>= fun x => th >>= fun y => pure (cutD a x y)) (.F (oL e)) :=
  te_sl _ h h1 h2 fun a x y s b s' q => by
    obtain ⟨rfl, rfl⟩ := pm_pure q
    exact ⟨rfl, _, .fr (.lst (cutD (a.map e) x y)), k a, rfl, by rw [cut_map]; rfl⟩
/-! tests -/
theorem tt_tru {sh : Sh α} {t : PM α} (g : α → Bool) (h : TE m Γ t sh) (k : ∀ a, ∃ c, sh.cn a = some c ∧ truthC c = some (g a)) : TT (truM m) Γ (t >>= fun a => pure (g a)) := fun r s q s' hm ht => by
  obtain ⟨a, s1, e1, ht⟩ := pm_bind ht
  obtain ⟨rfl, rfl⟩ := pm_pure ht
  obtain ⟨v1, r1, k1, hm1, l1⟩ := h r s a s' hm e1
  obtain ⟨c, q1, q2⟩ := k a
  refine ⟨r1, ?_, hm1⟩
  unfold truM
  rw [b_ok k1, b_ok (ct_of (vl_ct l1 hm1 q1)), q2]
  rfl
theorem tt_b {t : PM Bool} (h : TE m Γ t (.D (dW eB))) : TT (truM m) Γ t := by
  have := tt_tru (fun a => a) h fun a => ⟨_, rfl, rfl⟩
  rw [bind_pure] at this
  exact this
def bAnd (a b : PM Bool) : PM Bool := a >>= fun k => if k = true then b else pure false
def bOr (a b : PM Bool) : PM Bool := a >>= fun k => if k = true then pure true else b
def bNot (a : PM Bool) : PM Bool := a >>= fun k => pure (!k)
def pIf (c : PM Bool) (a b : PM α) : PM α := c >>= fun k => if k = true then a else b
theorem bAnd_p (a b : Bool) : bAnd (pure a) (pure b) = pure (a && b) := by cases a <;> rfl
theorem bOr_p (a b : Bool) : bOr (pure a) (pure b) = pure (a || b) := by cases a <;> rfl
theorem bNot_p (a : Bool) : bNot (pure a) = pure (!a) := Eq.trans rfl rfl
theorem pIf_p (c : Bool) (a b : PM α) : pIf (pure c) a b = if c = true then a else b := Eq.trans rfl rfl
theorem bAnd_pl (a : Bool) (b : PM Bool) : bAnd (pure a) b = if a = true then b else pure false := Eq.trans rfl rfl
theorem bOr_pl (a : Bool) (b : PM Bool) : bOr (pure a) b = if a = true then pure true else b := Eq.trans rfl rfl
variable {c1 c2 : M Bool} {u1 u2 : PM Bool}
theorem tt_and (h1 : TT c1 Γ u1) (h2 : TT c2 Γ u2) : TT (andB c1 c2) Γ (bAnd u1 u2) := fun r s q s' hm ht => by
  obtain ⟨k, s1, e1, ht⟩ := pm_bind ht
  obtain ⟨r1, k1, hm1⟩ := h1 r s k s1 hm e1
  unfold andB
  rw [b_ok k1]
  cases k with
  | true => exact h2 r1 s1 q s' hm1 ht
  | false =>
    obtain ⟨rfl, rfl⟩ := pm_pure ht
    exact ⟨r1, rfl, hm1⟩
theorem tt_or (h1 : TT c1 Γ u1) (h2 : TT c2 Γ u2) : TT (orB c1 c2) Γ (bOr u1 u2) := fun r s q s' hm ht => by
  obtain ⟨k, s1, e1, ht⟩ := pm_bind ht
  obtain ⟨r1, k1, hm1⟩ := h1 r s k s1 hm e1
  unfold orB
  rw [b_ok k1]
  cases k with
  | false => exact h2 r1 s1 q s' hm1 ht
  | true =>
    obtain ⟨rfl, rfl⟩ := pm_pure ht
    exact ⟨r1, rfl, hm1⟩
theorem tt_not (h1 : TT c1 Γ u1) : TT (notB c1) Γ (bNot u1) := fun r s q s' hm ht => by
  obtain ⟨k, s1, e1, ht⟩ := pm_bind ht
  obtain ⟨r1, k1, hm1⟩ := h1 r s k s1 hm e1
  obtain ⟨rfl, rfl⟩ := pm_pure ht
  unfold notB
  rw [b_ok k1]
  exact ⟨r1, rfl, hm1⟩
theorem tt_true : TT (M.pure true) Γ (pure true) := fun r s q s' hm ht => by
  obtain ⟨rfl, rfl⟩ := pm_pure ht
  exact ⟨r, rfl, hm⟩
theorem te_not (h1 : TT (truM m) Γ u1) : TE (Mi.notM m) Γ (bNot u1) (.D (dW eB)) := fun r s q s' hm ht => by
  obtain ⟨k, s1, e1, ht⟩ := pm_bind ht
  obtain ⟨r1, k1, hm1⟩ := h1 r s k s1 hm e1
  obtain ⟨rfl, rfl⟩ := pm_pure ht
  refine ⟨_, r1, ?_, hm1, rfl⟩
  unfold Mi.notM
  rw [b_ok k1]
  rfl
theorem te_andB {t1 t2 : PM Bool} (h1 : TE m1 Γ t1 (.D (dW eB))) (h2 : TE m2 Γ t2 (.D (dW eB))) : TE (Mi.andM m1 m2) Γ (bAnd t1 t2) (.D (dW eB)) := fun r s q s' hm ht => by
  obtain ⟨k, s1, e1, ht⟩ := pm_bind ht
  obtain ⟨v1, r1, k1, hm1, l1⟩ := h1 r s k s1 hm e1
  cases l1
  unfold Mi.andM
  rw [b_ok k1, b_ok (show M.bind (ct (.w (.d (.bool k)))) (fun c => ofOpt (truthC c)) r1 s1 = .ok k r1 s1 from rfl)]
  cases k with
  | true => exact h2 r1 s1 q s' hm1 ht
  | false =>
    obtain ⟨rfl, rfl⟩ := pm_pure ht
    exact ⟨_, r1, rfl, hm1, rfl⟩
theorem te_orB {t1 t2 : PM Bool} (h1 : TE m1 Γ t1 (.D (dW eB))) (h2 : TE m2 Γ t2 (.D (dW eB))) : TE (Mi.orM m1 m2) Γ (bOr t1 t2) (.D (dW eB)) := fun r s q s' hm ht => by
  obtain ⟨k, s1, e1, ht⟩ := pm_bind ht
  obtain ⟨v1, r1, k1, hm1, l1⟩ := h1 r s k s1 hm e1
  cases l1
  unfold Mi.orM
  rw [b_ok k1, b_ok (show M.bind (ct (.w (.d (.bool k)))) (fun c => ofOpt (truthC c)) r1 s1 = .ok k r1 s1 from rfl)]
  cases k with
  | false => exact h2 r1 s1 q s' hm1 ht
  | true =>
    obtain ⟨rfl, rfl⟩ := pm_pure ht
    exact ⟨_, r1, rfl, hm1, rfl⟩
theorem te_if {sh : Sh α} {t1 t2 : PM α} (h : TT c1 Γ u1) (h1 : TE m1 Γ t1 sh) (h2 : TE m2 Γ t2 sh) : TE (ifM c1 m1 m2) Γ (pIf u1 t1 t2) sh := fun r s q s' hm ht => by
  obtain ⟨k, s1, e1, ht⟩ := pm_bind ht
  obtain ⟨r1, k1, hm1⟩ := h r s k s1 hm e1
  unfold ifM
  rw [b_ok k1]
  cases k with
  | true => exact h1 r1 s1 q s' hm1 ht
  | false => exact h2 r1 s1 q s' hm1 ht
/-- of integers -/
def cmI : CmpO → Int → Int → Bool
  | .eq, a, b => decide (a = b)
  | .ne, a, b => !decide (a = b)
  | .lt, a, b => decide (a < b)
  | .le, a, b => decide (a ≤ b)
  | .gt, a, b => decide (b < a)
  | .ge, a, b => decide (b ≤ a)
  | _, _, _ => false
def isI : CmpO → Bool
  | .eq => true
  | .ne => true
  | .lt => true
  | .le => true
  | .gt => true
  | .ge => true
  | _ => false
theorem cmC_I (o : CmpO) (h : isI o = true) (a b : Int) : cmpC o (.d (.int a)) (.d (.int b)) = some (bl (cmI o a b)) := by
  cases o with
  | eq => show (eqD (eI a) (eI b)).map bl = _; rw [eqe_i.eqD (by decide)]; rfl
  | ne => show ((eqD (eI a) (eI b)).map _).map bl = _; rw [eqe_i.eqD (by decide)]; rfl
  | lt => show (ltD (eI a) (eI b)).map bl = _; rw [lte_i.ltD (by decide), lt_int]; rfl
  | le => rfl
  | gt => rfl
  | ge => rfl
  | _ => cases h
theorem te_chI {o o' : CmpO} {t1 t2 t3 : PM Int} (ho : isI o = true) (ho' : isI o' = true) (h1 : TE m1 Γ t1 (.D (dW eI))) (h2 : TE m2 Γ t2 (.D (dW eI))) (h3 : TE m3 Γ t3 (.D (dW eI))) :
    TE (chM o o' m1 m2 m3) Γ (t1 >>= fun a => t2 >>= fun b => if cmI o a b = true then t3 >>= fun c => pure (cmI o' b c) else pure false) (.D (dW eB)) := fun r s q s' hm ht => by
  obtain ⟨a, s1, e1, ht⟩ := pm_bind ht
  obtain ⟨b, s2, e2, ht⟩ := pm_bind ht
  obtain ⟨v1, r1, k1, hm1, l1⟩ := h1 r s a s1 hm e1
  obtain ⟨v2, r2, k2, hm2, l2⟩ := h2 r1 s1 b s2 hm1 e2
  cases l1
  cases l2
  have g : ∀ (o : CmpO) (i j : Int) (r : Rho) (s : Sto), isI o = true → gCmp o [opd (.w (.d (.int i))), opd (.w (.d (.int j)))] r s = .ok (bl (cmI o i j)) r s := fun o i j r s h => by
    show ofOpt (cmpC o (.d (.int i)) (.d (.int j))) r s = _
    rw [cmC_I o h]
    rfl
  unfold chM
  rw [b_ok k1, b_ok k2, b_ok (g o a b r2 s2 ho), b_ok (show M.bind (ct (bl (cmI o a b))) (fun c => ofOpt (truthC c)) r2 s2 = .ok (cmI o a b) r2 s2 from rfl)]
  by_cases z : cmI o a b = true
  · rw [if_pos z] at ht ⊢
    obtain ⟨c, s3, e3, ht⟩ := pm_bind ht
    obtain ⟨rfl, rfl⟩ := pm_pure ht
    obtain ⟨v3, r3, k3, hm3, l3⟩ := h3 r2 s2 c s' hm2 e3
    cases l3
    rw [b_ok k3, g o' b c r3 s' ho']
    exact ⟨_, r3, rfl, hm3, rfl⟩
  · rw [if_neg z] at ht ⊢
    obtain ⟨rfl, rfl⟩ := pm_pure ht
    exact ⟨_, r2, rfl, hm2, rfl⟩
/-! walks -/
theorem wkV_d {v : Rv} {d : PyData} {ds : List PyData} {r : Rho} {s : Sto} (h : opd v = ad d) (e : seqL d = some ds) : wkV v r s = .ok ds r s := by
  unfold wkV
  rw [h]
  cases d with
  | list xs => cases e; rfl
  | tuple xs => cases e; rfl
  | _ => cases e
theorem ti_wk {w : List ι → Wv} {e : ι → PyData} {t : PM (List ι)} (h : T1 m Γ t w) (k : ∀ xs, ∃ d, w xs = .d d ∧ seqL d = some (xs.map e)) : TI (wkM m) Γ t e := fun r s q s' hm ht => by
  obtain ⟨v1, r1, k1, hm1, l1⟩ := h r s q s' hm ht
  obtain ⟨d, q1, q2⟩ := k q
  refine ⟨r1, ?_, hm1⟩
  unfold wkM
  rw [b_ok k1, wkV_d (by rw [l1, q1]; rfl) q2]
/-- a text's signs -/
def chs (x : Str) : List Str := x.cps.toList.map fun c => (⟨#[c]⟩ : Str)
theorem ti_wkS {t : PM Str} (h : TE m Γ t (.D (dW eS))) : TI (wkM m) Γ (t >>= fun x => pure (chs x)) eS := fun r s q s' hm ht => by
  obtain ⟨a, s1, e1, ht⟩ := pm_bind ht
  obtain ⟨rfl, rfl⟩ := pm_pure ht
  obtain ⟨v1, r1, k1, hm1, l1⟩ := h r s a s' hm e1
  cases l1
  refine ⟨r1, ?_, hm1⟩
  unfold wkM
  rw [b_ok k1]
  show Rs.ok (strD a) r1 s' = _
  unfold strD chs
  rw [List.map_map]
  rfl
def rgL (n : Int) : List Int := (List.range n.toNat).map fun (i : Nat) => (0 + (i : Int))
theorem ti_rg {t : PM Int} (h : TE m Γ t (.D (dW eI))) : TI (rg1M m) Γ (t >>= fun n => gd (decide (-(2 ^ 62) ≤ n ∧ n < 2 ^ 62)) (rgL n)) eI := fun r s q s' hm ht => by
  obtain ⟨a, s1, e1, ht⟩ := pm_bind ht
  obtain ⟨z, rfl, rfl⟩ := pm_gd ht
  obtain ⟨v1, r1, k1, hm1, l1⟩ := h r s a s' hm e1
  cases l1
  refine ⟨r1, ?_, hm1⟩
  unfold rg1M
  rw [b_ok k1]
  show (if decide (-(2 ^ 62) ≤ a ∧ a < 2 ^ 62) = true then M.pure (rgD a) else fail) r1 s' = _
  rw [if_pos z]
  unfold rgD rgL
  rw [List.map_map]
  rfl
def enL (xs : List α) : List (Int × α) := xs.zipIdx.map fun p => (((p.2 : Nat) : Int), p.1)
theorem enD_map (e : α → PyData) (xs : List α) : enD (xs.map e) = (enL xs).map (eP2 eI e) := by
  unfold enD enL
  rw [List.zipIdx_map, List.map_map, List.map_map]
  rfl
theorem ti_en {w : List ι → Wv} {e : ι → PyData} {t : PM (List ι)} (h : T1 m Γ t w) (k : ∀ xs, ∃ d, w xs = .d d ∧ seqL d = some (xs.map e)) : TI (enM m) Γ (t >>= fun xs => pure (enL xs)) (eP2 eI e) := fun r s q s' hm ht => by
  obtain ⟨a, s1, e1, ht⟩ := pm_bind ht
  obtain ⟨rfl, rfl⟩ := pm_pure ht
  obtain ⟨v1, r1, k1, hm1, l1⟩ := h r s a s' hm e1
  obtain ⟨d, q1, q2⟩ := k a
  refine ⟨r1, ?_, hm1⟩
  unfold enM
  rw [b_ok k1, l1, q1, b_ok (show restD (.w (.d d)) r1 s' = .ok d r1 s' from rfl), q2]
  show Rs.ok (enD (a.map e)) r1 s' = _
  rw [enD_map]
theorem zipD_map (e1 : α → PyData) (e2 : β → PyData) (xs : List α) (ys : List β) : zipD (xs.map e1) (ys.map e2) = (xs.zip ys).map (eP2 e1 e2) := by
  unfold zipD
  rw [List.zip_map, List.map_map]
  rfl
theorem ti_zip {w1 : List α → Wv} {w2 : List β → Wv} {e1 : α → PyData} {e2 : β → PyData} {t1 : PM (List α)} {t2 : PM (List β)} (h1 : T1 m1 Γ t1 w1) (h2 : T1 m2 Γ t2 w2) (k : ((∀ xs, w1 xs = .d (eT e1 xs)) ∧ ∀ xs, w2 xs = .d (eT e2 xs)) ∨ ((∀ xs, w1 xs = .d (eL e1 xs)) ∧ ∀ xs, w2 xs = .d (eL e2 xs))) :
    TI (zipM m1 m2) Γ (t1 >>= fun a => t2 >>= fun b => pure (a.zip b)) (eP2 e1 e2) := fun r s q s' hm ht => by
  obtain ⟨a, s1, f1, ht⟩ := pm_bind ht
  obtain ⟨b, s2, f2, ht⟩ := pm_bind ht
  obtain ⟨rfl, rfl⟩ := pm_pure ht
  obtain ⟨v1, r1, k1, hm1, l1⟩ := h1 r s a s1 hm f1
  obtain ⟨v2, r2, k2, hm2, l2⟩ := h2 r1 s1 b s' hm1 f2
  have ev : evs [m1, m2] r s = .ok [opd v1, opd v2] r2 s' := by
    unfold evs
    rw [b_ok k1]
    unfold evs
    rw [b_ok (show M.bind m2 _ r1 s1 = .ok [opd v2] r2 s' by rw [b_ok k2]; rfl)]
    rfl
  refine ⟨r2, ?_, hm2⟩
  unfold zipM
  rw [b_ok ev, l1, l2]
  rcases k with ⟨p1, p2⟩ | ⟨p1, p2⟩
  · rw [p1, p2]
    show Rs.ok (zipD (a.map e1) (b.map e2)) r2 s' = _
    rw [zipD_map]
  · rw [p1, p2]
    show Rs.ok (zipD (a.map e1) (b.map e2)) r2 s' = _
    rw [zipD_map]
/-! comprehensions -/
def cpL (tp : ι → PM Bool) (tg : ι → PM β) : List ι → List β → PM (List β)
  | [], acc => pure acc
  | x :: xs, acc => tp x >>= fun k => if k = true then tg x >>= fun y => gd (decide (acc.length < sizeLine)) () >>= fun _ => cpL tp tg xs (acc ++ [y]) else cpL tp tg xs acc
def cp (tp : ι → PM Bool) (tg : ι → PM β) (xs : List ι) : PM (List β) := cpL tp tg xs []
theorem te_lc {it : M (List PyData)} {vs : List Nat} {t : Tgt} {tt : M Bool} {te : M Rv} {e : ι → PyData} {w : β → Wv} {e' : β → PyData} {ti : PM (List ι)} {tp : ι → PM Bool} {tg : ι → PM β} (Γx : ι → En) (hn : nn Γ vs = true) (hs : ∀ i ∈ t.sl, i ∈ vs) (hx : ∀ x, setG t (e x) Γ = some (Γx x))
    (hi : TI it Γ ti e) (hp : ∀ x, TT tt (Γx x) (tp x)) (hg : ∀ x, T1 te (Γx x) (tg x) w) (hw : ∀ b, w b = .d (e' b)) : TE (lcM it vs t tt te) Γ (ti >>= fun xs => cp tp tg xs) (.F (oL e')) := by
  have go : ∀ (xs : List ι) (acc : List β) (r : Rho) (s : Sto) (ys : List β) (s' : Sto), Mt Γ r → cpL tp tg xs acc s = some (ys, s') → ∃ r', lcL vs t tt te (xs.map e) (acc.map e') r s = .ok (ys.map e') r' s' ∧ Mt Γ r' := by
    intro xs
    induction xs with
    | nil =>
      intro acc r s ys s' hm h
      obtain ⟨rfl, rfl⟩ := pm_pure h
      exact ⟨r, rfl, hm⟩
    | cons x xs ih =>
      intro acc r s ys s' hm h
      unfold cpL at h
      obtain ⟨k, s1, f1, h⟩ := pm_bind h
      obtain ⟨r0, p0, hm0⟩ := setG_ok (hx x) hm
      obtain ⟨r1, p1, hm1⟩ := hp x r0 s k s1 hm0 f1
      have hl := setG_len (hx x)
      rw [List.map_cons]
      unfold lcL
      rw [b_ok (show tgM t (e x) r s = .ok () r0 s by unfold tgM; rw [p0]), b_ok p1]
      cases k with
      | false =>
        rw [if_neg (by decide)] at h ⊢
        rw [b_ok (show wpM vs r1 s1 = .ok () (wipeR r1 vs) s1 from rfl)]
        exact ih acc _ _ _ _ (mt_wipeX (hx x) hm1 hl hn hs) h
      | true =>
        rw [if_pos rfl] at h ⊢
        obtain ⟨y, s2, f2, h⟩ := pm_bind h
        obtain ⟨u, s3, f3, h'⟩ := pm_bind h
        obtain ⟨z, e0, rfl⟩ := pm_gd f3
        obtain ⟨v, r2, p2, hm2, l2⟩ := hg x r1 s1 y s3 hm1 f2
        rw [b_ok p2, l2, hw, b_ok (show restD (.w (.d (e' y))) r2 s3 = .ok (e' y) r2 s3 from rfl), List.length_map, if_pos z, b_ok (show wpM vs r2 s3 = .ok () (wipeR r2 vs) s3 from rfl)]
        have := ih (acc ++ [y]) _ _ _ _ (mt_wipeX (hx x) hm2 hl hn hs) h'
        rw [List.map_append] at this
        exact this
  intro r s q s' hm ht
  obtain ⟨xs, s1, f1, ht⟩ := pm_bind ht
  obtain ⟨r1, p1, hm1⟩ := hi r s xs s1 hm f1
  obtain ⟨r2, p2, hm2⟩ := go xs [] _ _ _ _ (mt_wipe hm1 hn) ht
  rw [List.map_nil] at p2
  refine ⟨.fr (.lst (q.map e')), wipeR r2 vs, ?_, mt_wipe hm2 hn, rfl⟩
  unfold lcM
  rw [b_ok p1, b_ok (show wpM vs r1 s1 = .ok () (wipeR r1 vs) s1 from rfl), b_ok p2]
  rfl
/-- a dict with a new entry -/
def pt [DecidableEq κ] (m : List (κ × β)) (k : κ) (v : β) : List (κ × β) := if (m.any fun p => decide (p.1 = k)) = true then m.map (fun p => if p.1 = k then (p.1, v) else p) else m ++ [(k, v)]
theorem putD_map [DecidableEq κ] {ek : κ → PyData} {f : κ → L2.Key} {ev : β → PyData} (K : KyE ek f) (m : List (κ × β)) (k : κ) (v : β) : putD (m.map fun p => (ek p.1, ev p.2)) (f k) (ek k) (ev v) = (pt m k v).map fun p => (ek p.1, ev p.2) := by
  have ia : ∀ a, (keyK (ek a) = some (f k)) ↔ a = k := fun a => by
    rw [K.k]
    exact ⟨fun h => K.inj _ _ (Option.some.inj h), fun h => by rw [h]⟩
  unfold putD pt
  have h1 : ((m.map fun p => (ek p.1, ev p.2)).any fun p => decide (keyK p.1 = some (f k))) = m.any fun p => decide (p.1 = k) := by
    rw [List.any_map]
    congr 1
    funext p
    exact decide_eq_decide.mpr (ia p.1)
  rw [h1]
  split
  · rw [List.map_map, List.map_map]
    congr 1
    funext p
    show (if keyK (ek p.1) = some (f k) then (ek p.1, ev v) else (ek p.1, ev p.2)) = _
    by_cases z : p.1 = k
    · rw [if_pos ((ia _).mpr z)]
      show _ = (ek (if p.1 = k then (p.1, v) else p).1, ev (if p.1 = k then (p.1, v) else p).2)
      rw [if_pos z]
    · rw [if_neg (fun q => z ((ia _).mp q))]
      show _ = (ek (if p.1 = k then (p.1, v) else p).1, ev (if p.1 = k then (p.1, v) else p).2)
      rw [if_neg z]
  · rw [List.map_append]
    rfl
def dpL [DecidableEq κ] (tp : ι → PM Bool) (tk : ι → PM κ) (tv : ι → PM β) : List ι → List (κ × β) → PM (List (κ × β))
  | [], acc => pure acc
  | x :: xs, acc => tp x >>= fun k => if k = true then tk x >>= fun k => tv x >>= fun y => gd (decide (acc.length < sizeLine)) () >>= fun _ => dpL tp tk tv xs (pt acc k y) else dpL tp tk tv xs acc
def dp [DecidableEq κ] (tp : ι → PM Bool) (tk : ι → PM κ) (tv : ι → PM β) (xs : List ι) : PM (List (κ × β)) := dpL tp tk tv xs []
theorem te_dc [DecidableEq κ] {it : M (List PyData)} {vs : List Nat} {t : Tgt} {tt : M Bool} {mk mv : M Rv} {e : ι → PyData} {ek : κ → PyData} {f : κ → L2.Key} {w : β → Wv} {ev : β → PyData} {ti : PM (List ι)} {tp : ι → PM Bool} {tk : ι → PM κ} {tv : ι → PM β} (K : KyE ek f) (Γx : ι → En) (hn : nn Γ vs = true) (hs : ∀ i ∈ t.sl, i ∈ vs) (hx : ∀ x, setG t (e x) Γ = some (Γx x))
    (hi : TI it Γ ti e) (hp : ∀ x, TT tt (Γx x) (tp x)) (hk : ∀ x, TE mk (Γx x) (tk x) (.D (dW ek))) (hg : ∀ x, T1 mv (Γx x) (tv x) w) (hw : ∀ b, w b = .d (ev b)) : TE (dcM it vs t tt mk mv) Γ (ti >>= fun xs => dp tp tk tv xs) (.F (oD ek ev)) := by
  have go : ∀ (xs : List ι) (acc : List (κ × β)) (r : Rho) (s : Sto) (ys : List (κ × β)) (s' : Sto), Mt Γ r → dpL tp tk tv xs acc s = some (ys, s') → ∃ r', dcL vs t tt mk mv (xs.map e) (acc.map fun p => (ek p.1, ev p.2)) r s = .ok (ys.map fun p => (ek p.1, ev p.2)) r' s' ∧ Mt Γ r' := by
    intro xs
    induction xs with
    | nil =>
      intro acc r s ys s' hm h
      obtain ⟨rfl, rfl⟩ := pm_pure h
      exact ⟨r, rfl, hm⟩
    | cons x xs ih =>
      intro acc r s ys s' hm h
      unfold dpL at h
      obtain ⟨k, s1, f1, h⟩ := pm_bind h
      obtain ⟨r0, p0, hm0⟩ := setG_ok (hx x) hm
      obtain ⟨r1, p1, hm1⟩ := hp x r0 s k s1 hm0 f1
      have hl := setG_len (hx x)
      rw [List.map_cons]
      unfold dcL
      rw [b_ok (show tgM t (e x) r s = .ok () r0 s by unfold tgM; rw [p0]), b_ok p1]
      cases k with
      | false =>
        rw [if_neg (by decide)] at h ⊢
        rw [b_ok (show wpM vs r1 s1 = .ok () (wipeR r1 vs) s1 from rfl)]
        exact ih acc _ _ _ _ (mt_wipeX (hx x) hm1 hl hn hs) h
      | true =>
        rw [if_pos rfl] at h ⊢
        obtain ⟨k, s2, f2, h⟩ := pm_bind h
        obtain ⟨y, s3, f3, h⟩ := pm_bind h
        obtain ⟨u, s4, f4, h'⟩ := pm_bind h
        obtain ⟨z, e0, rfl⟩ := pm_gd f4
        obtain ⟨v2, r2, p2, hm2, l2⟩ := hk x r1 s1 k s2 hm1 f2
        obtain ⟨v, r3, p3, hm3, l3⟩ := hg x r2 s2 y s4 hm2 f3
        cases l2
        obtain ⟨c, q1, q2⟩ := dc_d (e := ek) k
        have hc : ct (opd (.w (.d (ek k)))) r3 s4 = .ok c r3 s4 := ct_of (vl_cto (sh := .D (dW ek)) (a := k) (Γ := Γx x) rfl hm3 q1)
        rw [b_ok p2, b_ok p3, b_ok hc, b_ok (show ofOpt (keyC c) r3 s4 = .ok (f k) r3 s4 by unfold keyC; rw [q2]; show ofOpt (keyK (ek k)) r3 s4 = _; rw [K.k]; rfl), b_ok (show ofOpt c.data? r3 s4 = .ok (ek k) r3 s4 by rw [q2]; rfl),
          l3, hw, b_ok (show restD (.w (.d (ev y))) r3 s4 = .ok (ev y) r3 s4 from rfl), List.length_map, if_pos z, b_ok (show wpM vs r3 s4 = .ok () (wipeR r3 vs) s4 from rfl)]
        have := ih (pt acc k y) _ _ _ _ (mt_wipeX (hx x) hm3 hl hn hs) h'
        rw [← putD_map K] at this
        exact this
  intro r s q s' hm ht
  obtain ⟨xs, s1, f1, ht⟩ := pm_bind ht
  obtain ⟨r1, p1, hm1⟩ := hi r s xs s1 hm f1
  obtain ⟨r2, p2, hm2⟩ := go xs [] _ _ _ _ (mt_wipe hm1 hn) ht
  rw [List.map_nil] at p2
  refine ⟨.fr (.dic (q.map fun (p : κ × β) => (ek p.1, ev p.2))), wipeR r2 vs, ?_, mt_wipe hm2 hn, rfl⟩
  unfold dcM
  rw [b_ok p1, b_ok (show wpM vs r1 s1 = .ok () (wipeR r1 vs) s1 from rfl), b_ok p2]
  rfl
theorem te_nd [DecidableEq κ] {ek : κ → PyData} {ev : β → PyData} : TE ndM Γ (pure ([] : List (κ × β))) (.F (oD ek ev)) := fun r s q s' hm ht => by
  obtain ⟨rfl, rfl⟩ := pm_pure ht
  exact ⟨_, r, rfl, hm, rfl⟩
/-! calls -/
theorem te_ca {f : Fm} {ms : List (M Rv)} {t : PM τ} {ws : τ → List Wv} {sh : Sh α} (k : τ → PM α) (h : TW ms Γ t ws) (hf : ∀ p, TF f (ws p) (k p) sh) : TE (caM f [] ms) Γ (t >>= k) sh := fun r s q s' hm ht => by
  obtain ⟨p, s1, e1, ht⟩ := pm_bind ht
  obtain ⟨r1, k1, hm1⟩ := h r s p s1 hm e1
  obtain ⟨v, e2, l2⟩ := hf p s1 q s' ht
  refine ⟨v, r1, ?_, hm1, vl_up l2⟩
  unfold caM
  rw [b_ok k1, b_ok (restWs_w _ r1 s1)]
  show (match f (ws p ++ []) s1 with
    | some (v, s') => Rs.ok v r1 s'
    | none => .no) = _
  rw [List.append_nil, e2]
theorem te_ck {f : Fm} {ms ks : List (M Rv)} {t : PM τ} {u : PM τ'} {ws : τ → List Wv} {us : τ' → List Wv} {sh : Sh α} (k : τ → τ' → PM α) (h : TW ms Γ t ws) (h' : TW ks Γ u us) (hf : ∀ p p', TF f (ws p ++ us p') (k p p') sh) : TE (ckM f (fun a b => a ++ b) ms ks) Γ (t >>= fun p => u >>= fun p' => k p p') sh := fun r s q s' hm ht => by
  obtain ⟨p, s1, e1, ht⟩ := pm_bind ht
  obtain ⟨p', s2, e2, ht⟩ := pm_bind ht
  obtain ⟨r1, k1, hm1⟩ := h r s p s1 hm e1
  obtain ⟨r2, k2, hm2⟩ := h' r1 s1 p' s2 hm1 e2
  obtain ⟨v, e3, l3⟩ := hf p p' s2 q s' ht
  refine ⟨v, r2, ?_, hm2, vl_up l3⟩
  unfold ckM
  rw [b_ok k1, b_ok k2, b_ok (restWs_w _ r2 s2), b_ok (restWs_w _ r2 s2)]
  show (match f (ws p ++ us p') s2 with
    | some (v, s') => Rs.ok v r2 s'
    | none => .no) = _
  rw [e3]
theorem te_cl {i : Nat} {v0 : L2.V} {f : Fm} {ms : List (M Rv)} {t : PM τ} {ws : τ → List Wv} {sh : Sh α} (k : τ → PM α) (hi : Γ[i]? = some (some (.w (.raw v0)))) (h : TW ms Γ t ws) (hf : ∀ p, TF f (ws p) (k p) sh) : TE (clM i v0 f ms) Γ (t >>= k) sh := fun r s q s' hm ht => by
  unfold clM
  rw [mt_at hm hi]
  show ∃ v r', (if v0 = v0 then caM f [] ms r s else .no) = _ ∧ _
  rw [if_pos rfl]
  exact te_ca k h hf r s q s' hm ht
end
end Tz
set_option Elab.async false
set_option linter.all false
set_option maxRecDepth 100000
/-! T4: statements, defs. -/
namespace Tz
open PySem Mi
section
variable {α β γ δ ε ζ ι κ τ τ' τ'' ρ l : Type} {m m1 m2 m3 : M Rv} {Γ : En}
def Sh.sl : Sh α → α → Sl
  | .D w, a => .w (w a)
  | .F o, a => .ow (o a)
  | .P _ _, _ => .un
variable {G : τ → En} {G' : τ' → En} {L : l → En} {sh : Sh ρ}
theorem ts_seq {a b : M Out} {t : PM (Fl τ l ρ)} {k : τ → PM (Fl τ' l ρ)} (h1 : TS a Γ t G L sh) (h2 : ∀ x, TS b (G x) (k x) G' L sh) : TS (seqM a b) Γ (sq t k) G' L sh := fun r s o s' hm ht => by
  obtain ⟨o1, s1, e1, ht⟩ := pm_bind ht
  have q := h1 r s o1 s1 hm e1
  cases o1 with
  | nx x =>
    obtain ⟨r1, k1, hm1⟩ := q
    have := h2 x r1 s1 o s' hm1 ht
    have e : seqM a b r s = b r1 s1 := by
      unfold seqM
      rw [b_ok k1]
    rw [e]
    exact this
  | bk x =>
    obtain ⟨r1, k1, hm1⟩ := q
    obtain ⟨rfl, rfl⟩ := pm_pure ht
    exact ⟨r1, by unfold seqM; rw [b_ok k1]; rfl, hm1⟩
  | ct x =>
    obtain ⟨r1, k1, hm1⟩ := q
    obtain ⟨rfl, rfl⟩ := pm_pure ht
    exact ⟨r1, by unfold seqM; rw [b_ok k1]; rfl, hm1⟩
  | rt x =>
    obtain ⟨v, r1, v', k1, hm1⟩ := q
    obtain ⟨rfl, rfl⟩ := pm_pure ht
    exact ⟨v, r1, v', by unfold seqM; rw [b_ok k1]; rfl, hm1⟩
theorem ts_as {i : Nat} {t : PM α} {s0 : Sh α} (h : TE m Γ t s0) (hp : s0.np = true) : TS (asM i m) Γ (t >>= fun a => pure (.nx a)) (fun a => Γ.set i (some (s0.sl a))) L sh := fun r s o s' hm ht => by
  obtain ⟨a, s1, e1, ht⟩ := pm_bind ht
  obtain ⟨rfl, rfl⟩ := pm_pure ht
  obtain ⟨v, r1, k1, hm1, l1⟩ := h r s a s' hm e1
  have e0 : asM i m r s = stM i v r1 s' := b_ok k1
  rw [e0]
  cases s0 with
  | D w =>
    cases l1
    exact ⟨_, rfl, mt_set hm1⟩
  | F w =>
    cases l1
    exact ⟨_, rfl, mt_set hm1⟩
  | P i w => cases hp
theorem ts_ex {t : PM α} {s0 : Sh α} (h : TE m Γ t s0) : TS (exM m) Γ (t >>= fun a => pure (.nx a)) (fun _ => Γ) L sh := fun r s o s' hm ht => by
  obtain ⟨a, s1, e1, ht⟩ := pm_bind ht
  obtain ⟨rfl, rfl⟩ := pm_pure ht
  obtain ⟨v, r1, k1, hm1, l1⟩ := h r s a s' hm e1
  exact ⟨r1, by unfold exM; rw [b_ok k1]; rfl, hm1⟩
theorem ts_re {t : PM ρ} (s0 : Sh ρ) (h : TE m Γ t s0) : TS (reM m) Γ (t >>= fun a => pure (.rt a)) G L s0.ret := fun r s o s' hm ht => by
  obtain ⟨a, s1, e1, ht⟩ := pm_bind ht
  obtain ⟨rfl, rfl⟩ := pm_pure ht
  obtain ⟨v, r1, k1, hm1, l1⟩ := h r s a s' hm e1
  cases s0 with
  | D w =>
    cases l1
    exact ⟨_, r1, _, reM_eq k1, rfl, rfl⟩
  | F w =>
    cases l1
    exact ⟨_, r1, _, reM_eq k1, rfl, rfl⟩
  | P i w =>
    obtain ⟨rfl, l2⟩ := l1
    refine ⟨_, r1, .fr (w a), reM_eq k1, ?_, rfl⟩
    show (match r1[i]? with
      | some (.ow o) => some (Rv.fr o)
      | some (.w w) => some (.w w)
      | _ => none) = _
    rw [mt_at hm1 l2]
theorem ts_nx {Γ' : τ → En} {a : τ} (h : Γ' a = Γ) : TS (M.pure .nx) Γ (pure (.nx a)) Γ' L sh := fun r s o s' hm ht => by
  obtain ⟨rfl, rfl⟩ := pm_pure ht
  exact ⟨r, rfl, by rw [h]; exact hm⟩
theorem ts_nw {Γ' : τ → En} {a : τ} (h : Wk Γ (Γ' a)) : TS (M.pure .nx) Γ (pure (.nx a)) Γ' L sh := fun r s o s' hm ht => by
  obtain ⟨rfl, rfl⟩ := pm_pure ht
  exact ⟨r, rfl, h.mt hm⟩
theorem ts_bk {a : l} (h : Wk Γ (L a)) : TS (M.pure .bk) Γ (pure (.bk a)) G L sh := fun r s o s' hm ht => by
  obtain ⟨rfl, rfl⟩ := pm_pure ht
  exact ⟨r, rfl, h.mt hm⟩
theorem ts_ct {a : l} (h : Wk Γ (L a)) : TS (M.pure .ct) Γ (pure (.ct a)) G L sh := fun r s o s' hm ht => by
  obtain ⟨rfl, rfl⟩ := pm_pure ht
  exact ⟨r, rfl, h.mt hm⟩
theorem ts_no : TS fail Γ no G L sh := fun r s o s' hm ht => by cases ht
theorem ts_if {c : M Bool} {a b : M Out} {u : PM Bool} {t1 t2 : PM (Fl τ l ρ)} (h : TT c Γ u) (h1 : TS a Γ t1 G L sh) (h2 : TS b Γ t2 G L sh) : TS (ifS c a b) Γ (pIf u t1 t2) G L sh := fun r s o s' hm ht => by
  obtain ⟨k, s1, e1, ht⟩ := pm_bind ht
  obtain ⟨r1, k1, hm1⟩ := h r s k s1 hm e1
  have e : ifS c a b r s = (if k = true then a else b) r1 s1 := b_ok k1
  rw [e]
  cases k with
  | true => exact h1 r1 s1 o s' hm1 ht
  | false => exact h2 r1 s1 o s' hm1 ht
/-- at a block's end: what is handed on, less is said -/
theorem ts_end {a : M Out} {t : PM (Fl τ l ρ)} (f : τ → τ') (h : TS a Γ t G L sh) (hw : ∀ x, Wk (G x) (G' (f x))) : TS a Γ (sq t fun x => pure (.nx (f x))) G' L sh := fun r s o s' hm ht => by
  obtain ⟨o1, s1, e1, ht⟩ := pm_bind ht
  have q := h r s o1 s1 hm e1
  cases o1 with
  | nx x =>
    obtain ⟨r1, k1, hm1⟩ := q
    obtain ⟨rfl, rfl⟩ := pm_pure ht
    exact ⟨r1, k1, (hw x).mt hm1⟩
  | bk x =>
    obtain ⟨r1, k1, hm1⟩ := q
    obtain ⟨rfl, rfl⟩ := pm_pure ht
    exact ⟨r1, k1, hm1⟩
  | ct x =>
    obtain ⟨r1, k1, hm1⟩ := q
    obtain ⟨rfl, rfl⟩ := pm_pure ht
    exact ⟨r1, k1, hm1⟩
  | rt x =>
    obtain ⟨v, r1, v', k1, hm1⟩ := q
    obtain ⟨rfl, rfl⟩ := pm_pure ht
    exact ⟨v, r1, v', k1, hm1⟩
theorem ts_pre {a : M Out} {Γ' : En} {t : PM (Fl τ l ρ)} (w : Wk Γ Γ') (h : TS a Γ' t G L sh) : TS a Γ t G L sh := fun r s o s' hm ht => h r s o s' (w.mt hm) ht
theorem ts_fr1 {i : Nat} {o : OD} (h : Γ[i]? = some (some (.ow o))) : TS (frzM i) Γ (pure (.nx ())) (fun _ => Γ.set i (some (.w (frzW o)))) L sh := fun r s q s' hm ht => by
  obtain ⟨rfl, rfl⟩ := pm_pure ht
  refine ⟨r.set i (.w (frzW o)), ?_, mt_set hm⟩
  unfold frzM
  rw [mt_at hm h]
theorem ts_fr0 {i : Nat} {w : Wv} (h : Γ[i]? = some (some (.w w))) : TS (frzM i) Γ (pure (.nx ())) (fun _ => Γ) L sh := fun r s q s' hm ht => by
  obtain ⟨rfl, rfl⟩ := pm_pure ht
  refine ⟨r, ?_, hm⟩
  unfold frzM
  rw [mt_at hm h]
theorem ts_frn {i : Nat} (h : Γ[i]? = some none) : TS (frzM i) Γ (pure (.nx ())) (fun _ => Γ) L sh := fun r s q s' hm ht => by
  obtain ⟨rfl, rfl⟩ := pm_pure ht
  cases e : r[i]? with
  | some c =>
    cases c with
    | ow o =>
      refine ⟨r.set i (.w (frzW o)), by unfold frzM; rw [e], by rw [List.length_set]; exact hm.1, fun j c z => ?_⟩
      have ne : i ≠ j := fun y => by subst y; rw [h] at z; cases z
      rw [List.getElem?_set_ne ne]
      exact hm.2 j c z
    | w v => exact ⟨r, by unfold frzM; rw [e], hm⟩
    | un => exact ⟨r, by unfold frzM; rw [e], hm⟩
  | none => exact ⟨r, by unfold frzM; rw [e], hm⟩
/-! loops -/
def forF (tb : ι → τ → PM (Fl τ τ ρ)) : List ι → τ → PM (Fl τ l ρ)
  | [], a => pure (.nx a)
  | x :: xs, a => tb x a >>= fun o => match o with
    | .nx b => forF tb xs b
    | .ct b => forF tb xs b
    | .bk b => pure (.nx b)
    | .rt v => pure (.rt v)
theorem ts_for {it : M (List PyData)} {t : Tgt} {body : M Out} {e : ι → PyData} {ti : PM (List ι)} {tb : ι → τ → PM (Fl τ τ ρ)} (init : τ) (Γx : ι → τ → En) (hi : TI it Γ ti e) (h0 : Wk Γ (G init)) (hx : ∀ x a, setG t (e x) (G a) = some (Γx x a)) (hb : ∀ x a, TS body (Γx x a) (tb x a) G G sh) :
    TS (Mi.forM it t body) Γ (ti >>= fun xs => forF tb xs init) G L sh := by
  have go : ∀ (xs : List ι) (a : τ) (r : Rho) (s : Sto) (o : Fl τ l ρ) (s' : Sto), Mt (G a) r → forF tb xs a s = some (o, s') → OutP (forL t body (xs.map e) r s) s' G L sh o := by
    intro xs
    induction xs with
    | nil =>
      intro a r s o s' hm h
      obtain ⟨rfl, rfl⟩ := pm_pure h
      exact ⟨r, rfl, hm⟩
    | cons x xs ih =>
      intro a r s o s' hm h
      unfold forF at h
      obtain ⟨o1, s1, e1, h⟩ := pm_bind h
      obtain ⟨r0, p0, hm0⟩ := setG_ok (hx x a) hm
      have q := hb x a r0 s o1 s1 hm0 e1
      rw [List.map_cons]
      unfold forL
      have eg : tgM t (e x) r s = .ok () r0 s := by unfold tgM; rw [p0]
      cases o1 with
      | nx b =>
        obtain ⟨r1, k1, hm1⟩ := q
        have := ih b r1 s1 o s' hm1 h
        rw [b_ok eg, b_ok k1]
        exact this
      | ct b =>
        obtain ⟨r1, k1, hm1⟩ := q
        have := ih b r1 s1 o s' hm1 h
        rw [b_ok eg, b_ok k1]
        exact this
      | bk b =>
        obtain ⟨r1, k1, hm1⟩ := q
        obtain ⟨rfl, rfl⟩ := pm_pure h
        exact ⟨r1, by rw [b_ok eg, b_ok k1]; rfl, hm1⟩
      | rt b =>
        obtain ⟨v, r1, v', k1, hm1⟩ := q
        obtain ⟨rfl, rfl⟩ := pm_pure h
        exact ⟨v, r1, v', by rw [b_ok eg, b_ok k1]; rfl, hm1⟩
  intro r s o s' hm ht
  obtain ⟨xs, s1, e1, ht⟩ := pm_bind ht
  obtain ⟨r1, k1, hm1⟩ := hi r s xs s1 hm e1
  have := go xs init r1 s1 o s' (h0.mt hm1) ht
  rw [show Mi.forM it t body r s = forL t body (xs.map e) r1 s1 from b_ok k1]
  exact this
def whF (tc : τ → PM Bool) (tb : τ → PM (Fl τ τ ρ)) : Nat → τ → PM (Fl τ l ρ)
  | 0, _ => no
  | n + 1, a => tc a >>= fun k => if k = true then (tb a >>= fun o => match o with
    | .nx b => whF tc tb n b
    | .ct b => whF tc tb n b
    | .bk b => pure (.nx b)
    | .rt v => pure (.rt v)) else pure (.nx a)
theorem ts_wh {c : M Bool} {body : M Out} {tc : τ → PM Bool} {tb : τ → PM (Fl τ τ ρ)} {n : Nat} (init : τ) (h0 : Wk Γ (G init)) (hc : ∀ a, TT c (G a) (tc a)) (hb : ∀ a, TS body (G a) (tb a) G G sh) :
    TS (whL c body n) Γ (whF tc tb n init) G L sh := by
  have go : ∀ (n : Nat) (a : τ) (r : Rho) (s : Sto) (o : Fl τ l ρ) (s' : Sto), Mt (G a) r → whF tc tb n a s = some (o, s') → OutP (whL c body n r s) s' G L sh o := by
    intro n
    induction n with
    | zero =>
      intro a r s o s' hm h
      cases h
    | succ n ih =>
      intro a r s o s' hm h
      unfold whF at h
      obtain ⟨k, s0, e0, h⟩ := pm_bind h
      obtain ⟨r0, p0, hm0⟩ := hc a r s k s0 hm e0
      unfold whL
      cases k with
      | false =>
        rw [if_neg (by decide)] at h
        obtain ⟨rfl, rfl⟩ := pm_pure h
        exact ⟨r0, by rw [b_ok p0]; rfl, hm0⟩
      | true =>
        rw [if_pos rfl] at h
        obtain ⟨o1, s1, e1, h⟩ := pm_bind h
        have q := hb a r0 s0 o1 s1 hm0 e1
        cases o1 with
        | nx b =>
          obtain ⟨r1, k1, hm1⟩ := q
          have := ih b r1 s1 o s' hm1 h
          rw [b_ok p0, if_pos rfl, b_ok k1]
          exact this
        | ct b =>
          obtain ⟨r1, k1, hm1⟩ := q
          have := ih b r1 s1 o s' hm1 h
          rw [b_ok p0, if_pos rfl, b_ok k1]
          exact this
        | bk b =>
          obtain ⟨r1, k1, hm1⟩ := q
          obtain ⟨rfl, rfl⟩ := pm_pure h
          exact ⟨r1, by rw [b_ok p0, if_pos rfl, b_ok k1]; rfl, hm1⟩
        | rt b =>
          obtain ⟨v, r1, v', k1, hm1⟩ := q
          obtain ⟨rfl, rfl⟩ := pm_pure h
          exact ⟨v, r1, v', by rw [b_ok p0, if_pos rfl, b_ok k1]; rfl, hm1⟩
  exact fun r s o s' hm ht => go n init r s o s' (h0.mt hm) ht
/-! targets -/
theorem ts_ta {tg : Tgt} {t : PM α} {w : α → Wv} {e : α → PyData} (Γx : α → En) (h : T1 m Γ t w) (hw : ∀ a, w a = .d (e a)) (hx : ∀ a, setG tg (e a) Γ = some (Γx a)) : TS (taM tg m) Γ (t >>= fun a => pure (.nx a)) Γx L sh := fun r s o s' hm ht => by
  obtain ⟨a, s1, e1, ht⟩ := pm_bind ht
  obtain ⟨rfl, rfl⟩ := pm_pure ht
  obtain ⟨v, r1, k1, hm1, l1⟩ := h r s a s' hm e1
  obtain ⟨r2, p2, hm2⟩ := setG_ok (hx a) hm1
  refine ⟨r2, ?_, hm2⟩
  unfold taM
  rw [b_ok k1, l1, hw, b_ok (show restD (.w (.d (e a))) r1 s' = .ok (e a) r1 s' from rfl), b_ok (show tgM tg (e a) r1 s' = .ok () r2 s' by unfold tgM; rw [p2])]
  rfl
theorem mt_fold : ∀ {ps : List (Nat × Wv)} {Γ : En} {r : Rho}, Mt Γ r → Mt (ps.foldl (fun r p => r.set p.1 (some (.w p.2))) Γ) (ps.foldl (fun r p => r.set p.1 (.w p.2)) r)
  | [], _, _, h => h
  | p :: ps, Γ, r, h => mt_fold (ps := ps) (mt_set h)
theorem mt_foldO : ∀ {ps : List (Nat × OD)} {Γ : En} {r : Rho}, Mt Γ r → Mt (ps.foldl (fun r p => r.set p.1 (some (.ow p.2))) Γ) (ps.foldl (fun r p => r.set p.1 (.ow p.2)) r)
  | [], _, _, h => h
  | p :: ps, Γ, r, h => mt_foldO (ps := ps) (mt_set h)
theorem ts_pa {is : List Nat} {ms : List (M Rv)} {t : PM τ} {ws : τ → List Wv} (h : TW ms Γ t ws) : TS (paM is ms) Γ (t >>= fun a => pure (.nx a)) (fun a => (is.zip (ws a)).foldl (fun r p => r.set p.1 (some (.w p.2))) Γ) L sh := fun r s o s' hm ht => by
  obtain ⟨a, s1, e1, ht⟩ := pm_bind ht
  obtain ⟨rfl, rfl⟩ := pm_pure ht
  obtain ⟨r1, k1, hm1⟩ := h r s a s' hm e1
  refine ⟨(is.zip (ws a)).foldl (fun r p => r.set p.1 (.w p.2)) r1, ?_, mt_fold hm1⟩
  unfold paM
  rw [b_ok k1, b_ok (restWs_w _ r1 s')]
/-- new containers -/
def TN (ms : List (M Rv)) (Γ : En) (t : PM τ) (os : τ → List OD) : Prop := ∀ r s a s', Mt Γ r → t s = some (a, s') → ∃ r', evF ms r s = .ok (os a) r' s' ∧ Mt Γ r'
theorem tn_nil : TN [] Γ (pure ()) (fun _ => []) := fun r s a s' hm ht => by
  obtain ⟨rfl, rfl⟩ := pm_pure ht
  exact ⟨r, rfl, hm⟩
theorem tn_cons {ms : List (M Rv)} {t : PM α} {ts : PM τ} {o : α → OD} {os : τ → List OD} (h : TE m Γ t (.F o)) (hs : TN ms Γ ts os) : TN (m :: ms) Γ (t >>= fun a => ts >>= fun p => pure (a, p)) (fun p => o p.1 :: os p.2) := fun r s q s' hm ht => by
  obtain ⟨a, s1, e1, ht⟩ := pm_bind ht
  obtain ⟨p, s2, e2, ht⟩ := pm_bind ht
  obtain ⟨rfl, rfl⟩ := pm_pure ht
  obtain ⟨v, r1, k1, m1, k2⟩ := h r s a s1 hm e1
  obtain ⟨r2, k3, m2⟩ := hs r1 s1 p s' m1 e2
  cases k2
  refine ⟨r2, ?_, m2⟩
  unfold evF
  rw [b_ok k1]
  show M.bind (evF ms) _ r1 s1 = _
  rw [b_ok k3]
  rfl
theorem ts_nl {is : List Nat} {ms : List (M Rv)} {t : PM τ} {os : τ → List OD} (h : TN ms Γ t os) : TS (nlM is ms) Γ (t >>= fun a => pure (.nx a)) (fun a => (is.zip (os a)).foldl (fun r p => r.set p.1 (some (.ow p.2))) Γ) L sh := fun r s o s' hm ht => by
  obtain ⟨a, s1, e1, ht⟩ := pm_bind ht
  obtain ⟨rfl, rfl⟩ := pm_pure ht
  obtain ⟨r1, k1, hm1⟩ := h r s a s' hm e1
  refine ⟨(is.zip (os a)).foldl (fun r p => r.set p.1 (.ow p.2)) r1, ?_, mt_foldO hm1⟩
  unfold nlM
  rw [b_ok k1]
/-! containers that change -/
theorem updO_own {β : Type} {i : Nat} {f : OD → Option (OD × β)} {o o' : OD} {b : β} {r : Rho} {s : Sto} (h : r[i]? = some (.ow o)) (e : f o = some (o', b)) : updO (.pk i) f r s = .ok b (r.set i (.ow o')) s := by
  show (match r[i]? with
    | some (.ow o) => match f o with
      | some (o', b) => Rs.ok b (r.set i (.ow o')) s
      | none => .no
    | some (.w (.obj n)) => match s[n]? with
      | some o => match f o with
        | some (o', b) => .ok b r (s.set n o')
        | none => .no
      | none => .no
    | _ => .no) = _
  rw [h]
  show (match f o with
      | some (o', b) => Rs.ok b (r.set i (.ow o')) s
      | none => .no) = _
  rw [e]
def TX (m : M Rv) (Γ : En) (t : PM τ) (d : τ → PyData) (G : τ → En) : Prop := ∀ r s a s', Mt Γ r → t s = some (a, s') → ∃ v r', m r s = .ok v r' s' ∧ Mt (G a) r' ∧ opd v = ad (d a)
def TXd (m : M Rv) (Γ : En) (t : PM τ) (d : τ → PyData) (G : τ → En) : Prop := ∀ r s a s', Mt Γ r → t s = some (a, s') → ∃ r', m r s = .ok (ad (d a)) r' s' ∧ Mt (G a) r'
theorem TXd.tx {t : PM τ} {d : τ → PyData} {G : τ → En} (h : TXd m Γ t d G) : TX m Γ t d G := fun r s a s' hm ht => by
  obtain ⟨r', h1, h2⟩ := h r s a s' hm ht
  exact ⟨_, r', h1, h2, rfl⟩
theorem tx_of {t : PM α} {w : α → Wv} {e : α → PyData} (h : T1 m Γ t w) (hw : ∀ a, w a = .d (e a)) : TX m Γ t e fun _ => Γ := fun r s a s' hm ht => by
  obtain ⟨v, r1, k1, m1, k2⟩ := h r s a s' hm ht
  exact ⟨v, r1, k1, m1, by rw [k2, hw]; rfl⟩
theorem era_map (f : α → β) : ∀ (xs : List α) (n : Nat), (xs.map f).eraseIdx n = (xs.eraseIdx n).map f
  | [], _ => rfl
  | _ :: _, 0 => rfl
  | x :: xs, n + 1 => by
    show f x :: (xs.map f).eraseIdx n = f x :: (xs.eraseIdx n).map f
    rw [era_map f xs n]
def popL (ys : List α) (i : Int) : Option (α × List α) := if size ys.length = true then (L2.ixN ys.length i).bind fun k => (ys[k]?).map fun d => (d, ys.eraseIdx k) else none
theorem tx_pop {j : Nat} {e : α → PyData} {ys : List α} {t : PM Int} (hj : Γ[j]? = some (some (.ow (oL e ys)))) (h : TE m Γ t (.D (dW eI))) : TXd (mthM "list" (rd j) [m] gPop) Γ (t >>= fun i => op (popL ys i)) (fun p => e p.1) (fun p => Γ.set j (some (.ow (oL e p.2)))) := fun r s q s' hm ht => by
  obtain ⟨i, s1, e1, ht⟩ := pm_bind ht
  obtain ⟨e2, rfl⟩ := pm_op ht
  obtain ⟨v, r1, k1, hm1, l1⟩ := h r s i s' hm e1
  cases l1
  refine ⟨r1.set j (.ow (oL e q.2)), ?_, mt_set hm1⟩
  have c1 : rd j r s = .ok (.pk j) r s := by unfold rd; rw [mt_at hm hj]
  have c2 : ct (.pk j) r s = .ok (.o (oL e ys)) r s := ct_of (vl_ct (sh := .P j (oL e)) (a := ys) (Γ := Γ) ⟨rfl, hj⟩ hm rfl)
  unfold mthM
  rw [b_ok c1, b_ok (show tyM "list" (.pk j) r s = .ok () r s by unfold tyM; rw [b_ok c2]; rfl)]
  rw [b_ok (show evs [m] r s = .ok [.w (.d (.int i))] r1 s' by unfold evs; rw [b_ok k1]; rfl)]
  refine updO_own (i := j) (o := oL e ys) (o' := oL e q.2) (b := ad (e q.1)) (mt_at hm1 hj) ?_
  show (if size (ys.map e).length = true then (L2.ixN (ys.map e).length i).bind fun k => ((ys.map e)[k]?).map fun d => (OD.lst ((ys.map e).eraseIdx k), ad d) else none) = _
  unfold popL at e2
  by_cases z : size ys.length = true
  · rw [if_pos z] at e2
    rw [List.length_map, if_pos z]
    cases k : L2.ixN ys.length i with
    | none => rw [k] at e2; cases e2
    | some n =>
      rw [k] at e2
      have e2' : (ys[n]?).map (fun d => (d, ys.eraseIdx n)) = some q := e2
      show ((ys.map e)[n]?).map _ = _
      rw [List.getElem?_map]
      cases y : ys[n]? with
      | none => rw [y] at e2'; cases e2'
      | some d =>
        rw [y] at e2'
        cases e2'
        show some (OD.lst ((ys.map e).eraseIdx n), ad (e d)) = _
        rw [era_map]
  · rw [if_neg z] at e2; cases e2
theorem ts_asX {i : Nat} {t : PM τ} {d : τ → PyData} (h : TXd m Γ t d G) : TS (asM i m) Γ (t >>= fun a => pure (.nx a)) (fun a => (G a).set i (some (.w (.d (d a))))) L sh := fun r s o s' hm ht => by
  obtain ⟨a, s1, e1, ht⟩ := pm_bind ht
  obtain ⟨rfl, rfl⟩ := pm_pure ht
  obtain ⟨r1, k1, hm1⟩ := h r s a s' hm e1
  have e0 : asM i m r s = stM i (ad (d a)) r1 s' := b_ok k1
  rw [e0]
  exact ⟨_, rfl, mt_set hm1⟩
theorem ts_exX {t : PM τ} {d : τ → PyData} (h : TX m Γ t d G) : TS (exM m) Γ (t >>= fun a => pure (.nx a)) G L sh := fun r s o s' hm ht => by
  obtain ⟨a, s1, e1, ht⟩ := pm_bind ht
  obtain ⟨rfl, rfl⟩ := pm_pure ht
  obtain ⟨v, r1, k1, hm1, l1⟩ := h r s a s' hm e1
  exact ⟨r1, by unfold exM; rw [b_ok k1]; rfl, hm1⟩
theorem ts_app {i : Nat} {t : PM τ} {d : τ → PyData} {e : α → PyData} {xs : List α} (g : τ → α) (hi0 : Γ[i]? = some (some (.ow (oL e xs)))) (h : TX m Γ t d G) (hi : ∀ a, (G a)[i]? = some (some (.ow (oL e xs)))) (hd : ∀ a, d a = e (g a)) :
    TS (exM (mthM "list" (rd i) [m] gAppend)) Γ (t >>= fun a => gd (decide (xs.length < sizeLine)) a >>= fun a => pure (.nx a)) (fun a => (G a).set i (some (.ow (oL e (xs ++ [g a]))))) L sh := fun r s o s' hm ht => by
  obtain ⟨a, s1, e1, ht⟩ := pm_bind ht
  obtain ⟨a', s2, e2, ht2⟩ := pm_bind ht
  obtain ⟨z, rfl, rfl⟩ := pm_gd e2
  obtain ⟨rfl, rfl⟩ := pm_pure ht2
  obtain ⟨v, r1, k1, hm1, l1⟩ := h r s a' s' hm e1
  refine ⟨r1.set i (.ow (oL e (xs ++ [g a']))), ?_, mt_set hm1⟩
  have c1 : rd i r s = .ok (.pk i) r s := by unfold rd; rw [mt_at hm hi0]
  have c2 : ct (.pk i) r s = .ok (.o (oL e xs)) r s := ct_of (vl_ct (sh := .P i (oL e)) (a := xs) (Γ := Γ) ⟨rfl, hi0⟩ hm rfl)
  unfold exM mthM
  have main : (M.bind (rd i) fun v => M.bind (tyM "list" v) fun _ => M.bind (evs [m]) fun vs => gAppend (opd v :: vs)) r s = .ok (ad .none) (r1.set i (.ow (oL e (xs ++ [g a'])))) s' := by
    rw [b_ok c1, b_ok (show tyM "list" (.pk i) r s = .ok () r s by unfold tyM; rw [b_ok c2]; rfl)]
    rw [b_ok (show evs [m] r s = .ok [ad (d a')] r1 s' by unfold evs; rw [b_ok k1, l1]; rfl)]
    refine updO_own (i := i) (o := oL e xs) (o' := oL e (xs ++ [g a'])) (b := ad .none) (mt_at hm1 (hi a')) ?_
    show (if decide ((xs.map e).length < sizeLine) = true then some (OD.lst (xs.map e ++ [d a']), ad .none) else none) = _
    rw [List.length_map, if_pos z, hd]
    show _ = some (OD.lst ((xs ++ [g a']).map e), _)
    rw [List.map_append]
    rfl
  rw [b_ok main]
  rfl
theorem ts_dp [DecidableEq κ] {i : Nat} {ek : κ → PyData} {f : κ → L2.Key} {ev : β → PyData} {kvs : List (κ × β)} {w : β → Wv} {tv : PM β} {tk : PM κ} (K : KyE ek f) (hi : Γ[i]? = some (some (.ow (oD ek ev kvs)))) (hv : T1 m1 Γ tv w) (hw : ∀ b, w b = .d (ev b)) (hk : TE m2 Γ tk (.D (dW ek))) :
    TS (dpM m1 (rd i) m2) Γ (tv >>= fun v => tk >>= fun k => gd (decide (kvs.length < sizeLine)) (v, k) >>= fun p => pure (.nx p)) (fun p => Γ.set i (some (.ow (oD ek ev (pt kvs p.2 p.1))))) L sh := fun r s o s' hm ht => by
  obtain ⟨v, s1, e1, ht⟩ := pm_bind ht
  obtain ⟨k, s2, e2, ht⟩ := pm_bind ht
  obtain ⟨p, s3, e3, ht2⟩ := pm_bind ht
  obtain ⟨z, rfl, rfl⟩ := pm_gd e3
  obtain ⟨rfl, rfl⟩ := pm_pure ht2
  obtain ⟨v1, r1, k1, hm1, l1⟩ := hv r s v s1 hm e1
  obtain ⟨v2, r2, k2, hm2, l2⟩ := hk r1 s1 k s' hm1 e2
  cases l2
  refine ⟨r2.set i (.ow (oD ek ev (pt kvs k v))), ?_, mt_set hm2⟩
  have c1 : rd i r1 s1 = .ok (.pk i) r1 s1 := by unfold rd; rw [mt_at hm1 hi]
  obtain ⟨c, q1, q2⟩ := dc_d (e := ek) k
  have hc : ct (opd (.w (.d (ek k)))) r2 s' = .ok c r2 s' := ct_of (vl_cto (sh := .D (dW ek)) (a := k) (Γ := Γ) rfl hm2 q1)
  unfold dpM
  rw [b_ok k1, b_ok c1, b_ok k2, b_ok hc, b_ok (show ofOpt (keyC c) r2 s' = .ok (f k) r2 s' by unfold keyC; rw [q2]; show ofOpt (keyK (ek k)) r2 s' = _; rw [K.k]; rfl), b_ok (show ofOpt c.data? r2 s' = .ok (ek k) r2 s' by rw [q2]; rfl),
    l1, hw, b_ok (show restD (.w (.d (ev v))) r2 s' = .ok (ev v) r2 s' from rfl)]
  refine updO_own (i := i) (o := oD ek ev kvs) (o' := oD ek ev (pt kvs k v)) (b := Out.nx) (mt_at hm2 hi) ?_
  show (if decide ((kvs.map fun p => (ek p.1, ev p.2)).length < sizeLine) = true then some (OD.dic (putD (kvs.map fun p => (ek p.1, ev p.2)) (f k) (ek k) (ev v)), Out.nx) else none) = _
  rw [List.length_map, if_pos z, putD_map K]
/-! the reader -/
def shr (o : OD) : PM Nat := fun s => some (s.length, s ++ [o])
theorem ts_sh {i : Nat} {t : PM α} {o : α → OD} (h : TE m Γ t (.F o)) : TS (shM i m) Γ (t >>= fun a => shr (o a) >>= fun n => pure (.nx n)) (fun n => Γ.set i (some (.w (.obj n)))) L sh := fun r s q s' hm ht => by
  obtain ⟨a, s1, e1, ht⟩ := pm_bind ht
  obtain ⟨n, s2, e2, ht⟩ := pm_bind ht
  cases e2
  obtain ⟨rfl, rfl⟩ := pm_pure ht
  obtain ⟨v, r1, k1, hm1, l1⟩ := h r s a s1 hm e1
  cases l1
  refine ⟨r1.set i (.w (.obj s1.length)), ?_, mt_set hm1⟩
  unfold shM
  rw [b_ok k1]
/-- a draw -/
def dr (f : Fm) (n : Nat) (many : Int) : PM Int := fun s => match f [.obj n, .d (.int many)] s with
  | some (.w (.d (.int v)), s') => some (v, s')
  | _ => none
theorem tf_dr (f : Fm) (n : Nat) (many : Int) : TF f [.obj n, .d (.int many)] (dr f n many) (.D (dW eI)) := fun s a s' h => by
  unfold dr at h
  split at h
  · rename_i v s1 e
    cases h
    exact ⟨_, e, rfl⟩
  · cases h
/-! defs -/
theorem tf_R {f : M Out} {n : Nat} {ws : List Wv} {Γ : En} {t : PM (Fl τ l ρ)} (hw : Wk (ws.map (fun w => some (.w w)) ++ List.replicate (n - ws.length) (some .un)) Γ) (h : TS f Γ t G L sh) : TF (runF n f) ws (fnR t) sh := fun s a s' ht => by
  obtain ⟨o, s1, e1, ht⟩ := pm_bind ht
  have m0 : Mt (ws.map (fun w => some (Sl.w w)) ++ List.replicate (n - ws.length) (some .un)) (ws.map Sl.w ++ List.replicate (n - ws.length) Sl.un) := by
    refine ⟨by simp, fun i c e => ?_⟩
    have : (ws.map Sl.w ++ List.replicate (n - ws.length) Sl.un).map some = ws.map (fun w => some (Sl.w w)) ++ List.replicate (n - ws.length) (some .un) := by
      rw [List.map_append, List.map_map, List.map_replicate]; rfl
    rw [← this, List.getElem?_map] at e
    cases q : (ws.map Sl.w ++ List.replicate (n - ws.length) Sl.un)[i]? with
    | none => rw [q] at e; cases e
    | some x => rw [q] at e; cases e; rfl
  have q := h _ s o s1 (hw.mt m0) e1
  cases o with
  | rt b =>
    obtain ⟨v, r1, v', k1, k2, k3⟩ := q
    obtain ⟨rfl, rfl⟩ := pm_pure ht
    exact ⟨v', runF_ret k1 k2, k3⟩
  | _ => cases ht
theorem tf_N {f : M Out} {n : Nat} {ws : List Wv} {Γ : En} {t : PM (Fl τ l Unit)} {sh : Sh Unit} (hw : Wk (ws.map (fun w => some (.w w)) ++ List.replicate (n - ws.length) (some .un)) Γ) (h : TS f Γ t G L sh) : TF (runF n f) ws (fnN t) (.D (dW eN)) := fun s a s' ht => by
  obtain ⟨o, s1, e1, ht⟩ := pm_bind ht
  have m0 : Mt (ws.map (fun w => some (Sl.w w)) ++ List.replicate (n - ws.length) (some .un)) (ws.map Sl.w ++ List.replicate (n - ws.length) Sl.un) := by
    refine ⟨by simp, fun i c e => ?_⟩
    have : (ws.map Sl.w ++ List.replicate (n - ws.length) Sl.un).map some = ws.map (fun w => some (Sl.w w)) ++ List.replicate (n - ws.length) (some .un) := by
      rw [List.map_append, List.map_map, List.map_replicate]; rfl
    rw [← this, List.getElem?_map] at e
    cases q : (ws.map Sl.w ++ List.replicate (n - ws.length) Sl.un)[i]? with
    | none => rw [q] at e; cases e
    | some x => rw [q] at e; cases e; rfl
  have q := h _ s o s1 (hw.mt m0) e1
  cases o with
  | nx b =>
    obtain ⟨r1, k1, k2⟩ := q
    obtain ⟨rfl, rfl⟩ := pm_pure ht
    refine ⟨ad .none, ?_, rfl⟩
    unfold runF
    rw [k1]
  | _ => cases ht
end
end Tz
set_option Elab.async false
set_option linter.all false
set_option maxRecDepth 100000
/-! T5: further encodings and rules for the printed typed texts. -/
namespace Tz
open PySem Mi
section
variable {α β γ δ ι κ τ τ' ρ l : Type} {m m1 m2 m3 : M Rv} {Γ : En}
abbrev cD (ek : κ → PyData) (ev : β → PyData) : List (κ × β) → Wv := fun m => .c (oD ek ev m)
abbrev rawW (v : L2.V) : Unit → Wv := fun _ => .raw v
abbrev roI : List Int → Wv := fun xs => .ro (xs.map eI)
def isNone : PyData → Bool
  | .none => true
  | _ => false
def eO (e : α → PyData) : Option α → PyData
  | none => .none
  | some a => e a
theorem EqE.opt [DecidableEq α] {e : α → PyData} {n : Nat} (E : EqE e n) (h : ∀ a, isNone (e a) = false := by exact fun _ => rfl) : EqE (eO e) n := ⟨fun a b => by
    cases a with
    | none =>
      cases b with
      | none => rfl
      | some b =>
        show PyData.eqv .none (e b) = _
        have := h b
        cases q : e b <;> rw [q] at this <;> first | rfl | cases this
    | some a =>
      cases b with
      | none =>
        show PyData.eqv (e a) .none = _
        have := h a
        cases q : e a <;> rw [q] at this <;> first | rfl | cases this
      | some b =>
        show PyData.eqv (e a) (e b) = _
        rw [E.eq]
        by_cases z : a = b <;> simp [z], fun a => by
    cases a with
    | none => show PyData.depth .none ≤ n; rw [PyData.depth]; exact Nat.zero_le _
    | some a => exact E.dep a⟩
theorem te_cast {e : α → PyData} {e' : β → PyData} {t : PM α} (f : α → β) (h : TE m Γ t (.D (dW e))) (k : ∀ a, e a = e' (f a)) : TE m Γ (t >>= fun a => pure (f a)) (.D (dW e')) := fun r s q s' hm ht => by
  obtain ⟨a, s1, e1, ht⟩ := pm_bind ht
  obtain ⟨rfl, rfl⟩ := pm_pure ht
  obtain ⟨v1, r1, k1, hm1, l1⟩ := h r s a s' hm e1
  cases l1
  exact ⟨_, r1, k1, hm1, by rw [show dW e a = dW e' (f a) from congrArg Wv.d (k a)]; rfl⟩
theorem cast_T {e : α → PyData} {e' : β → PyData} {f : α → β} (k : ∀ a, e a = e' (f a)) : ∀ xs : List α, eT e xs = eT e' (xs.map f) := fun xs => by
  show PyData.tuple _ = PyData.tuple _
  rw [List.map_map]
  congr 2
  funext a
  exact k a
theorem te_ixP {sh : Sh α} {t : PM α} {e : β → PyData} {k : Int} (f : α → β) (h : TE m Γ t sh) (hk : ∀ a, ∃ ds, sh.cn a = some (.d (.tuple ds)) ∧ L2.atI ds k = some (e (f a))) : TE (gM gIx [m, kd (.int k)]) Γ (t >>= fun a => pure (f a)) (.D (dW e)) := by
  have := te_g2 (g2_alt ixC dgC) (sh := .D (dW e)) (fun a (b : Int) => gd (decide (b = k)) (f a)) h (te_kd (Γ := Γ) (a := k) (e := eI)) fun a b s c s' q0 => by
    obtain ⟨q, rfl, rfl⟩ := pm_gd q0
    have q := of_decide_eq_true q
    subst q
    obtain ⟨ds, k1, k2⟩ := hk a
    refine ⟨rfl, _, _, ad (e (f a)), k1, rfl, ?_, rfl⟩
    show ((L2.atI ds b).map ad).or _ = _
    rw [k2]
    rfl
  have e1 : (t >>= fun a => (pure k : PM Int) >>= fun b => gd (decide (b = k)) (f a)) = t >>= fun a => pure (f a) := by
    congr 1
    funext a
    show gd (decide (k = k)) (f a) = _
    rw [decide_eq_true rfl]
    rfl
  rw [e1] at this
  exact this
theorem isi_T {T : String} {b : Bool} {e : α → PyData} (h : isiC T (.d (.tuple [])) = some (bl b)) (xs : List α) : isiC T (.d (.tuple (xs.map e))) = some (bl b) := by
  cases xs with
  | nil => exact h
  | cons x xs => exact h
theorem tt_q {sh : Sh (List α)} {e : α → PyData} {t : PM (List α)} (h : TE m Γ t sh) (k : Sq sh e) : TT (truM m) Γ (t >>= fun a => pure (!a.isEmpty)) :=
  tt_tru _ h fun a => by
    have hz : (a.map e).isEmpty = a.isEmpty := by cases a <;> rfl
    rcases k with k | k
    · exact ⟨_, k a, by show some (!(a.map e).isEmpty) = _; rw [hz]⟩
    · exact ⟨_, k a, by show some (!(a.map e).isEmpty) = _; rw [hz]⟩
abbrev rdO (cs : List Int) (sp re c : Int) : OD := .dic [(.str (PySem.Str.ofString "cells"), .list (cs.map PyData.int)), (.str (PySem.Str.ofString "spot"), .int sp), (.str (PySem.Str.ofString "rest"), .int re), (.str (PySem.Str.ofString "calls"), .int c)]
abbrev oR : List Int × Int × Int × Int → OD := fun q => rdO q.1 q.2.1 q.2.2.1 q.2.2.2
theorem te_dd {ks : List Str} {ms : List (M Rv)} {t : PM τ} {ws : τ → List Wv} {o : α → OD} (f : τ → α) (h : TW ms Γ t ws) (k : ∀ p, ∃ ds, ws p = ds.map Wv.d ∧ OD.dic (mrgD [] (ks.zip ds)) = o (f p)) : TE (ddM ks ms) Γ (t >>= fun p => pure (f p)) (.F o) := fun r s q s' hm ht => by
  obtain ⟨p, s1, e1, ht⟩ := pm_bind ht
  obtain ⟨rfl, rfl⟩ := pm_pure ht
  obtain ⟨r1, k1, m1⟩ := h r s p s' hm e1
  obtain ⟨ds, q1, q2⟩ := k p
  refine ⟨_, r1, ?_, m1, rfl⟩
  rw [q1] at k1
  unfold ddM
  rw [b_ok k1, b_ok (restDs_w ds r1 s')]
  show Rs.ok (Rv.fr (OD.dic (mrgD [] (ks.zip ds)))) r1 s' = _
  rw [q2]
end
end Tz
set_option Elab.async false
set_option linter.all false
set_option maxRecDepth 100000
/-! T6: reasoning on typed texts. -/
namespace Tz
open PySem Mi
section
variable {α β γ δ ι κ τ τ' ρ l : Type}
/-- the reader stands well, at most k draws were made -/
def Rdr (k : Nat) (s : Sto) : Prop := ∃ cs sp re c, s = [rdO cs sp re c] ∧ 0 ≤ sp ∧ 0 ≤ re ∧ 0 ≤ c ∧ c ≤ (k : Int)
theorem Rdr.up {n m : Nat} {s : Sto} (h : Rdr n s) (l : n ≤ m) : Rdr m s := by
  obtain ⟨cs, sp, re, c, e, h1, h2, h3, h4⟩ := h
  exact ⟨cs, sp, re, c, e, h1, h2, h3, by omega⟩
/-- at most n draws, then Q -/
def WP (t : PM α) (n : Nat) (Q : α → Prop) : Prop := ∀ k s, Rdr k s → k + n ≤ 1000000 → ∃ a s', t s = some (a, s') ∧ Rdr (k + n) s' ∧ Q a
theorem wp_pure {a : α} {n : Nat} {Q : α → Prop} (h : Q a) : WP (pure a) n Q := fun k s r _ => ⟨a, s, rfl, r.up (by omega), h⟩
theorem wp_mono {t : PM α} {n m : Nat} {Q R : α → Prop} (h : WP t n Q) (l : n ≤ m) (k : ∀ a, Q a → R a) : WP t m R := fun j s r z => by
  obtain ⟨a, s', e, r', q⟩ := h j s r (by omega)
  exact ⟨a, s', e, r'.up (by omega), k a q⟩
theorem wp_imp {t : PM α} {n : Nat} {Q R : α → Prop} (h : WP t n Q) (k : ∀ a, Q a → R a) : WP t n R := wp_mono h (Nat.le_refl _) k
theorem wp_up {t : PM α} {n m : Nat} {Q : α → Prop} (h : WP t n Q) (l : n ≤ m) : WP t m Q := wp_mono h l fun _ q => q
theorem wp_bind {t : PM α} {f : α → PM β} {N : Nat} {Q : β → Prop} (n m : Nat) (l : n + m ≤ N) (h : WP t n fun a => WP (f a) m Q) : WP (t >>= f) N Q := fun k s r z => by
  obtain ⟨a, s1, e1, r1, q⟩ := h k s r (by omega)
  obtain ⟨b, s2, e2, r2, q2⟩ := q (k + n) s1 r1 (by omega)
  refine ⟨b, s2, ?_, r2.up (by omega), q2⟩
  show Option.bind (t s) (fun p => f p.1 p.2) = _
  rw [e1]
  exact e2
theorem wp_eq {t u : PM α} {n : Nat} {Q : α → Prop} (e : t = u) (h : WP u n Q) : WP t n Q := e ▸ h
theorem wp_gd {b : Bool} {x : α} {n : Nat} {Q : α → Prop} (hb : b = true) (h : Q x) : WP (gd b x) n Q := wp_eq (gd_of hb) (wp_pure h)
theorem wp_op {o : Option α} {x : α} {n : Nat} {Q : α → Prop} (hb : o = some x) (h : Q x) : WP (op o) n Q := wp_eq (op_of hb) (wp_pure h)
theorem wp_pIf {c : PM Bool} {a b : PM α} {N : Nat} {Q : α → Prop} (n m : Nat) (l : n + m ≤ N) (h : WP c n fun k => if k = true then WP a m Q else WP b m Q) : WP (pIf c a b) N Q :=
  wp_bind n m l (wp_imp h fun k q => by cases k <;> exact q)
theorem wp_sq {t : PM (Fl τ l ρ)} {k : τ → PM (Fl τ' l ρ)} {N : Nat} {Q : Fl τ' l ρ → Prop} (n m : Nat) (z : n + m ≤ N) (h : WP t n fun o => WP (Fl.go k o) m Q) : WP (sq t k) N Q := wp_bind n m z h
theorem wp_fnR {t : PM (Fl τ l ρ)} {n : Nat} {Q : ρ → Prop} (h : WP t n fun o => ∃ b, o = .rt b ∧ Q b) : WP (fnR t) n Q :=
  wp_bind n 0 (Nat.le_refl _) (wp_imp h fun o ⟨b, e, q⟩ => by subst e; exact wp_pure q)
theorem wp_fnN {t : PM (Fl τ l Unit)} {n : Nat} (h : WP t n fun o => ∃ b, o = .nx b) : WP (fnN t) n fun _ => True :=
  wp_bind n 0 (Nat.le_refl _) (wp_imp h fun o ⟨b, e⟩ => by subst e; exact wp_pure trivial)
/-- what a draw keeps -/
def DrOk (f : Fm) : Prop := ∀ (many : Int) (k : Nat) (s : Sto), 0 < many → many < 1073741824 → Rdr k s → k + 1 ≤ 1000000 → ∃ v s', 0 ≤ v ∧ v < many ∧ f [.obj 0, .d (.int many)] s = some (ad (.int v), s') ∧ Rdr (k + 1) s'
theorem wp_dr {f : Fm} (hf : DrOk f) {many : Int} {Q : Int → Prop} (h1 : 0 < many) (h2 : many < 1073741824) (h : ∀ v, 0 ≤ v → v < many → Q v) : WP (dr f 0 many) 1 Q := fun k s r z => by
  obtain ⟨v, s', a1, a2, e, r'⟩ := hf many k s h1 h2 r z
  refine ⟨v, s', ?_, r', h v a1 a2⟩
  unfold dr
  rw [e]
  rfl
/-! comprehensions -/
theorem cpL_eq {tp : ι → PM Bool} {tg : ι → PM β} (p : ι → Bool) (g : ι → β) : ∀ (xs : List ι) (acc : List β), acc.length + xs.length ≤ sizeLine → (∀ x ∈ xs, tp x = pure (p x)) → (∀ x ∈ xs, p x = true → tg x = pure (g x)) → cpL tp tg xs acc = pure (acc ++ (xs.filter p).map g)
  | [], acc, _, _, _ => by unfold cpL; rw [List.filter_nil, List.map_nil, List.append_nil]
  | x :: xs, acc, hz, hp, hg => by
    rw [List.length_cons] at hz
    unfold cpL
    rw [hp x List.mem_cons_self, pure_bind]
    have ih := fun acc h => cpL_eq p g xs acc h (fun y hy => hp y (List.mem_cons_of_mem _ hy)) (fun y hy => hg y (List.mem_cons_of_mem _ hy))
    cases q : p x with
    | false =>
      rw [if_neg (by decide), List.filter_cons_of_neg (by rw [q]; decide)]
      exact ih acc (by omega)
    | true =>
      rw [if_pos rfl, hg x List.mem_cons_self q, pure_bind, gd_of (decide_eq_true (by omega)), pure_bind, List.filter_cons_of_pos q, List.map_cons]
      rw [ih _ (by rw [List.length_append, List.length_singleton]; omega), List.append_assoc]
      rfl
theorem cp_eq {tp : ι → PM Bool} {tg : ι → PM β} {xs : List ι} (p : ι → Bool) (g : ι → β) (hz : xs.length ≤ sizeLine) (hp : ∀ x ∈ xs, tp x = pure (p x)) (hg : ∀ x ∈ xs, p x = true → tg x = pure (g x)) : cp tp tg xs = pure ((xs.filter p).map g) := by
  unfold cp
  rw [cpL_eq p g xs [] (by simpa using hz) hp hg, List.nil_append]
theorem cp_map {tg : ι → PM β} {xs : List ι} (g : ι → β) (hz : xs.length ≤ sizeLine) (hg : ∀ x ∈ xs, tg x = pure (g x)) : cp (fun _ => pure true) tg xs = pure (xs.map g) := by
  rw [cp_eq (fun _ => true) g hz (fun _ _ => rfl) fun x hx _ => hg x hx, List.filter_eq_self.mpr fun _ _ => rfl]
theorem cp_fil {tp : ι → PM Bool} {xs : List ι} (p : ι → Bool) (hz : xs.length ≤ sizeLine) (hp : ∀ x ∈ xs, tp x = pure (p x)) : cp tp (fun x => pure x) xs = pure (xs.filter p) := by
  rw [cp_eq p (fun x => x) hz hp fun _ _ _ => rfl, List.map_id']
theorem wp_cpL {tg : ι → PM β} {m : Nat} {Q : β → Prop} : ∀ (xs : List ι) (acc : List β), acc.length + xs.length ≤ sizeLine → (∀ x ∈ xs, WP (tg x) m Q) → (∀ y ∈ acc, Q y) → WP (cpL (fun _ => pure true) tg xs acc) (xs.length * m) fun ys => ys.length = acc.length + xs.length ∧ ∀ y ∈ ys, Q y
  | [], acc, _, _, ha => by unfold cpL; exact wp_pure ⟨by simp, ha⟩
  | x :: xs, acc, hz, hg, ha => by
    rw [List.length_cons] at hz
    unfold cpL
    refine wp_eq (pure_bind _ _) ?_
    rw [if_pos rfl]
    refine wp_bind m (xs.length * m) (by rw [List.length_cons, Nat.succ_mul]; omega) (wp_imp (hg x List.mem_cons_self) fun y hy => ?_)
    rw [gd_of (decide_eq_true (by omega)), pure_bind]
    refine wp_imp (wp_cpL xs (acc ++ [y]) (by rw [List.length_append, List.length_singleton]; omega) (fun z hz => hg z (List.mem_cons_of_mem _ hz)) ?_) fun ys ⟨h1, h2⟩ => ⟨by rw [h1, List.length_append, List.length_singleton, List.length_cons]; omega, h2⟩
    intro z hz
    rcases List.mem_append.mp hz with h | h
    · exact ha z h
    · rw [List.mem_singleton.mp h]; exact hy
theorem wp_cp {tg : ι → PM β} {m : Nat} {Q : β → Prop} {xs : List ι} (hz : xs.length ≤ sizeLine) (hg : ∀ x ∈ xs, WP (tg x) m Q) : WP (cp (fun _ => pure true) tg xs) (xs.length * m) fun ys => ys.length = xs.length ∧ ∀ y ∈ ys, Q y :=
  wp_imp (wp_cpL xs [] (by simpa using hz) hg (by intro y hy; cases hy)) fun ys ⟨h1, h2⟩ => ⟨by simpa using h1, h2⟩
theorem wp_filL {tp : ι → PM Bool} {m : Nat} : ∀ (xs acc : List ι), acc.length + xs.length ≤ sizeLine → (∀ x ∈ xs, WP (tp x) m fun _ => True) → WP (cpL tp (fun x => pure x) xs acc) (xs.length * m) fun ys => ∃ zs, ys = acc ++ zs ∧ zs.Sublist xs
  | [], acc, _, _ => by unfold cpL; exact wp_pure ⟨[], by simp, List.Sublist.refl _⟩
  | x :: xs, acc, hz, hg => by
    rw [List.length_cons] at hz
    unfold cpL
    refine wp_bind m (xs.length * m) (by rw [List.length_cons, Nat.succ_mul]; omega) (wp_imp (hg x List.mem_cons_self) fun k _ => ?_)
    have tl : ∀ z ∈ xs, WP (tp z) m fun _ => True := fun z hz => hg z (List.mem_cons_of_mem _ hz)
    cases k with
    | false =>
      rw [if_neg (by decide)]
      exact wp_imp (wp_filL xs acc (by omega) tl) fun ys ⟨zs, e, h⟩ => ⟨zs, e, h.cons x⟩
    | true =>
      rw [if_pos rfl, pure_bind, gd_of (decide_eq_true (by omega)), pure_bind]
      exact wp_imp (wp_filL xs (acc ++ [x]) (by rw [List.length_append, List.length_singleton]; omega) tl) fun ys ⟨zs, e, h⟩ => ⟨x :: zs, by rw [e, List.append_assoc]; rfl, h.cons₂ x⟩
theorem wp_fil {tp : ι → PM Bool} {m : Nat} {xs : List ι} (hz : xs.length ≤ sizeLine) (hg : ∀ x ∈ xs, WP (tp x) m fun _ => True) : WP (cp tp (fun x => pure x) xs) (xs.length * m) fun ys => ys.Sublist xs :=
  wp_imp (wp_filL xs [] (by simpa using hz) hg) fun ys ⟨zs, e, h⟩ => by rw [e, List.nil_append]; exact h
/-! dicts -/
theorem pt_new [DecidableEq κ] {m : List (κ × β)} {k : κ} {v : β} (h : ∀ p ∈ m, p.1 ≠ k) : pt m k v = m ++ [(k, v)] := by
  unfold pt
  rw [if_neg]
  intro z
  rw [List.any_eq_true] at z
  obtain ⟨p, hp, e⟩ := z
  exact h p hp (of_decide_eq_true e)
theorem dpL_map [DecidableEq κ] {tk : ι → PM κ} {tv : ι → PM β} (k : ι → κ) (v : ι → β) : ∀ (xs : List ι) (acc : List (κ × β)), acc.length + xs.length ≤ sizeLine → (∀ x ∈ xs, tk x = pure (k x)) → (∀ x ∈ xs, tv x = pure (v x)) → (xs.map k).Nodup → (∀ p ∈ acc, ∀ x ∈ xs, p.1 ≠ k x) → dpL (fun _ => pure true) tk tv xs acc = pure (acc ++ xs.map fun x => (k x, v x))
  | [], acc, _, _, _, _, _ => by unfold dpL; rw [List.map_nil, List.append_nil]
  | x :: xs, acc, hz, hk, hv, hn, ha => by
    rw [List.length_cons] at hz
    rw [List.map_cons, List.nodup_cons] at hn
    unfold dpL
    rw [pure_bind, if_pos rfl, hk x List.mem_cons_self, pure_bind, hv x List.mem_cons_self, pure_bind, gd_of (decide_eq_true (by omega)), pure_bind, pt_new fun p hp => ha p hp x List.mem_cons_self]
    rw [dpL_map k v xs _ (by rw [List.length_append, List.length_singleton]; omega) (fun y hy => hk y (List.mem_cons_of_mem _ hy)) (fun y hy => hv y (List.mem_cons_of_mem _ hy)) hn.2, List.append_assoc]
    · rfl
    · intro p hp y hy
      rcases List.mem_append.mp hp with h | h
      · exact ha p h y (List.mem_cons_of_mem _ hy)
      · rw [List.mem_singleton.mp h]
        intro e
        exact hn.1 (by rw [show k x = k y from e]; exact List.mem_map.mpr ⟨y, hy, rfl⟩)
theorem dp_map [DecidableEq κ] {tk : ι → PM κ} {tv : ι → PM β} {xs : List ι} (k : ι → κ) (v : ι → β) (hz : xs.length ≤ sizeLine) (hk : ∀ x ∈ xs, tk x = pure (k x)) (hv : ∀ x ∈ xs, tv x = pure (v x)) (hn : (xs.map k).Nodup) : dp (fun _ => pure true) tk tv xs = pure (xs.map fun x => (k x, v x)) := by
  unfold dp
  rw [dpL_map k v xs [] (by simpa using hz) hk hv hn (fun p hp => by cases hp), List.nil_append]
theorem lk_map [DecidableEq κ] {f : ι → κ} {g : ι → β} : ∀ {xs : List ι} {x : ι}, (xs.map f).Nodup → x ∈ xs → lk (xs.map fun x => (f x, g x)) (f x) = some (g x)
  | y :: xs, x, hn, hx => by
    rw [List.map_cons, List.nodup_cons] at hn
    unfold lk
    rw [List.map_cons]
    by_cases h : f y = f x
    · rw [List.find?_cons_of_pos (by exact decide_eq_true h)]
      have : y = x := by
        rcases List.mem_cons.mp hx with z | z
        · exact z.symm
        · exact absurd (List.mem_map.mpr ⟨x, z, h.symm⟩) hn.1
      rw [this]
      rfl
    · rw [List.find?_cons_of_neg (by simpa using h)]
      rcases List.mem_cons.mp hx with z | z
      · exact absurd (by rw [z]) h
      · exact lk_map hn.2 z
theorem lk_some [DecidableEq κ] {f : ι → κ} {g : ι → β} {k : κ} : ∀ {xs : List ι}, (lk (xs.map fun x => (f x, g x)) k).isSome = decide (k ∈ xs.map f)
  | [] => by simp [lk]
  | y :: xs => by
    have ih := lk_some (f := f) (g := g) (k := k) (xs := xs)
    unfold lk at ih ⊢
    rw [List.map_cons]
    by_cases h : f y = k
    · rw [List.find?_cons_of_pos (by exact decide_eq_true h)]
      simp [h]
    · rw [List.find?_cons_of_neg (by simpa using h), ih]
      simp [Ne.symm h]
/-! loops -/
theorem wp_for {tb : ι → τ → PM (Fl τ τ ρ)} {m : Nat} (I : List ι → τ → Prop) {R : Fl τ l ρ → Prop} (hend : ∀ a, I [] a → R (.nx a)) (step : ∀ x xs a, I (x :: xs) a → WP (tb x a) m fun o => match o with
    | .nx b => I xs b
    | .ct b => I xs b
    | .bk b => R (.nx b)
    | .rt v => R (.rt v)) : ∀ (xs : List ι) (a : τ), I xs a → WP (forF tb xs a) (xs.length * m) R
  | [], a, h => by unfold forF; exact wp_pure (hend a h)
  | x :: xs, a, h => by
    unfold forF
    refine wp_bind m (xs.length * m) (by rw [List.length_cons, Nat.succ_mul]; omega) (wp_imp (step x xs a h) fun o q => ?_)
    cases o with
    | nx b => exact wp_for I hend step xs b q
    | ct b => exact wp_for I hend step xs b q
    | bk b => exact wp_pure q
    | rt b => exact wp_pure q
/-- a loop that only goes on -/
theorem wp_forU {tb : ι → Unit → PM (Fl Unit Unit ρ)} {m : Nat} {xs : List ι} (h : ∀ x ∈ xs, WP (tb x ()) m fun o => o = .nx ()) : WP (forF tb xs () : PM (Fl Unit l ρ)) (xs.length * m) fun o => o = .nx () :=
  wp_for (I := fun ys _ => ∀ y ∈ ys, y ∈ xs) (fun _ _ => rfl) (fun x ys a hs => wp_imp (h x (hs x List.mem_cons_self)) fun o e => by
    subst e
    exact fun y hy => hs y (List.mem_cons_of_mem _ hy)) xs () fun y hy => hy
theorem forF_nx {tb : ι → τ → PM (Fl τ τ ρ)} (f : ι → τ → τ) : ∀ (xs : List ι) (a : τ), (∀ x ∈ xs, ∀ a, tb x a = pure (.nx (f x a))) → (forF tb xs a : PM (Fl τ l ρ)) = pure (.nx (xs.foldl (fun a x => f x a) a))
  | [], a, _ => rfl
  | x :: xs, a, h => by
    unfold forF
    rw [h x List.mem_cons_self, pure_bind]
    exact forF_nx f xs _ fun y hy => h y (List.mem_cons_of_mem _ hy)
theorem forF_U {tb : ι → Unit → PM (Fl Unit Unit ρ)} {xs : List ι} (h : ∀ x ∈ xs, tb x () = pure (.nx ())) : (forF tb xs () : PM (Fl Unit l ρ)) = pure (.nx ()) := by
  rw [forF_nx (fun _ _ => ()) xs () fun x hx a => h x hx]
/-! sorted lists -/
theorem sr_perm (e : α → PyData) (xs : List α) : (sr e xs).Perm xs := List.mergeSort_perm xs _
theorem mem_sr {e : α → PyData} {xs : List α} {x : α} : x ∈ sr e xs ↔ x ∈ xs := (sr_perm e xs).mem_iff
theorem sr_len (e : α → PyData) (xs : List α) : (sr e xs).length = xs.length := (sr_perm e xs).length_eq
theorem sr_nodup {e : α → PyData} {xs : List α} (h : xs.Nodup) : (sr e xs).Nodup := (sr_perm e xs).nodup_iff.mpr h
def TkI (e : α → PyData) : Prop := ∀ a b, tk (e a) = tk (e b) → a = b
theorem tki_s : TkI eS := fun _ _ h => str_inj h
theorem tki_t : TkI (eT eS) := fun x y h => by
  have h' : W.keyToks (.tuple (sD x)) = W.keyToks (.tuple (sD y)) := h
  rw [W.keyToks, W.keyToks] at h'
  exact ka_s x y h'
theorem sr_le (e : α → PyData) (xs : List α) : (sr e xs).Pairwise fun a b => dle (e a) (e b) = true := by
  refine List.pairwise_mergeSort (fun a b c h1 h2 => ?_) (fun a b => ?_) xs
  · exact dle_trans _ _ _ h1 h2
  · exact dle_total _ _
theorem sr_lt {e : α → PyData} (he : TkI e) {xs : List α} (h : xs.Nodup) : (sr e xs).Pairwise fun a b => W.dataLt (e a) (e b) = true := by
  have h2 : (sr e xs).Pairwise fun a b => a ≠ b ∧ dle (e a) (e b) = true := List.Pairwise.and (sr_nodup h) (sr_le e xs)
  refine h2.imp fun {a b} ⟨n, l⟩ => ?_
  rw [dlt_def]
  cases q : kO.blt (tk (e a)) (tk (e b)) with
  | true => rfl
  | false =>
    exfalso
    apply n
    apply he
    exact dle_anti l (by rw [dle_def, q]; rfl)
theorem sr_id {e : α → PyData} {xs : List α} (h : xs.Pairwise fun a b => W.dataLt (e a) (e b) = true) : sr e xs = xs := by
  refine List.mergeSort_of_pairwise (h.imp fun {a b} l => ?_)
  show dle (e a) (e b) = true
  rw [dle_def]
  rw [dlt_def] at l
  cases q : kO.blt (tk (e b)) (tk (e a)) with
  | false => rfl
  | true => have := kO.trans _ _ _ l q; rw [kO.irrefl] at this; cases this
theorem lt_nodup {e : α → PyData} {xs : List α} (h : xs.Pairwise fun a b => W.dataLt (e a) (e b) = true) : xs.Nodup := h.imp fun {a b} l z => by
  subst z
  rw [dlt_def, kO.irrefl] at l
  cases l
/-- sorted lists without repeats are told by their members -/
theorem sr_same {e : α → PyData} (he : TkI e) {xs ys : List α} (h1 : xs.Nodup) (h2 : ys.Nodup) (hm : ∀ d, d ∈ xs ↔ d ∈ ys) : sr e xs = sr e ys := by
  have p : (sr e xs).Perm (sr e ys) := (sr_perm e xs).trans ((List.perm_ext_iff_of_nodup h1 h2).mpr hm |>.trans (sr_perm e ys).symm)
  refine p.eq_of_pairwise (le := fun a b => dle (e a) (e b) = true) ?_ (sr_le e xs) (sr_le e ys)
  intro a b _ _ h3 h4
  exact he _ _ (dle_anti h3 h4)
theorem lt_ext {e : α → PyData} (he : TkI e) {xs ys : List α} (h1 : xs.Pairwise fun a b => W.dataLt (e a) (e b) = true) (h2 : ys.Pairwise fun a b => W.dataLt (e a) (e b) = true) (hm : ∀ d, d ∈ xs ↔ d ∈ ys) : xs = ys := by
  rw [← sr_id h1, ← sr_id h2]
  exact sr_same he (lt_nodup h1) (lt_nodup h2) hm
theorem ixN_nn {n : Nat} {i : Int} (h : 0 ≤ i) (h2 : i < n) : L2.ixN n i = some i.toNat := by
  unfold L2.ixN
  rw [if_pos h, if_pos h2]
theorem atI_nn {xs : List α} {i : Int} (h : 0 ≤ i) (h2 : i < xs.length) : ∃ x, L2.atI xs i = some x ∧ x ∈ xs := by
  have hk : i.toNat < xs.length := by omega
  refine ⟨xs[i.toNat], ?_, List.getElem_mem hk⟩
  unfold L2.atI
  rw [ixN_nn h h2]
  exact List.getElem?_eq_getElem hk
theorem rgL_len (n : Int) : (rgL n).length = n.toNat := by unfold rgL; rw [List.length_map, List.length_range]
theorem mem_rgL {n i : Int} : i ∈ rgL n ↔ 0 ≤ i ∧ i < n := by
  unfold rgL
  rw [List.mem_map]
  constructor
  · rintro ⟨k, hk, rfl⟩
    have := List.mem_range.mp hk
    omega
  · rintro ⟨h1, h2⟩
    exact ⟨i.toNat, List.mem_range.mpr (by omega), by omega⟩
theorem size_t {n : Nat} (h : n ≤ 16777216) : size n = true := by
  unfold size
  exact decide_eq_true (by rw [PySem.sizeLine_eq]; omega)
end
end Tz
set_option Elab.async false
set_option linter.all false
set_option maxRecDepth 100000
/-! T7: slices, zips of neighbours. -/
namespace Tz
open PySem Mi L2
section
variable {α β : Type}
theorem six_nn {n d : Nat} {i : Int} (h : 0 ≤ i) : HT.sIx n d (some i) = min i.toNat n := by
  show (if i < 0 then (i + (n : Int)).toNat else min i.toNat n) = _
  rw [if_neg (by omega)]
theorem cut_take {xs : List α} {i : Int} (h : 0 ≤ i) : cutD xs none (some i) = xs.take i.toNat := by
  unfold cutD
  rw [six_nn h]
  show (xs.drop 0).take (min i.toNat xs.length - 0) = _
  rw [List.drop_zero, Nat.sub_zero]
  by_cases z : i.toNat ≤ xs.length
  · rw [Nat.min_eq_left z]
  · rw [Nat.min_eq_right (by omega), List.take_of_length_le (Nat.le_refl _), List.take_of_length_le (by omega)]
theorem cut_drop {xs : List α} {i : Int} (h : 0 ≤ i) : cutD xs (some i) none = xs.drop i.toNat := by
  unfold cutD
  rw [six_nn h]
  show (xs.drop (min i.toNat xs.length)).take (xs.length - min i.toNat xs.length) = _
  rw [List.take_of_length_le (by rw [List.length_drop]; omega)]
  by_cases z : i.toNat ≤ xs.length
  · rw [Nat.min_eq_left z]
  · rw [Nat.min_eq_right (by omega), List.drop_of_length_le (Nat.le_refl _), List.drop_of_length_le (by omega)]
theorem cut_last {xs : List α} : cutD xs none (some (-1)) = xs.dropLast := by
  unfold cutD
  show (xs.drop 0).take ((if (-1 : Int) < 0 then ((-1 : Int) + (xs.length : Int)).toNat else min (-1 : Int).toNat xs.length) - 0) = _
  rw [if_pos (by decide), List.drop_zero, Nat.sub_zero, List.dropLast_eq_take]
  congr 1
  omega
theorem atI_last {xs : List α} (h : xs ≠ []) : atI xs (-1) = some (xs.getLast h) := by
  have hp : 0 < xs.length := List.length_pos_iff.mpr h
  unfold atI ixN
  rw [if_neg (by decide), if_pos (by omega)]
  show xs[((-1 : Int) + (xs.length : Int)).toNat]? = _
  rw [List.getLast_eq_getElem, List.getElem?_eq_getElem (by omega)]
  congr 2
  omega
theorem atI_get' {xs : List α} {i : Int} (h : 0 ≤ i) : atI xs i = xs[i.toNat]? := by
  unfold atI
  by_cases z : i < xs.length
  · rw [Tz.ixN_nn h z]; rfl
  · unfold ixN
    rw [if_pos h, if_neg z, List.getElem?_eq_none (by omega)]
    rfl
/-- neighbours in order -/
theorem zip_tail {lt : α → α → Bool} : ∀ {xs : List α}, xs.Pairwise (fun a b => lt a b = true) → ∀ p ∈ xs.zip (xs.drop 1), lt p.1 p.2 = true
  | [], _, p, hp => by simp at hp
  | [x], _, p, hp => by simp at hp
  | x :: y :: xs, h, p, hp => by
    rw [List.pairwise_cons] at h
    have hp' : p ∈ (x, y) :: (y :: xs).zip ((y :: xs).drop 1) := by simpa using hp
    rcases List.mem_cons.mp hp' with e | e
    · rw [e]; exact h.1 y List.mem_cons_self
    · exact zip_tail h.2 p e
theorem all_id {xs : List α} {f : α → Bool} (h : ∀ x ∈ xs, f x = true) : ((xs.map f).all id) = true := by
  rw [List.all_map, List.all_eq_true]
  exact h
theorem wp_and {a b : PM Bool} {N : Nat} (n m : Nat) (l : n + m ≤ N) (h1 : WP a n fun k => k = true) (h2 : WP b m fun k => k = true) : WP (bAnd a b) N fun k => k = true :=
  wp_bind n m l (wp_imp h1 fun k e => by subst e; exact h2)
theorem wp_true {t : PM α} {n : Nat} {Q : α → Prop} (h : WP t n Q) : WP t n fun _ => True := wp_imp h fun _ _ => trivial
end
end Tz
set_option Elab.async false
set_option linter.all false
set_option maxRecDepth 100000
set_option maxHeartbeats 0
namespace Lw
open PySem PySem.Spec PyProof.Rows L2 Mi
def top (i : Nat) : Stmt := PySem.Challenge.pw_underheard_k05_whole_hearts.main.body.getD i (.Pass ⟨0, 0, 0, 0⟩)
abbrev FnP (K : PySem.W.Frag) (x : Str) (st : Stmt) (kws : List (Str × V)) (f : Addr) (fd : FuncData) : Prop := FunD K x x (defArgs st) (defBody st) (defScope st) [] kws f fd
abbrev s_needs_by : Stmt := top 7
abbrev s_need_names : Stmt := top 8
abbrev s_found_in : Stmt := top 9
abbrev s_finds_needs : Stmt := top 10
abbrev s_next_deeds : Stmt := top 11
abbrev s_grown : Stmt := top 12
abbrev s_heart_of : Stmt := top 13
abbrev s_is_meaning : Stmt := top 14
abbrev s_is_lettered : Stmt := top 18
abbrev s_is_name : Stmt := top 19
abbrev s_are_all : Stmt := top 20
abbrev s_rise : Stmt := top 21
abbrev s_is_set : Stmt := top 22
abbrev s_are_needs : Stmt := top 23
abbrev s_is_deed_row : Stmt := top 24
abbrev s_need_so : Stmt := top 26
abbrev s_lets_roll : Stmt := top 27
abbrev s__law_reader : Stmt := top 29
abbrev s__law_draw : Stmt := top 30
abbrev s__law_random_needs : Stmt := top 31
abbrev s__law_random_roll : Stmt := top 32
abbrev s__law_fixed_rolls : Stmt := top 33
abbrev s__law_deed_names : Stmt := top 34
abbrev s__law_random_subset : Stmt := top 35
abbrev s__law_wide_roll : Stmt := top 36
abbrev s__law_grow : Stmt := top 37
abbrev s__law_check_heart : Stmt := top 38
abbrev s__law_check_pair : Stmt := top 39
abbrev s__law_relax : Stmt := top 40
abbrev s_law : Stmt := top 41
structure Ds (K : PySem.W.Frag) (mg : Str → Option Value) where
  a_needs_by : Addr
  fd_needs_by : FuncData
  F_needs_by : FnP K "needs_by" s_needs_by [] a_needs_by fd_needs_by
  g_needs_by : mg "needs_by" = some (.ref a_needs_by)
  a_need_names : Addr
  fd_need_names : FuncData
  F_need_names : FnP K "need_names" s_need_names [] a_need_names fd_need_names
  g_need_names : mg "need_names" = some (.ref a_need_names)
  a_found_in : Addr
  fd_found_in : FuncData
  F_found_in : FnP K "found_in" s_found_in [] a_found_in fd_found_in
  g_found_in : mg "found_in" = some (.ref a_found_in)
  a_finds_needs : Addr
  fd_finds_needs : FuncData
  F_finds_needs : FnP K "finds_needs" s_finds_needs [] a_finds_needs fd_finds_needs
  g_finds_needs : mg "finds_needs" = some (.ref a_finds_needs)
  a_next_deeds : Addr
  fd_next_deeds : FuncData
  kw_next_deeds : List (Str × V)
  F_next_deeds : FnP K "next_deeds" s_next_deeds kw_next_deeds a_next_deeds fd_next_deeds
  g_next_deeds : mg "next_deeds" = some (.ref a_next_deeds)
  a_grown : Addr
  fd_grown : FuncData
  F_grown : FnP K "grown" s_grown [] a_grown fd_grown
  g_grown : mg "grown" = some (.ref a_grown)
  a_heart_of : Addr
  fd_heart_of : FuncData
  F_heart_of : FnP K "heart_of" s_heart_of [] a_heart_of fd_heart_of
  g_heart_of : mg "heart_of" = some (.ref a_heart_of)
  a_is_meaning : Addr
  fd_is_meaning : FuncData
  F_is_meaning : FnP K "is_meaning" s_is_meaning [] a_is_meaning fd_is_meaning
  g_is_meaning : mg "is_meaning" = some (.ref a_is_meaning)
  a_is_lettered : Addr
  fd_is_lettered : FuncData
  F_is_lettered : FnP K "is_lettered" s_is_lettered [] a_is_lettered fd_is_lettered
  g_is_lettered : mg "is_lettered" = some (.ref a_is_lettered)
  a_is_name : Addr
  fd_is_name : FuncData
  F_is_name : FnP K "is_name" s_is_name [] a_is_name fd_is_name
  g_is_name : mg "is_name" = some (.ref a_is_name)
  a_are_all : Addr
  fd_are_all : FuncData
  F_are_all : FnP K "are_all" s_are_all [] a_are_all fd_are_all
  g_are_all : mg "are_all" = some (.ref a_are_all)
  a_rise : Addr
  fd_rise : FuncData
  F_rise : FnP K "rise" s_rise [] a_rise fd_rise
  g_rise : mg "rise" = some (.ref a_rise)
  a_is_set : Addr
  fd_is_set : FuncData
  F_is_set : FnP K "is_set" s_is_set [] a_is_set fd_is_set
  g_is_set : mg "is_set" = some (.ref a_is_set)
  a_are_needs : Addr
  fd_are_needs : FuncData
  F_are_needs : FnP K "are_needs" s_are_needs [] a_are_needs fd_are_needs
  g_are_needs : mg "are_needs" = some (.ref a_are_needs)
  a_is_deed_row : Addr
  fd_is_deed_row : FuncData
  F_is_deed_row : FnP K "is_deed_row" s_is_deed_row [] a_is_deed_row fd_is_deed_row
  g_is_deed_row : mg "is_deed_row" = some (.ref a_is_deed_row)
  a_need_so : Addr
  fd_need_so : FuncData
  F_need_so : FnP K "need_so" s_need_so [] a_need_so fd_need_so
  g_need_so : mg "need_so" = some (.ref a_need_so)
  a_lets_roll : Addr
  fd_lets_roll : FuncData
  F_lets_roll : FnP K "lets_roll" s_lets_roll [] a_lets_roll fd_lets_roll
  g_lets_roll : mg "lets_roll" = some (.ref a_lets_roll)
  a__law_reader : Addr
  fd__law_reader : FuncData
  F__law_reader : FnP K "_law_reader" s__law_reader [] a__law_reader fd__law_reader
  g__law_reader : mg "_law_reader" = some (.ref a__law_reader)
  a__law_draw : Addr
  fd__law_draw : FuncData
  F__law_draw : FnP K "_law_draw" s__law_draw [] a__law_draw fd__law_draw
  g__law_draw : mg "_law_draw" = some (.ref a__law_draw)
  a__law_random_needs : Addr
  fd__law_random_needs : FuncData
  F__law_random_needs : FnP K "_law_random_needs" s__law_random_needs [] a__law_random_needs fd__law_random_needs
  g__law_random_needs : mg "_law_random_needs" = some (.ref a__law_random_needs)
  a__law_random_roll : Addr
  fd__law_random_roll : FuncData
  F__law_random_roll : FnP K "_law_random_roll" s__law_random_roll [] a__law_random_roll fd__law_random_roll
  g__law_random_roll : mg "_law_random_roll" = some (.ref a__law_random_roll)
  a__law_fixed_rolls : Addr
  fd__law_fixed_rolls : FuncData
  F__law_fixed_rolls : FnP K "_law_fixed_rolls" s__law_fixed_rolls [] a__law_fixed_rolls fd__law_fixed_rolls
  g__law_fixed_rolls : mg "_law_fixed_rolls" = some (.ref a__law_fixed_rolls)
  a__law_deed_names : Addr
  fd__law_deed_names : FuncData
  F__law_deed_names : FnP K "_law_deed_names" s__law_deed_names [] a__law_deed_names fd__law_deed_names
  g__law_deed_names : mg "_law_deed_names" = some (.ref a__law_deed_names)
  a__law_random_subset : Addr
  fd__law_random_subset : FuncData
  F__law_random_subset : FnP K "_law_random_subset" s__law_random_subset [] a__law_random_subset fd__law_random_subset
  g__law_random_subset : mg "_law_random_subset" = some (.ref a__law_random_subset)
  a__law_wide_roll : Addr
  fd__law_wide_roll : FuncData
  F__law_wide_roll : FnP K "_law_wide_roll" s__law_wide_roll [] a__law_wide_roll fd__law_wide_roll
  g__law_wide_roll : mg "_law_wide_roll" = some (.ref a__law_wide_roll)
  a__law_grow : Addr
  fd__law_grow : FuncData
  F__law_grow : FnP K "_law_grow" s__law_grow [] a__law_grow fd__law_grow
  g__law_grow : mg "_law_grow" = some (.ref a__law_grow)
  a__law_check_heart : Addr
  fd__law_check_heart : FuncData
  F__law_check_heart : FnP K "_law_check_heart" s__law_check_heart [] a__law_check_heart fd__law_check_heart
  g__law_check_heart : mg "_law_check_heart" = some (.ref a__law_check_heart)
  a__law_check_pair : Addr
  fd__law_check_pair : FuncData
  F__law_check_pair : FnP K "_law_check_pair" s__law_check_pair [] a__law_check_pair fd__law_check_pair
  g__law_check_pair : mg "_law_check_pair" = some (.ref a__law_check_pair)
  a__law_relax : Addr
  fd__law_relax : FuncData
  F__law_relax : FnP K "_law_relax" s__law_relax [] a__law_relax fd__law_relax
  g__law_relax : mg "_law_relax" = some (.ref a__law_relax)
  a_law : Addr
  fd_law : FuncData
  F_law : FnP K "law" s_law [] a_law fd_law
  g_law : mg "law" = some (.ref a_law)
  u_all : mg "all" = none
  u_any : mg "any" = none
  u_enumerate : mg "enumerate" = none
  u_int : mg "int" = none
  u_isinstance : mg "isinstance" = none
  u_len : mg "len" = none
  u_list : mg "list" = none
  u_range : mg "range" = none
  u_set : mg "set" = none
  u_sorted : mg "sorted" = none
  u_str : mg "str" = none
  u_tuple : mg "tuple" = none
  u_zip : mg "zip" = none
  t_LETTERS : Tok
  c_LETTERS : mg "LETTERS" = some (.str (PySem.Str.ofString "abcdefghijklmnopqrstuvwxyz") t_LETTERS)
  t_LONGEST_NAME : Tok
  c_LONGEST_NAME : mg "LONGEST_NAME" = some (.int 8 t_LONGEST_NAME)
section
variable {P : Program} {w : World} {K : PySem.W.Frag} {mg : Str → Option Value} {base : Heap}
theorem sc_needs_by : FnScope ["roll", "deed", "hand", "needs"] ["roll"] (defScope s_needs_by) := ⟨rfl, rfl, rfl, by decide +kernel, rfl, by decide +kernel, by decide +kernel⟩
def m_needs_by : M Out := (reM (dcM (wkM (rd 0)) [1, 2, 3] (.tp (.cons (.nm 1) (.cons (.nm 2) (.cons (.nm 3) .nil)))) (M.pure true) (rd 1) (rd 3)))
def r_needs_by : Fm := runF 4 (m_needs_by)
theorem b_needs_by (D : Ds K mg) : Binds K D.fd_needs_by ["roll"] [] := D.F_needs_by.bindsN fun _ _ _ _ _ _ us hl => match us, hl with | [_], _ => rfl
theorem ok_needs_by (D : Ds K mg) : FnOk P w K mg base CX0 1 D.a_needs_by D.fd_needs_by ["roll"] (spF P w K 1 (r_needs_by)) := by
  refine fnI D.F_needs_by sc_needs_by (m := m_needs_by) fun F cdv A outer s H E hK hF hr => ?_
  exact (by exact (pss_oneI (by exact (ps_reI (by exact (pe_dcI (by exact hK) (by exact hF) (own := [((PySem.Str.ofString "deed"), 1), ((PySem.Str.ofString "hand"), 2), ((PySem.Str.ofString "needs"), 3)]) (by rfl) (by exact sc_needs_by.nd) (by decide) (by exact (pi_wkI (by exact hK) (by exact (pe_nameI (pv 0))))) (blkOk_by (by kernel_rfl)) (fun s1 H1 C1 cl1 fp1 => by exact (by exact (pg_tpI (by rfl) (pgs_consI (by exact (pg_nmI (i := 1) (by exact sc_needs_by.nd) (by rfl) (by first | exact Or.inl rfl | exact Or.inr rfl))) (pgs_consI (by exact (pg_nmI (i := 2) (by exact sc_needs_by.nd) (by rfl) (by first | exact Or.inl rfl | exact Or.inr rfl))) (pgs_consI (by exact (pg_nmI (i := 3) (by exact sc_needs_by.nd) (by rfl) (by first | exact Or.inl rfl | exact Or.inr rfl))) pgs_nilI)))))) (fun s1 H1 C1 cl1 fp1 => by exact pts_ex0) (fun F1 hK1 hF1 s1 H1 C1 cl1 fp1 => by exact (by exact (pe_nameI (pv 1)))) (fun F1 hK1 hF1 s1 H1 C1 cl1 fp1 => by exact (by exact (pe_nameI (pv 3))))))))))
theorem sc_need_names : FnScope ["roll", "names", "known", "name"] ["roll", "names"] (defScope s_need_names) := ⟨rfl, rfl, rfl, by decide +kernel, rfl, by decide +kernel, by decide +kernel⟩
def m_need_names : M Out := (seqM (asM 2 (caM r_needs_by [] [(rd 0)]))
    (seqM (forM (wkM (rd 1)) (.nm 3)
    (ifS (truM (gM gNin [(rd 3), (rd 2)])) fail (M.pure .nx)))
    (reM (rd 2))))
def r_need_names : Fm := runF 4 (m_need_names)
theorem b_need_names (D : Ds K mg) : Binds K D.fd_need_names ["roll", "names"] [] := D.F_need_names.bindsN fun _ _ _ _ _ _ us hl => match us, hl with | [_, _], _ => rfl
theorem ok_need_names (D : Ds K mg) : FnOk P w K mg base CX0 2 D.a_need_names D.fd_need_names ["roll", "names"] (spF P w K 2 (r_need_names)) := by
  refine fnI D.F_need_names sc_need_names (m := m_need_names) fun F cdv A outer s H E hK hF hr => ?_
  exact (by exact (pss_consI (by exact (ps_asI (i := 2) (by exact sc_need_names.nd) (by rfl) (by first | exact Or.inl rfl | exact Or.inr rfl) (by exact (pe_caI (dvs := []) (dws := []) (by exact hK) (by exact ok_needs_by D) (by exact hr.mono (by omega)) (by rfl) (by exact D.g_needs_by) (by exact D.F_needs_by.kp) (by exact b_needs_by D) .nil (by exact Kst.nil) rfl (by exact (pa_consI (by exact (pe_nameI (pv 0))) pa_nilI rfl))))))
    (by exact (pss_consI (by exact (ps_forI (by exact hK) (by exact PassesOwn.never) (by rfl) (by exact (pi_wkI (by exact hK) (by exact (pe_nameI (pv 1))))) (by exact (pg_nmI (i := 3) (by exact sc_need_names.nd) (by rfl) (by first | exact Or.inl rfl | exact Or.inr rfl)))
    (by exact (pss_oneI (by exact (ps_ifI (by exact (pt_ninI (by exact hK) (by exact hu_of hr) (by exact (pe_nameI (pv 3))) (by exact (pe_nameI (pv 2))) rfl)) (by exact (pss_oneI ps_failI)) pss_nilI))))))
    (by exact (pss_oneI (by exact (ps_reI (by exact (pe_nameI (pv 2)))))))))))
theorem sc_found_in : FnScope ["needs", "deeds", "needed", "own"] ["needs", "deeds"] (defScope s_found_in) := ⟨rfl, rfl, rfl, by decide +kernel, rfl, by decide +kernel, by decide +kernel⟩
def m_found_in : M Out := (reM (gM (gOne (qunC fun bs => bs.any id)) [(lcM (wkM (rd 0)) [2] (.nm 2) (M.pure true) (gM (gOne (qunC fun bs => bs.all id)) [(lcM (wkM (rd 2)) [3] (.nm 3) (M.pure true) (gM gIn [(rd 3), (rd 1)]))]))]))
def r_found_in : Fm := runF 4 (m_found_in)
theorem b_found_in (D : Ds K mg) : Binds K D.fd_found_in ["needs", "deeds"] [] := D.F_found_in.bindsN fun _ _ _ _ _ _ us hl => match us, hl with | [_, _], _ => rfl
theorem ok_found_in (D : Ds K mg) : FnOk P w K mg base CX0 1 D.a_found_in D.fd_found_in ["needs", "deeds"] (spF P w K 2 (r_found_in)) := by
  refine fnI D.F_found_in sc_found_in (m := m_found_in) fun F cdv A outer s H E hK hF hr => ?_
  exact (by exact (pss_oneI (by exact (ps_reI (by exact (pe_anyI (by exact hK) (by rfl) (by rfl) (by exact D.u_any) (by exact (pe_lcI (by exact hK) (by exact hF) (own := [((PySem.Str.ofString "needed"), 2)]) (by rfl) (by exact sc_found_in.nd) (by decide) (by exact (pi_wkI (by exact hK) (by exact (pe_nameI (pv 0))))) (blkOk_by (by kernel_rfl)) (fun s1 H1 C1 cl1 fp1 => by exact (by exact (pg_nmI (i := 2) (by exact sc_found_in.nd) (by rfl) (by first | exact Or.inl rfl | exact Or.inr rfl)))) (fun s1 H1 C1 cl1 fp1 => by exact pts_ex0) (fun F1 hK1 hF1 s1 H1 C1 cl1 fp1 => by exact (by exact (pe_allI (by exact hK1) (by rfl) (by rfl) (by exact D.u_all) (by exact (pe_lcI (by exact hK1) (by exact hF1) (own := [((PySem.Str.ofString "own"), 3)]) (by rfl) (by exact sc_found_in.nd) (by decide) (by exact (pi_wkI (by exact hK1) (by exact (pe_nameI (pv 2))))) (blkOk_by (by kernel_rfl)) (fun s2 H2 C2 cl2 fp2 => by exact (by exact (pg_nmI (i := 3) (by exact sc_found_in.nd) (by rfl) (by first | exact Or.inl rfl | exact Or.inr rfl)))) (fun s2 H2 C2 cl2 fp2 => by exact pts_ex0) (fun F2 hK2 hF2 s2 H2 C2 cl2 fp2 => by exact (by exact (pe_inI (by exact hK2) (by exact hu_of hr) (by exact (pe_nameI (pv 3))) (by exact (pe_nameI (pv 1))) rfl))))))))))))))))
theorem sc_finds_needs : FnScope ["roll", "deeds", "deed", "known"] ["roll", "deeds", "deed"] (defScope s_finds_needs) := ⟨rfl, rfl, rfl, by decide +kernel, rfl, by decide +kernel, by decide +kernel⟩
def m_finds_needs : M Out := (seqM (asM 3 (caM r_need_names [] [(rd 0), (gM (gBin .add) [(rd 1), (tupM [(rd 2)])])]))
    (reM (caM r_found_in [] [(gM gIx [(rd 3), (rd 2)]), (rd 1)])))
def r_finds_needs : Fm := runF 4 (m_finds_needs)
theorem b_finds_needs (D : Ds K mg) : Binds K D.fd_finds_needs ["roll", "deeds", "deed"] [] := D.F_finds_needs.bindsN fun _ _ _ _ _ _ us hl => match us, hl with | [_, _, _], _ => rfl
theorem ok_finds_needs (D : Ds K mg) : FnOk P w K mg base CX0 3 D.a_finds_needs D.fd_finds_needs ["roll", "deeds", "deed"] (spF P w K 3 (r_finds_needs)) := by
  refine fnI D.F_finds_needs sc_finds_needs (m := m_finds_needs) fun F cdv A outer s H E hK hF hr => ?_
  exact (by exact (pss_consI (by exact (ps_asI (i := 3) (by exact sc_finds_needs.nd) (by rfl) (by first | exact Or.inl rfl | exact Or.inr rfl) (by exact (pe_caI (dvs := []) (dws := []) (by exact hK) (by exact ok_need_names D) (by exact hr.mono (by omega)) (by rfl) (by exact D.g_need_names) (by exact D.F_need_names.kp) (by exact b_need_names D) .nil (by exact Kst.nil) rfl (by exact (pa_consI (by exact (pe_nameI (pv 0))) (pa_consI (by exact (pe_bnI (by exact hK) .add (by decide) (by exact (pe_nameI (pv 1))) (by exact (pe_tupI (by exact (pa_consI (by exact (pe_nameI (pv 2))) pa_nilI rfl)))))) pa_nilI rfl) rfl))))))
    (by exact (pss_oneI (by exact (ps_reI (by exact (pe_caI (dvs := []) (dws := []) (by exact hK) (by exact ok_found_in D) (by exact hr.mono (by omega)) (by rfl) (by exact D.g_found_in) (by exact D.F_found_in.kp) (by exact b_found_in D) .nil (by exact Kst.nil) rfl (by exact (pa_consI (by exact (pe_ixI (by exact hK) (by exact hu1_of hr) (by exact (pe_nameI (pv 3))) (by exact (pe_nameI (pv 2))) (fun _ _ => rfl))) (pa_consI (by exact (pe_nameI (pv 1))) pa_nilI rfl) rfl))))))))))
theorem sc_next_deeds : FnScope ["roll", "deeds", "ahead", "known", "own"] ["roll", "deeds", "ahead"] (defScope s_next_deeds) := ⟨rfl, rfl, rfl, by decide +kernel, rfl, by decide +kernel, by decide +kernel⟩
def m_next_deeds : M Out := (seqM (asM 3 (caM r_need_names [] [(rd 0), (gM (gBin .add) [(rd 1), (rd 2)])]))
    (reM (gM (gOne tupC) [(lcM (wkM (rd 1)) [4] (.nm 4) (andB (truM (gM gNin [(rd 4), (rd 2)])) (truM (caM r_found_in [] [(gM gIx [(rd 3), (rd 4)]), (rd 2)]))) (rd 4))])))
def r_next_deeds : Fm := runF 5 (m_next_deeds)
theorem kb_next_deeds (D : Ds K mg) : KBn K D.fd_next_deeds ["roll", "deeds", "ahead"] 2 ["ahead"] (fun us ws => us ++ ws) (fun vs zs => vs ++ zs) := kbnA D.F_next_deeds 2 fun _ _ _ _ _ _ us ws hl hw => match us, ws, hl, hw with | [_, _], [_], _, _ => rfl
theorem ok_next_deeds (D : Ds K mg) : FnOk P w K mg base CX0 3 D.a_next_deeds D.fd_next_deeds ["roll", "deeds", "ahead"] (spF P w K 3 (r_next_deeds)) := by
  refine fnI D.F_next_deeds sc_next_deeds (m := m_next_deeds) fun F cdv A outer s H E hK hF hr => ?_
  exact (by exact (pss_consI (by exact (ps_asI (i := 3) (by exact sc_next_deeds.nd) (by rfl) (by first | exact Or.inl rfl | exact Or.inr rfl) (by exact (pe_caI (dvs := []) (dws := []) (by exact hK) (by exact ok_need_names D) (by exact hr.mono (by omega)) (by rfl) (by exact D.g_need_names) (by exact D.F_need_names.kp) (by exact b_need_names D) .nil (by exact Kst.nil) rfl (by exact (pa_consI (by exact (pe_nameI (pv 0))) (pa_consI (by exact (pe_bnI (by exact hK) .add (by decide) (by exact (pe_nameI (pv 1))) (by exact (pe_nameI (pv 2))))) pa_nilI rfl) rfl))))))
    (by exact (pss_oneI (by exact (ps_reI (by exact (pe_tupFI (by exact hK) (by rfl) (by exact D.u_tuple) (by exact (pe_lcI (by exact hK) (by exact hF) (own := [((PySem.Str.ofString "own"), 4)]) (by rfl) (by exact sc_next_deeds.nd) (by decide) (by exact (pi_wkI (by exact hK) (by exact (pe_nameI (pv 1))))) (blkOk_by (by kernel_rfl)) (fun s1 H1 C1 cl1 fp1 => by exact (by exact (pg_nmI (i := 4) (by exact sc_next_deeds.nd) (by rfl) (by first | exact Or.inl rfl | exact Or.inr rfl)))) (fun s1 H1 C1 cl1 fp1 => by exact (pts_ex1 fun F1 hK1 hF1 => (by exact (pt_orI (pw_andI (by exact (pt_ninI (by exact hK1) (by exact hu_of hr) (by exact (pe_nameI (pv 4))) (by exact (pe_nameI (pv 2))) rfl)) (pw_and1 (by exact (pt_truI (by exact hK1) (by exact (pe_caI (dvs := []) (dws := []) (by exact hK1) (by exact ok_found_in D) (by exact hr.mono (by omega)) (by rfl) (by exact D.g_found_in) (by exact D.F_found_in.kp) (by exact b_found_in D) .nil (by exact Kst.nil) rfl (by exact (pa_consI (by exact (pe_ixI (by exact hK1) (by exact hu1_of hr) (by exact (pe_nameI (pv 3))) (by exact (pe_nameI (pv 4))) (fun _ _ => rfl))) (pa_consI (by exact (pe_nameI (pv 2))) pa_nilI rfl) rfl)))) (fun _ => rfl))))))))) (fun F1 hK1 hF1 s1 H1 C1 cl1 fp1 => by exact (by exact (pe_nameI (pv 4))))))))))))))
theorem sc_grown : FnScope ["known", "deeds", "found", "fresh", "own"] ["known", "deeds"] (defScope s_grown) := ⟨rfl, rfl, rfl, by decide +kernel, rfl, by decide +kernel, by decide +kernel⟩
def m_grown : M Out := (seqM (taM (.tp (.cons (.nm 2) (.cons (.nm 3) .nil))) (tupM [(tupM []), (tupM [(kd .none)])]))
    (seqM (whL (truM (gM (gCmp .ne) [(rd 3), (tupM [])])) (seqM (asM 3 (gM (gOne tupC) [(lcM (wkM (rd 1)) [4] (.nm 4) (andB (truM (gM gNin [(rd 4), (rd 2)])) (truM (caM r_found_in [] [(gM gIx [(rd 0), (rd 4)]), (rd 2)]))) (rd 4))]))
    (asM 2 (gM (gBin .add) [(rd 2), (rd 3)]))) 40)
    (reM (rd 2))))
def r_grown : Fm := runF 5 (m_grown)
theorem b_grown (D : Ds K mg) : Binds K D.fd_grown ["known", "deeds"] [] := D.F_grown.bindsN fun _ _ _ _ _ _ us hl => match us, hl with | [_, _], _ => rfl
theorem ok_grown (D : Ds K mg) : FnOk P w K mg base CX0 2 D.a_grown D.fd_grown ["known", "deeds"] (spF P w K 2 (r_grown)) := by
  refine fnI D.F_grown sc_grown (m := m_grown) fun F cdv A outer s H E hK hF hr => ?_
  exact (by exact (pss_consI (by exact (ps_taI (by exact hK) (by exact (pe_tupI (by exact (pa_consI (by exact (pe_tupI pa_nilI)) (pa_consI (by exact (pe_tupI (by exact (pa_consI pe_nonI pa_nilI rfl)))) pa_nilI rfl) rfl)))) (by exact (pg_tpI (by rfl) (pgs_consI (by exact (pg_nmI (i := 2) (by exact sc_grown.nd) (by rfl) (by first | exact Or.inl rfl | exact Or.inr rfl))) (pgs_consI (by exact (pg_nmI (i := 3) (by exact sc_grown.nd) (by rfl) (by first | exact Or.inl rfl | exact Or.inr rfl))) pgs_nilI))))))
    (by exact (pss_consI (by exact (ps_whI 40 (by exact PassesOwn.never) (by exact (pt_cmI (by exact hK) (by exact hu_of hr) .ne (by exact (pe_nameI (pv 3))) (by exact (pe_tupI pa_nilI)) (nomark _))) (by exact (pss_consI (by exact (ps_asI (i := 3) (by exact sc_grown.nd) (by rfl) (by first | exact Or.inl rfl | exact Or.inr rfl) (by exact (pe_tupFI (by exact hK) (by rfl) (by exact D.u_tuple) (by exact (pe_lcI (by exact hK) (by exact hF) (own := [((PySem.Str.ofString "own"), 4)]) (by rfl) (by exact sc_grown.nd) (by decide) (by exact (pi_wkI (by exact hK) (by exact (pe_nameI (pv 1))))) (blkOk_by (by kernel_rfl)) (fun s1 H1 C1 cl1 fp1 => by exact (by exact (pg_nmI (i := 4) (by exact sc_grown.nd) (by rfl) (by first | exact Or.inl rfl | exact Or.inr rfl)))) (fun s1 H1 C1 cl1 fp1 => by exact (pts_ex1 fun F1 hK1 hF1 => (by exact (pt_orI (pw_andI (by exact (pt_ninI (by exact hK1) (by exact hu_of hr) (by exact (pe_nameI (pv 4))) (by exact (pe_nameI (pv 2))) rfl)) (pw_and1 (by exact (pt_truI (by exact hK1) (by exact (pe_caI (dvs := []) (dws := []) (by exact hK1) (by exact ok_found_in D) (by exact hr.mono (by omega)) (by rfl) (by exact D.g_found_in) (by exact D.F_found_in.kp) (by exact b_found_in D) .nil (by exact Kst.nil) rfl (by exact (pa_consI (by exact (pe_ixI (by exact hK1) (by exact hu1_of hr) (by exact (pe_nameI (pv 0))) (by exact (pe_nameI (pv 4))) (fun _ _ => rfl))) (pa_consI (by exact (pe_nameI (pv 2))) pa_nilI rfl) rfl)))) (fun _ => rfl))))))))) (fun F1 hK1 hF1 s1 H1 C1 cl1 fp1 => by exact (by exact (pe_nameI (pv 4))))))))))
    (by exact (pss_oneI (by exact (ps_asI (i := 2) (by exact sc_grown.nd) (by rfl) (by first | exact Or.inl rfl | exact Or.inr rfl) (by exact (pe_bnI (by exact hK) .add (by decide) (by exact (pe_nameI (pv 2))) (by exact (pe_nameI (pv 3)))))))))))))
    (by exact (pss_oneI (by exact (ps_reI (by exact (pe_nameI (pv 2)))))))))))
theorem sc_heart_of : FnScope ["roll", "deeds"] ["roll", "deeds"] (defScope s_heart_of) := ⟨rfl, rfl, rfl, by decide +kernel, rfl, by decide +kernel, by decide +kernel⟩
def m_heart_of : M Out := (reM (gM (gOne tupC) [(gM (gOne srtC) [(caM r_grown [] [(caM r_need_names [] [(rd 0), (rd 1)]), (rd 1)])])]))
def r_heart_of : Fm := runF 2 (m_heart_of)
theorem b_heart_of (D : Ds K mg) : Binds K D.fd_heart_of ["roll", "deeds"] [] := D.F_heart_of.bindsN fun _ _ _ _ _ _ us hl => match us, hl with | [_, _], _ => rfl
theorem ok_heart_of (D : Ds K mg) : FnOk P w K mg base CX0 3 D.a_heart_of D.fd_heart_of ["roll", "deeds"] (spF P w K 2 (r_heart_of)) := by
  refine fnI D.F_heart_of sc_heart_of (m := m_heart_of) fun F cdv A outer s H E hK hF hr => ?_
  exact (by exact (pss_oneI (by exact (ps_reI (by exact (pe_tupFI (by exact hK) (by rfl) (by exact D.u_tuple) (by exact (pe_srtI (by exact hK) (by exact hu_of hr) (by rfl) (by exact D.u_sorted) (by exact (pe_caI (dvs := []) (dws := []) (by exact hK) (by exact ok_grown D) (by exact hr.mono (by omega)) (by rfl) (by exact D.g_grown) (by exact D.F_grown.kp) (by exact b_grown D) .nil (by exact Kst.nil) rfl (by exact (pa_consI (by exact (pe_caI (dvs := []) (dws := []) (by exact hK) (by exact ok_need_names D) (by exact hr.mono (by omega)) (by rfl) (by exact D.g_need_names) (by exact D.F_need_names.kp) (by exact b_need_names D) .nil (by exact Kst.nil) rfl (by exact (pa_consI (by exact (pe_nameI (pv 0))) (pa_consI (by exact (pe_nameI (pv 1))) pa_nilI rfl) rfl)))) (pa_consI (by exact (pe_nameI (pv 1))) pa_nilI rfl) rfl))))))))))))
theorem sc_is_meaning : FnScope ["roll", "deeds"] ["roll", "deeds"] (defScope s_is_meaning) := ⟨rfl, rfl, rfl, by decide +kernel, rfl, by decide +kernel, by decide +kernel⟩
def m_is_meaning : M Out := (reM (gM (gCmp .eq) [(gM (gOne lenC) [(caM r_heart_of [] [(rd 0), (rd 1)])]), (gM (gOne lenC) [(rd 1)])]))
def r_is_meaning : Fm := runF 2 (m_is_meaning)
theorem b_is_meaning (D : Ds K mg) : Binds K D.fd_is_meaning ["roll", "deeds"] [] := D.F_is_meaning.bindsN fun _ _ _ _ _ _ us hl => match us, hl with | [_, _], _ => rfl
theorem ok_is_meaning (D : Ds K mg) : FnOk P w K mg base CX0 4 D.a_is_meaning D.fd_is_meaning ["roll", "deeds"] (spF P w K 2 (r_is_meaning)) := by
  refine fnI D.F_is_meaning sc_is_meaning (m := m_is_meaning) fun F cdv A outer s H E hK hF hr => ?_
  exact (by exact (pss_oneI (by exact (ps_reI (by exact (pe_cmI (by exact hK) (by exact hu_of hr) .eq (by exact (pe_lenI (by exact hK) (by rfl) (by exact D.u_len) (by exact (pe_caI (dvs := []) (dws := []) (by exact hK) (by exact ok_heart_of D) (by exact hr.mono (by omega)) (by rfl) (by exact D.g_heart_of) (by exact D.F_heart_of.kp) (by exact b_heart_of D) .nil (by exact Kst.nil) rfl (by exact (pa_consI (by exact (pe_nameI (pv 0))) (pa_consI (by exact (pe_nameI (pv 1))) pa_nilI rfl) rfl)))))) (by exact (pe_lenI (by exact hK) (by rfl) (by exact D.u_len) (by exact (pe_nameI (pv 1))))) (nomark _)))))))
theorem sc_is_lettered : FnScope ["thing", "most", "sign"] ["thing", "most"] (defScope s_is_lettered) := ⟨rfl, rfl, rfl, by decide +kernel, rfl, by decide +kernel, by decide +kernel⟩
def m_is_lettered : M Out := (seqM (ifS (orB (notB (truM (isiM "str" (rd 0)))) (notB (truM (chM .le .le (kd (.int (1))) (gM (gOne lenC) [(rd 0)]) (rd 1))))) (reM (kd (.bool false))) (M.pure .nx))
    (reM (gM (gOne (qunC fun bs => bs.all id)) [(lcM (wkM (rd 0)) [2] (.nm 2) (M.pure true) (gM gIn [(rd 2), (kd (.str (PySem.Str.ofString "abcdefghijklmnopqrstuvwxyz")))]))])))
def r_is_lettered : Fm := runF 3 (m_is_lettered)
theorem b_is_lettered (D : Ds K mg) : Binds K D.fd_is_lettered ["thing", "most"] [] := D.F_is_lettered.bindsN fun _ _ _ _ _ _ us hl => match us, hl with | [_, _], _ => rfl
theorem ok_is_lettered (D : Ds K mg) : FnOk P w K mg base CX0 1 D.a_is_lettered D.fd_is_lettered ["thing", "most"] (spF P w K 2 (r_is_lettered)) := by
  refine fnI D.F_is_lettered sc_is_lettered (m := m_is_lettered) fun F cdv A outer s H E hK hF hr => ?_
  exact (by exact (pss_consI (by exact (ps_ifI (by exact (pt_orI (pw_orI (by exact (pt_notI (by exact (pt_truI (by exact hK) (by exact (pe_isiI (T := "str") (by exact hK) (by exact (pe_nameI (pv 0))) (by rfl) (by exact D.u_isinstance) (by rfl) (by exact D.u_str) (by decide +kernel))) (fun _ => rfl))))) (pw_or1 (by exact (pt_notI (by exact (pt_chI (by exact hK) (by exact hu_of hr) .le .le pe_intI (by exact (pe_lenI (by exact hK) (by rfl) (by exact D.u_len) (by exact (pe_nameI (pv 0))))) (by exact (pe_nameI (pv 1))) rfl)))))))) (by exact (pss_oneI (by exact (ps_reI pe_blI)))) pss_nilI))
    (by exact (pss_oneI (by exact (ps_reI (by exact (pe_allI (by exact hK) (by rfl) (by rfl) (by exact D.u_all) (by exact (pe_lcI (by exact hK) (by exact hF) (own := [((PySem.Str.ofString "sign"), 2)]) (by rfl) (by exact sc_is_lettered.nd) (by decide) (by exact (pi_wkI (by exact hK) (by exact (pe_nameI (pv 0))))) (blkOk_by (by kernel_rfl)) (fun s1 H1 C1 cl1 fp1 => by exact (by exact (pg_nmI (i := 2) (by exact sc_is_lettered.nd) (by rfl) (by first | exact Or.inl rfl | exact Or.inr rfl)))) (fun s1 H1 C1 cl1 fp1 => by exact pts_ex0) (fun F1 hK1 hF1 s1 H1 C1 cl1 fp1 => by exact (by exact (pe_inI (by exact hK1) (by exact hu_of hr) (by exact (pe_nameI (pv 2))) (by exact (pe_gstrI (by rfl) (by exact D.c_LETTERS) (by decide +kernel))) rfl)))))))))))))
theorem sc_is_name : FnScope ["thing"] ["thing"] (defScope s_is_name) := ⟨rfl, rfl, rfl, by decide +kernel, rfl, by decide +kernel, by decide +kernel⟩
def m_is_name : M Out := (reM (caM r_is_lettered [] [(rd 0), (kd (.int (8)))]))
def r_is_name : Fm := runF 1 (m_is_name)
theorem b_is_name (D : Ds K mg) : Binds K D.fd_is_name ["thing"] [] := D.F_is_name.bindsN fun _ _ _ _ _ _ us hl => match us, hl with | [_], _ => rfl
theorem ok_is_name (D : Ds K mg) : FnOk P w K mg base CX0 2 D.a_is_name D.fd_is_name ["thing"] (spF P w K 1 (r_is_name)) := by
  refine fnI D.F_is_name sc_is_name (m := m_is_name) fun F cdv A outer s H E hK hF hr => ?_
  exact (by exact (pss_oneI (by exact (ps_reI (by exact (pe_caI (dvs := []) (dws := []) (by exact hK) (by exact ok_is_lettered D) (by exact hr.mono (by omega)) (by rfl) (by exact D.g_is_lettered) (by exact D.F_is_lettered.kp) (by exact b_is_lettered D) .nil (by exact Kst.nil) rfl (by exact (pa_consI (by exact (pe_nameI (pv 0))) (pa_consI (by exact (pe_gintI (by rfl) (by exact D.c_LONGEST_NAME))) pa_nilI rfl) rfl))))))))
theorem sc_are_all : FnScope ["thing", "look", "one"] ["thing", "look"] (defScope s_are_all) := ⟨rfl, rfl, rfl, by decide +kernel, rfl, by decide +kernel, by decide +kernel⟩
def m_are_all (V0 : V) (f0 : Fm) : M Out := (reM (andM (isiM "tuple" (rd 0)) (gM (gOne (qunC fun bs => bs.all id)) [(lcM (wkM (rd 0)) [2] (.nm 2) (M.pure true) (clM 1 V0 f0 [(rd 2)]))])))
def r_are_all (V0 : V) (f0 : Fm) : Fm := runF 3 (m_are_all V0 f0)
theorem b_are_all (D : Ds K mg) : Binds K D.fd_are_all ["thing", "look"] [] := D.F_are_all.bindsN fun _ _ _ _ _ _ us hl => match us, hl with | [_, _], _ => rfl
theorem ok_are_all (D : Ds K mg) {k0 : Nat} {f1 : Addr} {fd1 : FuncData} {ps1 : List Str} {f0 : Fm} (Fn0 : FnOk P w K mg base CX0 k0 f1 fd1 ps1 (spF P w K 1 f0)) (hk0 : PySem.W.keepIn K (.ref f1) = true) (hb0 : Binds K fd1 ps1 []) : FnOk P w K mg base CX0 (k0 + 1) D.a_are_all D.fd_are_all ["thing", "look"] (spF P w K 2 (r_are_all (.ref f1) f0)) := by
  refine fnI D.F_are_all sc_are_all (m := m_are_all (.ref f1) f0) fun F cdv A outer s H E hK hF hr => ?_
  exact (by exact (pss_oneI (by exact (ps_reI (by exact (pe_andI (by exact hK) (by exact (pe_isiI (T := "tuple") (by exact hK) (by exact (pe_nameI (pv 0))) (by rfl) (by exact D.u_isinstance) (by rfl) (by exact D.u_tuple) (by decide +kernel))) (pe_one (by exact (pe_allI (by exact hK) (by rfl) (by rfl) (by exact D.u_all) (by exact (pe_lcI (by exact hK) (by exact hF) (own := [((PySem.Str.ofString "one"), 2)]) (by rfl) (by exact sc_are_all.nd) (by decide) (by exact (pi_wkI (by exact hK) (by exact (pe_nameI (pv 0))))) (blkOk_by (by kernel_rfl)) (fun s1 H1 C1 cl1 fp1 => by exact (by exact (pg_nmI (i := 2) (by exact sc_are_all.nd) (by rfl) (by first | exact Or.inl rfl | exact Or.inr rfl)))) (fun s1 H1 C1 cl1 fp1 => by exact pts_ex0) (fun F1 hK1 hF1 s1 H1 C1 cl1 fp1 => by exact (by exact (pe_clI (i := 1) (by exact hK1) (by exact Fn0) (by exact hr.mono (by omega)) (by rfl) (by first | exact Or.inl rfl | exact Or.inr (Or.inl rfl) | exact Or.inr (Or.inr rfl)) (by exact hk0) (by exact hb0) rfl (by exact (pa_consI (by exact (pe_nameI (pv 2))) pa_nilI rfl))))))))))))))))
theorem sc_rise : FnScope ["things", "one", "other"] ["things"] (defScope s_rise) := ⟨rfl, rfl, rfl, by decide +kernel, rfl, by decide +kernel, by decide +kernel⟩
def m_rise : M Out := (reM (gM (gOne (qunC fun bs => bs.all id)) [(lcM (zipM (rd 0) (slM (rd 0) (some (kd (.int (1)))) none)) [1, 2] (.tp (.cons (.nm 1) (.cons (.nm 2) .nil))) (M.pure true) (gM (gCmp .lt) [(rd 1), (rd 2)]))]))
def r_rise : Fm := runF 3 (m_rise)
theorem b_rise (D : Ds K mg) : Binds K D.fd_rise ["things"] [] := D.F_rise.bindsN fun _ _ _ _ _ _ us hl => match us, hl with | [_], _ => rfl
theorem ok_rise (D : Ds K mg) : FnOk P w K mg base CX0 1 D.a_rise D.fd_rise ["things"] (spF P w K 1 (r_rise)) := by
  refine fnI D.F_rise sc_rise (m := m_rise) fun F cdv A outer s H E hK hF hr => ?_
  exact (by exact (pss_oneI (by exact (ps_reI (by exact (pe_allI (by exact hK) (by rfl) (by rfl) (by exact D.u_all) (by exact (pe_lcI (by exact hK) (by exact hF) (own := [((PySem.Str.ofString "one"), 1), ((PySem.Str.ofString "other"), 2)]) (by rfl) (by exact sc_rise.nd) (by decide) (by exact (pi_zipI (by exact hK) (by rfl) (by exact D.u_zip) (pa_consI (by exact (pe_nameI (pv 0))) (pa_consI (by exact (pe_slI (by exact hK) (by exact (pe_nameI (pv 0))) (po_sI pe_intI) po_nI)) pa_nilI rfl) rfl))) (blkOk_by (by kernel_rfl)) (fun s1 H1 C1 cl1 fp1 => by exact (by exact (pg_tpI (by rfl) (pgs_consI (by exact (pg_nmI (i := 1) (by exact sc_rise.nd) (by rfl) (by first | exact Or.inl rfl | exact Or.inr rfl))) (pgs_consI (by exact (pg_nmI (i := 2) (by exact sc_rise.nd) (by rfl) (by first | exact Or.inl rfl | exact Or.inr rfl))) pgs_nilI))))) (fun s1 H1 C1 cl1 fp1 => by exact pts_ex0) (fun F1 hK1 hF1 s1 H1 C1 cl1 fp1 => by exact (by exact (pe_cmI (by exact hK1) (by exact hu_of hr) .lt (by exact (pe_nameI (pv 1))) (by exact (pe_nameI (pv 2))) (nomark _))))))))))))
theorem sc_is_set : FnScope ["thing"] ["thing"] (defScope s_is_set) := ⟨rfl, rfl, rfl, by decide +kernel, rfl, by decide +kernel, by decide +kernel⟩
def m_is_set (D : Ds K mg) : M Out := (reM (andM (caM (r_are_all (.ref D.a_is_name) r_is_name) [] [(rd 0), (rwM (.ref D.a_is_name))]) (caM r_rise [] [(rd 0)])))
def r_is_set (D : Ds K mg) : Fm := runF 1 (m_is_set D)
theorem b_is_set (D : Ds K mg) : Binds K D.fd_is_set ["thing"] [] := D.F_is_set.bindsN fun _ _ _ _ _ _ us hl => match us, hl with | [_], _ => rfl
theorem ok_is_set (D : Ds K mg) : FnOk P w K mg base CX0 4 D.a_is_set D.fd_is_set ["thing"] (spF P w K 1 ((r_is_set D))) := by
  refine fnI D.F_is_set sc_is_set (m := (m_is_set D)) fun F cdv A outer s H E hK hF hr => ?_
  exact (by exact (pss_oneI (by exact (ps_reI (by exact (pe_andI (by exact hK) (by exact (pe_caI (dvs := []) (dws := []) (by exact hK) (by exact ok_are_all D (ok_is_name D) D.F_is_name.kp (b_is_name D)) (by exact hr.mono (by omega)) (by rfl) (by exact D.g_are_all) (by exact D.F_are_all.kp) (by exact b_are_all D) .nil (by exact Kst.nil) rfl (by exact (pa_consI (by exact (pe_nameI (pv 0))) (pa_consI (pe_gfnI (by rfl) (by exact D.g_is_name)) pa_nilI rfl) rfl)))) (pe_one (by exact (pe_caI (dvs := []) (dws := []) (by exact hK) (by exact ok_rise D) (by exact hr.mono (by omega)) (by rfl) (by exact D.g_rise) (by exact D.F_rise.kp) (by exact b_rise D) .nil (by exact Kst.nil) rfl (by exact (pa_consI (by exact (pe_nameI (pv 0))) pa_nilI rfl)))))))))))
theorem sc_are_needs : FnScope ["thing"] ["thing"] (defScope s_are_needs) := ⟨rfl, rfl, rfl, by decide +kernel, rfl, by decide +kernel, by decide +kernel⟩
def m_are_needs (D : Ds K mg) : M Out := (reM (andM (caM (r_are_all (.ref D.a_is_set) (r_is_set D)) [] [(rd 0), (rwM (.ref D.a_is_set))]) (andM (gM (gCmp .ne) [(rd 0), (tupM [])]) (caM r_rise [] [(rd 0)]))))
def r_are_needs (D : Ds K mg) : Fm := runF 1 (m_are_needs D)
theorem b_are_needs (D : Ds K mg) : Binds K D.fd_are_needs ["thing"] [] := D.F_are_needs.bindsN fun _ _ _ _ _ _ us hl => match us, hl with | [_], _ => rfl
theorem ok_are_needs (D : Ds K mg) : FnOk P w K mg base CX0 6 D.a_are_needs D.fd_are_needs ["thing"] (spF P w K 1 ((r_are_needs D))) := by
  refine fnI D.F_are_needs sc_are_needs (m := (m_are_needs D)) fun F cdv A outer s H E hK hF hr => ?_
  exact (by exact (pss_oneI (by exact (ps_reI (by exact (pe_andI (by exact hK) (by exact (pe_caI (dvs := []) (dws := []) (by exact hK) (by exact ok_are_all D (ok_is_set D) D.F_is_set.kp (b_is_set D)) (by exact hr.mono (by omega)) (by rfl) (by exact D.g_are_all) (by exact D.F_are_all.kp) (by exact b_are_all D) .nil (by exact Kst.nil) rfl (by exact (pa_consI (by exact (pe_nameI (pv 0))) (pa_consI (pe_gfnI (by rfl) (by exact D.g_is_set)) pa_nilI rfl) rfl)))) (pe_andI (by exact hK) (by exact (pe_cmI (by exact hK) (by exact hu_of hr) .ne (by exact (pe_nameI (pv 0))) (by exact (pe_tupI pa_nilI)) (nomark _))) (pe_one (by exact (pe_caI (dvs := []) (dws := []) (by exact hK) (by exact ok_rise D) (by exact hr.mono (by omega)) (by rfl) (by exact D.g_rise) (by exact D.F_rise.kp) (by exact b_rise D) .nil (by exact Kst.nil) rfl (by exact (pa_consI (by exact (pe_nameI (pv 0))) pa_nilI rfl))))))))))))
theorem sc_is_deed_row : FnScope ["thing", "deed", "hand", "needs"] ["thing"] (defScope s_is_deed_row) := ⟨rfl, rfl, rfl, by decide +kernel, rfl, by decide +kernel, by decide +kernel⟩
def m_is_deed_row (D : Ds K mg) : M Out := (seqM (ifS (orB (notB (truM (isiM "tuple" (rd 0)))) (truM (gM (gCmp .ne) [(gM (gOne lenC) [(rd 0)]), (kd (.int (3)))]))) (reM (kd (.bool false))) (M.pure .nx))
    (seqM (taM (.tp (.cons (.nm 1) (.cons (.nm 2) (.cons (.nm 3) .nil)))) (rd 0))
    (reM (andM (caM r_is_name [] [(rd 1)]) (andM (caM r_is_name [] [(rd 2)]) (caM (r_are_needs D) [] [(rd 3)]))))))
def r_is_deed_row (D : Ds K mg) : Fm := runF 4 (m_is_deed_row D)
theorem b_is_deed_row (D : Ds K mg) : Binds K D.fd_is_deed_row ["thing"] [] := D.F_is_deed_row.bindsN fun _ _ _ _ _ _ us hl => match us, hl with | [_], _ => rfl
theorem ok_is_deed_row (D : Ds K mg) : FnOk P w K mg base CX0 7 D.a_is_deed_row D.fd_is_deed_row ["thing"] (spF P w K 1 ((r_is_deed_row D))) := by
  refine fnI D.F_is_deed_row sc_is_deed_row (m := (m_is_deed_row D)) fun F cdv A outer s H E hK hF hr => ?_
  exact (by exact (pss_consI (by exact (ps_ifI (by exact (pt_orI (pw_orI (by exact (pt_notI (by exact (pt_truI (by exact hK) (by exact (pe_isiI (T := "tuple") (by exact hK) (by exact (pe_nameI (pv 0))) (by rfl) (by exact D.u_isinstance) (by rfl) (by exact D.u_tuple) (by decide +kernel))) (fun _ => rfl))))) (pw_or1 (by exact (pt_cmI (by exact hK) (by exact hu_of hr) .ne (by exact (pe_lenI (by exact hK) (by rfl) (by exact D.u_len) (by exact (pe_nameI (pv 0))))) pe_intI (nomark _))))))) (by exact (pss_oneI (by exact (ps_reI pe_blI)))) pss_nilI))
    (by exact (pss_consI (by exact (ps_taI (by exact hK) (by exact (pe_nameI (pv 0))) (by exact (pg_tpI (by rfl) (pgs_consI (by exact (pg_nmI (i := 1) (by exact sc_is_deed_row.nd) (by rfl) (by first | exact Or.inl rfl | exact Or.inr rfl))) (pgs_consI (by exact (pg_nmI (i := 2) (by exact sc_is_deed_row.nd) (by rfl) (by first | exact Or.inl rfl | exact Or.inr rfl))) (pgs_consI (by exact (pg_nmI (i := 3) (by exact sc_is_deed_row.nd) (by rfl) (by first | exact Or.inl rfl | exact Or.inr rfl))) pgs_nilI)))))))
    (by exact (pss_oneI (by exact (ps_reI (by exact (pe_andI (by exact hK) (by exact (pe_caI (dvs := []) (dws := []) (by exact hK) (by exact ok_is_name D) (by exact hr.mono (by omega)) (by rfl) (by exact D.g_is_name) (by exact D.F_is_name.kp) (by exact b_is_name D) .nil (by exact Kst.nil) rfl (by exact (pa_consI (by exact (pe_nameI (pv 1))) pa_nilI rfl)))) (pe_andI (by exact hK) (by exact (pe_caI (dvs := []) (dws := []) (by exact hK) (by exact ok_is_name D) (by exact hr.mono (by omega)) (by rfl) (by exact D.g_is_name) (by exact D.F_is_name.kp) (by exact b_is_name D) .nil (by exact Kst.nil) rfl (by exact (pa_consI (by exact (pe_nameI (pv 2))) pa_nilI rfl)))) (pe_one (by exact (pe_caI (dvs := []) (dws := []) (by exact hK) (by exact ok_are_needs D) (by exact hr.mono (by omega)) (by rfl) (by exact D.g_are_needs) (by exact D.F_are_needs.kp) (by exact b_are_needs D) .nil (by exact Kst.nil) rfl (by exact (pa_consI (by exact (pe_nameI (pv 3))) pa_nilI rfl))))))))))))))))
theorem sc_need_so : FnScope ["truth", "word", "at"] ["truth", "word", "at"] (defScope s_need_so) := ⟨rfl, rfl, rfl, by decide +kernel, rfl, by decide +kernel, by decide +kernel⟩
def m_need_so : M Out := (ifS (notB (truM (rd 0))) fail (M.pure .nx))
def r_need_so : Fm := runF 3 (m_need_so)
theorem b_need_so (D : Ds K mg) : Binds K D.fd_need_so ["truth", "word", "at"] [] := D.F_need_so.bindsN fun _ _ _ _ _ _ us hl => match us, hl with | [_, _, _], _ => rfl
theorem ok_need_so (D : Ds K mg) : FnOk P w K mg base CX0 1 D.a_need_so D.fd_need_so ["truth", "word", "at"] (spF P w K 3 (r_need_so)) := by
  refine fnI D.F_need_so sc_need_so (m := m_need_so) fun F cdv A outer s H E hK hF hr => ?_
  exact (by exact (pss_oneI (by exact (ps_ifI (by exact (pt_notI (by exact (pt_truI (by exact hK) (by exact (pe_nameI (pv 0))) (fun _ => rfl))))) (by exact (pss_oneI ps_failI)) pss_nilI))))
theorem sc_lets_roll : FnScope ["thing", "deed", "hand", "needs", "every", "k", "i", "needed", "j", "own"] ["thing"] (defScope s_lets_roll) := ⟨rfl, rfl, rfl, by decide +kernel, rfl, by decide +kernel, by decide +kernel⟩
def m_lets_roll (D : Ds K mg) : M Out := (seqM (exM (caM r_need_so [] [(caM (r_are_all (.ref D.a_is_deed_row) (r_is_deed_row D)) [] [(rd 0), (rwM (.ref D.a_is_deed_row))]), (kd (.str (PySem.Str.ofString "shape"))), (negM (kd (.int (1))))]))
    (seqM (asM 4 (lcM (wkM (rd 0)) [1, 2, 3] (.tp (.cons (.nm 1) (.cons (.nm 2) (.cons (.nm 3) .nil)))) (M.pure true) (rd 1)))
    (seqM (forM (enM (rd 0)) (.tp (.cons (.nm 5) (.cons (.tp (.cons (.nm 1) (.cons (.nm 2) (.cons (.nm 3) .nil)))) .nil)))
    (seqM (exM (caM r_need_so [] [(orM (gM (gCmp .eq) [(rd 5), (kd (.int (0)))]) (gM (gCmp .lt) [(gM gIx [(rd 4), (gM (gBin .sub) [(rd 5), (kd (.int (1)))])]), (rd 1)])), (kd (.str (PySem.Str.ofString "rise"))), (rd 5)]))
    (forM (enM (rd 3)) (.tp (.cons (.nm 6) (.cons (.nm 7) .nil)))
    (forM (enM (rd 7)) (.tp (.cons (.nm 8) (.cons (.nm 9) .nil)))
    (exM (caM r_need_so [] [(gM gIn [(rd 9), (rd 4)]), (kd (.str (PySem.Str.ofString "needs"))), (tupM [(rd 5), (rd 6), (rd 8)])]))))))
    (reM (gM (gOne lenC) [(rd 0)])))))
def r_lets_roll (D : Ds K mg) : Fm := runF 10 (m_lets_roll D)
theorem b_lets_roll (D : Ds K mg) : Binds K D.fd_lets_roll ["thing"] [] := D.F_lets_roll.bindsN fun _ _ _ _ _ _ us hl => match us, hl with | [_], _ => rfl
theorem ok_lets_roll (D : Ds K mg) : FnOk P w K mg base CX0 9 D.a_lets_roll D.fd_lets_roll ["thing"] (spF P w K 1 ((r_lets_roll D))) := by
  refine fnI D.F_lets_roll sc_lets_roll (m := (m_lets_roll D)) fun F cdv A outer s H E hK hF hr => ?_
  exact (by exact (pss_consI (by exact (ps_exI (by exact (pe_caI (dvs := []) (dws := []) (by exact hK) (by exact ok_need_so D) (by exact hr.mono (by omega)) (by rfl) (by exact D.g_need_so) (by exact D.F_need_so.kp) (by exact b_need_so D) .nil (by exact Kst.nil) rfl (by exact (pa_consI (by exact (pe_caI (dvs := []) (dws := []) (by exact hK) (by exact ok_are_all D (ok_is_deed_row D) D.F_is_deed_row.kp (b_is_deed_row D)) (by exact hr.mono (by omega)) (by rfl) (by exact D.g_are_all) (by exact D.F_are_all.kp) (by exact b_are_all D) .nil (by exact Kst.nil) rfl (by exact (pa_consI (by exact (pe_nameI (pv 0))) (pa_consI (pe_gfnI (by rfl) (by exact D.g_is_deed_row)) pa_nilI rfl) rfl)))) (pa_consI (by exact (pe_strI (by decide +kernel))) (pa_consI (by exact (pe_negI pe_intI)) pa_nilI rfl) rfl) rfl))))))
    (by exact (pss_consI (by exact (ps_lcI (i := 4) (by exact hK) (by exact hF) (own := [((PySem.Str.ofString "deed"), 1), ((PySem.Str.ofString "hand"), 2), ((PySem.Str.ofString "needs"), 3)])  (by rfl) (by exact sc_lets_roll.nd) (by rfl) (by rfl) (by exact sw_true rfl rfl rfl rfl) (by decide) (by exact (pi_wkI (by exact hK) (by exact (pe_nameI (pv 0))))) (blkOk_by (by kernel_rfl)) (fun s1 H1 C1 cl1 fp1 => by exact (by exact (pg_tpI (by rfl) (pgs_consI (by exact (pg_nmI (i := 1) (by exact sc_lets_roll.nd) (by rfl) (by first | exact Or.inl rfl | exact Or.inr rfl))) (pgs_consI (by exact (pg_nmI (i := 2) (by exact sc_lets_roll.nd) (by rfl) (by first | exact Or.inl rfl | exact Or.inr rfl))) (pgs_consI (by exact (pg_nmI (i := 3) (by exact sc_lets_roll.nd) (by rfl) (by first | exact Or.inl rfl | exact Or.inr rfl))) pgs_nilI)))))) (fun s1 H1 C1 cl1 fp1 => by exact pts_ex0) (fun F1 hK1 hF1 s1 H1 C1 cl1 fp1 => by exact (by exact (pe_nameI (pv 1))))))
    (by exact (pss_consI (by exact (ps_forI (by exact hK) (by exact PassesOwn.never) (by rfl) (by exact (pi_enI (by exact hK) (by rfl) (by exact D.u_enumerate) (by exact (pe_nameI (pv 0))))) (by exact (pg_tpI (by rfl) (pgs_consI (by exact (pg_nmI (i := 5) (by exact sc_lets_roll.nd) (by rfl) (by first | exact Or.inl rfl | exact Or.inr rfl))) (pgs_consI (by exact (pg_tpI (by rfl) (pgs_consI (by exact (pg_nmI (i := 1) (by exact sc_lets_roll.nd) (by rfl) (by first | exact Or.inl rfl | exact Or.inr rfl))) (pgs_consI (by exact (pg_nmI (i := 2) (by exact sc_lets_roll.nd) (by rfl) (by first | exact Or.inl rfl | exact Or.inr rfl))) (pgs_consI (by exact (pg_nmI (i := 3) (by exact sc_lets_roll.nd) (by rfl) (by first | exact Or.inl rfl | exact Or.inr rfl))) pgs_nilI))))) pgs_nilI))))
    (by exact (pss_consI (by exact (ps_exI (by exact (pe_caI (dvs := []) (dws := []) (by exact hK) (by exact ok_need_so D) (by exact hr.mono (by omega)) (by rfl) (by exact D.g_need_so) (by exact D.F_need_so.kp) (by exact b_need_so D) .nil (by exact Kst.nil) rfl (by exact (pa_consI (by exact (pe_orI (by exact hK) (by exact (pe_cmI (by exact hK) (by exact hu_of hr) .eq (by exact (pe_nameI (pv 5))) pe_intI (nomark _))) (pe_one (by exact (pe_cmI (by exact hK) (by exact hu_of hr) .lt (by exact (pe_ixI (by exact hK) (by exact hu1_of hr) (by exact (pe_nameI (pv 4))) (by exact (pe_bnI (by exact hK) .sub (by decide) (by exact (pe_nameI (pv 5))) pe_intI)) (fun _ _ => rfl))) (by exact (pe_nameI (pv 1))) (nomark _)))))) (pa_consI (by exact (pe_strI (by decide +kernel))) (pa_consI (by exact (pe_nameI (pv 5))) pa_nilI rfl) rfl) rfl))))))
    (by exact (pss_oneI (by exact (ps_forI (by exact hK) (by exact PassesOwn.never) (by rfl) (by exact (pi_enI (by exact hK) (by rfl) (by exact D.u_enumerate) (by exact (pe_nameI (pv 3))))) (by exact (pg_tpI (by rfl) (pgs_consI (by exact (pg_nmI (i := 6) (by exact sc_lets_roll.nd) (by rfl) (by first | exact Or.inl rfl | exact Or.inr rfl))) (pgs_consI (by exact (pg_nmI (i := 7) (by exact sc_lets_roll.nd) (by rfl) (by first | exact Or.inl rfl | exact Or.inr rfl))) pgs_nilI))))
    (by exact (pss_oneI (by exact (ps_forI (by exact hK) (by exact PassesOwn.never) (by rfl) (by exact (pi_enI (by exact hK) (by rfl) (by exact D.u_enumerate) (by exact (pe_nameI (pv 7))))) (by exact (pg_tpI (by rfl) (pgs_consI (by exact (pg_nmI (i := 8) (by exact sc_lets_roll.nd) (by rfl) (by first | exact Or.inl rfl | exact Or.inr rfl))) (pgs_consI (by exact (pg_nmI (i := 9) (by exact sc_lets_roll.nd) (by rfl) (by first | exact Or.inl rfl | exact Or.inr rfl))) pgs_nilI))))
    (by exact (pss_oneI (by exact (ps_exI (by exact (pe_caI (dvs := []) (dws := []) (by exact hK) (by exact ok_need_so D) (by exact hr.mono (by omega)) (by rfl) (by exact D.g_need_so) (by exact D.F_need_so.kp) (by exact b_need_so D) .nil (by exact Kst.nil) rfl (by exact (pa_consI (by exact (pe_inI (by exact hK) (by exact hu_of hr) (by exact (pe_nameI (pv 9))) (by exact (pe_nameI (pv 4))) rfl)) (pa_consI (by exact (pe_strI (by decide +kernel))) (pa_consI (by exact (pe_tupI (by exact (pa_consI (by exact (pe_nameI (pv 5))) (pa_consI (by exact (pe_nameI (pv 6))) (pa_consI (by exact (pe_nameI (pv 8))) pa_nilI rfl) rfl) rfl)))) pa_nilI rfl) rfl) rfl))))))))))))))))))))
    (by exact (pss_oneI (by exact (ps_reI (by exact (pe_lenI (by exact hK) (by rfl) (by exact D.u_len) (by exact (pe_nameI (pv 0)))))))))))))))
theorem sc__law_reader : FnScope ["_law_script"] ["_law_script"] (defScope s__law_reader) := ⟨rfl, rfl, rfl, by decide +kernel, rfl, by decide +kernel, by decide +kernel⟩
def m__law_reader : M Out := (reM (ddM [(PySem.Str.ofString "cells"), (PySem.Str.ofString "spot"), (PySem.Str.ofString "rest"), (PySem.Str.ofString "calls")] [(gM (gOne lstC) [(slM (rd 0) none (some (kd (.int (63)))))]), (kd (.int (0))), (kd (.int (0))), (kd (.int (0)))]))
def r__law_reader : Fm := runF 1 (m__law_reader)
theorem b__law_reader (D : Ds K mg) : Binds K D.fd__law_reader ["_law_script"] [] := D.F__law_reader.bindsN fun _ _ _ _ _ _ us hl => match us, hl with | [_], _ => rfl
theorem ok__law_reader (D : Ds K mg) : FnOk P w K mg base CX0 1 D.a__law_reader D.fd__law_reader ["_law_script"] (spF P w K 1 (r__law_reader)) := by
  refine fnI D.F__law_reader sc__law_reader (m := m__law_reader) fun F cdv A outer s H E hK hF hr => ?_
  exact (by exact (pss_oneI (by exact (ps_reI (by exact (pe_ddI (by exact hK) (by exact hF) (pps_consI (fun F4 hK4 hF4 => (by exact (pe_lstFI (by exact hK4) (by rfl) (by exact D.u_list) (by exact (pe_slI (by exact hK4) (by exact (pe_nameI (pv 0))) po_nI (po_sI pe_intI)))))) (pps_consI (fun F3 hK3 hF3 => pe_intI) (pps_consI (fun F2 hK2 hF2 => pe_intI) (pps_consI (fun F1 hK1 hF1 => pe_intI) pps_nilI)))) rfl (by decide +kernel) (by decide)))))))
theorem sc__law_draw : FnScope ["_law_reader_here", "_law_many", "_law_calls", "_law_figure", "_law_spot", "_law_cells", "_law_cell", "_law_once"] ["_law_reader_here", "_law_many"] (defScope s__law_draw) := ⟨rfl, rfl, rfl, by decide +kernel, rfl, by decide +kernel, by decide +kernel⟩
def m__law_draw : M Out := (seqM (asM 2 (gM (gBin .add) [(gM gIx [(rd 0), (kd (.str (PySem.Str.ofString "calls")))]), (kd (.int (1)))]))
    (seqM (dpM (rd 2) (rd 0) (kd (.str (PySem.Str.ofString "calls"))))
    (seqM (ifS (truM (gM (gCmp .gt) [(gM gIx [(rd 0), (kd (.str (PySem.Str.ofString "rest")))]), (kd (.int (0)))])) (seqM (asM 3 (gM (gBin .mod) [(gM gIx [(rd 0), (kd (.str (PySem.Str.ofString "rest")))]), (rd 1)]))
    (seqM (dpM (gM (gBin .fdiv) [(gM gIx [(rd 0), (kd (.str (PySem.Str.ofString "rest")))]), (rd 1)]) (rd 0) (kd (.str (PySem.Str.ofString "rest"))))
    (reM (rd 3)))) (M.pure .nx))
    (seqM (asM 4 (gM gIx [(rd 0), (kd (.str (PySem.Str.ofString "spot")))]))
    (seqM (dpM (gM (gBin .add) [(rd 4), (kd (.int (1)))]) (rd 0) (kd (.str (PySem.Str.ofString "spot"))))
    (seqM (asM 5 (gM gIx [(rd 0), (kd (.str (PySem.Str.ofString "cells")))]))
    (seqM (asM 6 (ifM (truM (gM (gCmp .gt) [(gM (gOne lenC) [(rd 5)]), (kd (.int (0)))])) (gM gIx [(rd 5), (gM (gBin .mod) [(rd 4), (gM (gOne lenC) [(rd 5)])])]) (kd (.int (13)))))
    (seqM (ifS (andB (truM (gM (gCmp .lt) [(rd 4), (gM (gOne lenC) [(rd 5)])])) (truM (gM (gCmp .ge) [(rd 6), (gM (gBin .pow) [(kd (.int (10))), (kd (.int (18)))])]))) (seqM (dpM (gM (gBin .fdiv) [(rd 6), (rd 1)]) (rd 0) (kd (.str (PySem.Str.ofString "rest"))))
    (reM (gM (gBin .mod) [(rd 6), (rd 1)]))) (M.pure .nx))
    (seqM (asM 7 (gM (gBin .mod) [(gM (gBin .pow) [(gM (gBin .add) [(gM (gBin .add) [(gM (gBin .mod) [(rd 6), (kd (.int (2147483629)))]), (gM (gBin .mul) [(kd (.int (6043))), (rd 2)])]), (kd (.int (29)))]), (kd (.int (5)))]), (kd (.int (2147483647)))]))
    (reM (gM (gBin .mod) [(gM (gBin .fdiv) [(gM (gBin .mod) [(gM (gBin .pow) [(gM (gBin .add) [(rd 7), (gM (gBin .mul) [(gM (gBin .mul) [(kd (.int (4127))), (rd 2)]), (rd 2)])]), (kd (.int (5)))]), (kd (.int (2147483587)))]), (kd (.int (32)))]), (rd 1)])))))))))))
def r__law_draw : Fm := runF 8 (m__law_draw)
theorem b__law_draw (D : Ds K mg) : Binds K D.fd__law_draw ["_law_reader_here", "_law_many"] [] := D.F__law_draw.bindsN fun _ _ _ _ _ _ us hl => match us, hl with | [_, _], _ => rfl
theorem ok__law_draw (D : Ds K mg) : FnOk P w K mg base CX0 1 D.a__law_draw D.fd__law_draw ["_law_reader_here", "_law_many"] (spF P w K 2 (r__law_draw)) := by
  refine fnI D.F__law_draw sc__law_draw (m := m__law_draw) fun F cdv A outer s H E hK hF hr => ?_
  exact (by exact (pss_consI (by exact (ps_asI (i := 2) (by exact sc__law_draw.nd) (by rfl) (by first | exact Or.inl rfl | exact Or.inr rfl) (by exact (pe_bnI (by exact hK) .add (by decide) (by exact (pe_ixI (by exact hK) (by exact hu1_of hr) (by exact (pe_nameI (pv 0))) (by exact (pe_strI (by decide +kernel))) (fun _ _ => rfl))) pe_intI))))
    (by exact (pss_consI (by exact (ps_dpI (by exact hu1_of hr) (by exact (pe_nameI (pv 0))) (by exact (pe_strI (by decide +kernel))) (by exact (pe_nameI (pv 2)))))
    (by exact (pss_consI (by exact (ps_ifI (by exact (pt_cmI (by exact hK) (by exact hu_of hr) .gt (by exact (pe_ixI (by exact hK) (by exact hu1_of hr) (by exact (pe_nameI (pv 0))) (by exact (pe_strI (by decide +kernel))) (fun _ _ => rfl))) pe_intI (nomark _))) (by exact (pss_consI (by exact (ps_asI (i := 3) (by exact sc__law_draw.nd) (by rfl) (by first | exact Or.inl rfl | exact Or.inr rfl) (by exact (pe_bnI (by exact hK) .mod (by decide) (by exact (pe_ixI (by exact hK) (by exact hu1_of hr) (by exact (pe_nameI (pv 0))) (by exact (pe_strI (by decide +kernel))) (fun _ _ => rfl))) (by exact (pe_nameI (pv 1)))))))
    (by exact (pss_consI (by exact (ps_dpI (by exact hu1_of hr) (by exact (pe_nameI (pv 0))) (by exact (pe_strI (by decide +kernel))) (by exact (pe_bnI (by exact hK) .fdiv (by decide) (by exact (pe_ixI (by exact hK) (by exact hu1_of hr) (by exact (pe_nameI (pv 0))) (by exact (pe_strI (by decide +kernel))) (fun _ _ => rfl))) (by exact (pe_nameI (pv 1)))))))
    (by exact (pss_oneI (by exact (ps_reI (by exact (pe_nameI (pv 3))))))))))) pss_nilI))
    (by exact (pss_consI (by exact (ps_asI (i := 4) (by exact sc__law_draw.nd) (by rfl) (by first | exact Or.inl rfl | exact Or.inr rfl) (by exact (pe_ixI (by exact hK) (by exact hu1_of hr) (by exact (pe_nameI (pv 0))) (by exact (pe_strI (by decide +kernel))) (fun _ _ => rfl)))))
    (by exact (pss_consI (by exact (ps_dpI (by exact hu1_of hr) (by exact (pe_nameI (pv 0))) (by exact (pe_strI (by decide +kernel))) (by exact (pe_bnI (by exact hK) .add (by decide) (by exact (pe_nameI (pv 4))) pe_intI))))
    (by exact (pss_consI (by exact (ps_asI (i := 5) (by exact sc__law_draw.nd) (by rfl) (by first | exact Or.inl rfl | exact Or.inr rfl) (by exact (pe_ixI (by exact hK) (by exact hu1_of hr) (by exact (pe_nameI (pv 0))) (by exact (pe_strI (by decide +kernel))) (fun _ _ => rfl)))))
    (by exact (pss_consI (by exact (ps_asI (i := 6) (by exact sc__law_draw.nd) (by rfl) (by first | exact Or.inl rfl | exact Or.inr rfl) (by exact (pe_ifI (by exact (pt_cmI (by exact hK) (by exact hu_of hr) .gt (by exact (pe_lenI (by exact hK) (by rfl) (by exact D.u_len) (by exact (pe_nameI (pv 5))))) pe_intI (nomark _))) (by exact (pe_ixI (by exact hK) (by exact hu1_of hr) (by exact (pe_nameI (pv 5))) (by exact (pe_bnI (by exact hK) .mod (by decide) (by exact (pe_nameI (pv 4))) (by exact (pe_lenI (by exact hK) (by rfl) (by exact D.u_len) (by exact (pe_nameI (pv 5))))))) (fun _ _ => rfl))) pe_intI))))
    (by exact (pss_consI (by exact (ps_ifI (by exact (pt_orI (pw_andI (by exact (pt_cmI (by exact hK) (by exact hu_of hr) .lt (by exact (pe_nameI (pv 4))) (by exact (pe_lenI (by exact hK) (by rfl) (by exact D.u_len) (by exact (pe_nameI (pv 5))))) (nomark _))) (pw_and1 (by exact (pt_cmI (by exact hK) (by exact hu_of hr) .ge (by exact (pe_nameI (pv 6))) (by exact (pe_bnI (by exact hK) .pow (by decide) pe_intI pe_intI)) (nomark _))))))) (by exact (pss_consI (by exact (ps_dpI (by exact hu1_of hr) (by exact (pe_nameI (pv 0))) (by exact (pe_strI (by decide +kernel))) (by exact (pe_bnI (by exact hK) .fdiv (by decide) (by exact (pe_nameI (pv 6))) (by exact (pe_nameI (pv 1)))))))
    (by exact (pss_oneI (by exact (ps_reI (by exact (pe_bnI (by exact hK) .mod (by decide) (by exact (pe_nameI (pv 6))) (by exact (pe_nameI (pv 1))))))))))) pss_nilI))
    (by exact (pss_consI (by exact (ps_asI (i := 7) (by exact sc__law_draw.nd) (by rfl) (by first | exact Or.inl rfl | exact Or.inr rfl) (by exact (pe_bnI (by exact hK) .mod (by decide) (by exact (pe_bnI (by exact hK) .pow (by decide) (by exact (pe_bnI (by exact hK) .add (by decide) (by exact (pe_bnI (by exact hK) .add (by decide) (by exact (pe_bnI (by exact hK) .mod (by decide) (by exact (pe_nameI (pv 6))) pe_intI)) (by exact (pe_bnI (by exact hK) .mul (by decide) pe_intI (by exact (pe_nameI (pv 2))))))) pe_intI)) pe_intI)) pe_intI))))
    (by exact (pss_oneI (by exact (ps_reI (by exact (pe_bnI (by exact hK) .mod (by decide) (by exact (pe_bnI (by exact hK) .fdiv (by decide) (by exact (pe_bnI (by exact hK) .mod (by decide) (by exact (pe_bnI (by exact hK) .pow (by decide) (by exact (pe_bnI (by exact hK) .add (by decide) (by exact (pe_nameI (pv 7))) (by exact (pe_bnI (by exact hK) .mul (by decide) (by exact (pe_bnI (by exact hK) .mul (by decide) pe_intI (by exact (pe_nameI (pv 2))))) (by exact (pe_nameI (pv 2))))))) pe_intI)) pe_intI)) pe_intI)) (by exact (pe_nameI (pv 1)))))))))))))))))))))))))))
theorem sc__law_random_needs : FnScope ["_law_reader_here", "_law_every", "_law_before", "_law_rows", "_law_k", "_law_stock", "_law_row", "_law_j"] ["_law_reader_here", "_law_every", "_law_before"] (defScope s__law_random_needs) := ⟨rfl, rfl, rfl, by decide +kernel, rfl, by decide +kernel, by decide +kernel⟩
def m__law_random_needs : M Out := (seqM (asM 3 (lstM []))
    (seqM (forM (rg1M (gM (gBin .add) [(kd (.int (1))), (caM r__law_draw [] [(rd 0), (kd (.int (2)))])])) (.nm 4)
    (seqM (asM 5 (ifM (truM (gM (gCmp .eq) [(caM r__law_draw [] [(rd 0), (kd (.int (6)))]), (kd (.int (0)))])) (rd 1) (rd 2)))
    (seqM (asM 6 (lcM (rg1M (gM (gBin .mul) [(caM r__law_draw [] [(rd 0), (kd (.int (3)))]), (gM (gOne intTC) [(gM (gCmp .ne) [(rd 5), (lstM [])])])])) [7] (.nm 7) (M.pure true) (gM gIx [(rd 5), (caM r__law_draw [] [(rd 0), (gM (gOne lenC) [(rd 5)])])])))
    (exM (mthM "list" (rd 3) [(gM (gOne tupC) [(gM (gOne srtSetC) [(rd 6)])])] gAppend)))))
    (reM (gM (gOne tupC) [(gM (gOne srtSetC) [(rd 3)])]))))
def r__law_random_needs : Fm := runF 8 (m__law_random_needs)
theorem b__law_random_needs (D : Ds K mg) : Binds K D.fd__law_random_needs ["_law_reader_here", "_law_every", "_law_before"] [] := D.F__law_random_needs.bindsN fun _ _ _ _ _ _ us hl => match us, hl with | [_, _, _], _ => rfl
theorem ok__law_random_needs (D : Ds K mg) : FnOk P w K mg base CX0 2 D.a__law_random_needs D.fd__law_random_needs ["_law_reader_here", "_law_every", "_law_before"] (spF P w K 3 (r__law_random_needs)) := by
  refine fnI D.F__law_random_needs sc__law_random_needs (m := m__law_random_needs) fun F cdv A outer s H E hK hF hr => ?_
  exact (by exact (pss_consI (by exact (ps_asI (i := 3) (by exact sc__law_random_needs.nd) (by rfl) (by first | exact Or.inl rfl | exact Or.inr rfl) (by exact (pe_lstI pa_nilI))))
    (by exact (pss_consI (by exact (ps_forI (by exact hK) (by exact PassesOwn.never) (by rfl) (by exact (pi_rgI (by rfl) (by exact D.u_range) (by exact (pe_bnI (by exact hK) .add (by decide) pe_intI (by exact (pe_caI (dvs := []) (dws := []) (by exact hK) (by exact ok__law_draw D) (by exact hr.mono (by omega)) (by rfl) (by exact D.g__law_draw) (by exact D.F__law_draw.kp) (by exact b__law_draw D) .nil (by exact Kst.nil) rfl (by exact (pa_consI (by exact (pe_nameI (pv 0))) (pa_consI pe_intI pa_nilI rfl) rfl)))))))) (by exact (pg_nmI (i := 4) (by exact sc__law_random_needs.nd) (by rfl) (by first | exact Or.inl rfl | exact Or.inr rfl)))
    (by exact (pss_consI (by exact (ps_asI (i := 5) (by exact sc__law_random_needs.nd) (by rfl) (by first | exact Or.inl rfl | exact Or.inr rfl) (by exact (pe_ifI (by exact (pt_cmI (by exact hK) (by exact hu_of hr) .eq (by exact (pe_caI (dvs := []) (dws := []) (by exact hK) (by exact ok__law_draw D) (by exact hr.mono (by omega)) (by rfl) (by exact D.g__law_draw) (by exact D.F__law_draw.kp) (by exact b__law_draw D) .nil (by exact Kst.nil) rfl (by exact (pa_consI (by exact (pe_nameI (pv 0))) (pa_consI pe_intI pa_nilI rfl) rfl)))) pe_intI (nomark _))) (by exact (pe_nameI (pv 1))) (by exact (pe_nameI (pv 2)))))))
    (by exact (pss_consI (by exact (ps_lcI (i := 6) (by exact hK) (by exact hF) (own := [((PySem.Str.ofString "_law_j"), 7)])  (by rfl) (by exact sc__law_random_needs.nd) (by rfl) (by rfl) (by exact sw_true rfl rfl rfl rfl) (by decide) (by exact (pi_rgI (by rfl) (by exact D.u_range) (by exact (pe_bnI (by exact hK) .mul (by decide) (by exact (pe_caI (dvs := []) (dws := []) (by exact hK) (by exact ok__law_draw D) (by exact hr.mono (by omega)) (by rfl) (by exact D.g__law_draw) (by exact D.F__law_draw.kp) (by exact b__law_draw D) .nil (by exact Kst.nil) rfl (by exact (pa_consI (by exact (pe_nameI (pv 0))) (pa_consI pe_intI pa_nilI rfl) rfl)))) (by exact (pe_intFI (by rfl) (by exact D.u_int) (by exact (pe_cmI (by exact hK) (by exact hu_of hr) .ne (by exact (pe_nameI (pv 5))) (by exact (pe_lstI pa_nilI)) (nomark _))))))))) (blkOk_by (by kernel_rfl)) (fun s1 H1 C1 cl1 fp1 => by exact (by exact (pg_nmI (i := 7) (by exact sc__law_random_needs.nd) (by rfl) (by first | exact Or.inl rfl | exact Or.inr rfl)))) (fun s1 H1 C1 cl1 fp1 => by exact pts_ex0) (fun F1 hK1 hF1 s1 H1 C1 cl1 fp1 => by exact (by exact (pe_ixI (by exact hK1) (by exact hu1_of hr) (by exact (pe_nameI (pv 5))) (by exact (pe_caI (dvs := []) (dws := []) (by exact hK1) (by exact ok__law_draw D) (by exact hr.mono (by omega)) (by rfl) (by exact D.g__law_draw) (by exact D.F__law_draw.kp) (by exact b__law_draw D) .nil (by exact Kst.nil) rfl (by exact (pa_consI (by exact (pe_nameI (pv 0))) (pa_consI (by exact (pe_lenI (by exact hK1) (by rfl) (by exact D.u_len) (by exact (pe_nameI (pv 5))))) pa_nilI rfl) rfl)))) (fun _ _ => rfl))))))
    (by exact (pss_oneI (by exact (ps_exI (by exact (pe_appI (by exact hK) (by exact (pe_nameI (pv 3))) (by exact (pe_tupFI (by exact hK) (by rfl) (by exact D.u_tuple) (by exact (pe_srtSetI (by exact hK) (by rfl) (by exact hu_of hr) (by rfl) (by exact D.u_sorted) (by rfl) (by exact D.u_set) (by exact (pa_consI (by exact (pe_nameI (pv 6))) pa_nilI rfl))))))))))))))))))
    (by exact (pss_oneI (by exact (ps_reI (by exact (pe_tupFI (by exact hK) (by rfl) (by exact D.u_tuple) (by exact (pe_srtSetI (by exact hK) (by rfl) (by exact hu_of hr) (by rfl) (by exact D.u_sorted) (by rfl) (by exact D.u_set) (by exact (pa_consI (by exact (pe_nameI (pv 3))) pa_nilI rfl))))))))))))))
theorem sc__law_random_roll : FnScope ["_law_reader_here", "_law_most", "_law_pool", "_law_order", "_law_rows", "_law_k", "_law_worker"] ["_law_reader_here", "_law_most"] (defScope s__law_random_roll) := ⟨rfl, rfl, rfl, by decide +kernel, rfl, by decide +kernel, by decide +kernel⟩
def m__law_random_roll : M Out := (seqM (nlM [2, 3, 4] [(lstM [(kd (.str (PySem.Str.ofString "a"))), (kd (.str (PySem.Str.ofString "ab"))), (kd (.str (PySem.Str.ofString "b"))), (kd (.str (PySem.Str.ofString "dig"))), (kd (.str (PySem.Str.ofString "lay"))), (kd (.str (PySem.Str.ofString "mow"))), (kd (.str (PySem.Str.ofString "put"))), (kd (.str (PySem.Str.ofString "rake"))), (kd (.str (PySem.Str.ofString "saw"))), (kd (.str (PySem.Str.ofString "zzzzzzzz")))]), (lstM []), (lstM [])])
    (seqM (forM (rg1M (caM r__law_draw [] [(rd 0), (gM (gBin .add) [(rd 1), (kd (.int (1)))])])) (.nm 5)
    (exM (mthM "list" (rd 3) [(mthM "list" (rd 2) [(caM r__law_draw [] [(rd 0), (gM (gOne lenC) [(rd 2)])])] gPop)] gAppend)))
    (seqM (frzM 3)
    (seqM (forM (rg1M (gM (gOne lenC) [(rd 3)])) (.nm 5)
    (seqM (asM 6 (gM gIx [(lstM [(kd (.str (PySem.Str.ofString "ann"))), (kd (.str (PySem.Str.ofString "bob"))), (kd (.str (PySem.Str.ofString "cy")))]), (caM r__law_draw [] [(rd 0), (kd (.int (3)))])]))
    (seqM (frzM 3)
    (exM (mthM "list" (rd 4) [(tupM [(gM gIx [(rd 3), (rd 5)]), (rd 6), (caM r__law_random_needs [] [(rd 0), (rd 3), (slM (rd 3) none (some (rd 5)))])])] gAppend)))))
    (reM (gM (gOne tupC) [(gM (gOne srtC) [(rd 4)])]))))))
def r__law_random_roll : Fm := runF 7 (m__law_random_roll)
theorem b__law_random_roll (D : Ds K mg) : Binds K D.fd__law_random_roll ["_law_reader_here", "_law_most"] [] := D.F__law_random_roll.bindsN fun _ _ _ _ _ _ us hl => match us, hl with | [_, _], _ => rfl
theorem ok__law_random_roll (D : Ds K mg) : FnOk P w K mg base CX0 3 D.a__law_random_roll D.fd__law_random_roll ["_law_reader_here", "_law_most"] (spF P w K 2 (r__law_random_roll)) := by
  refine fnI D.F__law_random_roll sc__law_random_roll (m := m__law_random_roll) fun F cdv A outer s H E hK hF hr => ?_
  exact (by exact (pss_consI (by exact (ps_nl3I (i := 2) (j := 3) (l := 4) (by exact hF) (by rfl) (by exact sc__law_random_roll.nd) (by rfl) (by rfl) (by rfl) (by decide) (by decide) (by decide) (by rfl) (by rfl) (by rfl) (pa_frC hK (by exact (pe_lstI (by exact (pa_consI (by exact (pe_strI (by decide +kernel))) (pa_consI (by exact (pe_strI (by decide +kernel))) (pa_consI (by exact (pe_strI (by decide +kernel))) (pa_consI (by exact (pe_strI (by decide +kernel))) (pa_consI (by exact (pe_strI (by decide +kernel))) (pa_consI (by exact (pe_strI (by decide +kernel))) (pa_consI (by exact (pe_strI (by decide +kernel))) (pa_consI (by exact (pe_strI (by decide +kernel))) (pa_consI (by exact (pe_strI (by decide +kernel))) (pa_consI (by exact (pe_strI (by decide +kernel))) pa_nilI rfl) rfl) rfl) rfl) rfl) rfl) rfl) rfl) rfl) rfl)))) (fun _ hK1 hF1 => (pa_frC hK1 (by exact (pe_lstI pa_nilI)) (fun _ hK2 hF2 => (pa_frC hK2 (by exact (pe_lstI pa_nilI)) (fun _ hK3 hF3 => pa_frN)))))) rfl rfl))
    (by exact (pss_consI (by exact (ps_forI (by exact hK) (by exact PassesOwn.never) (by rfl) (by exact (pi_rgI (by rfl) (by exact D.u_range) (by exact (pe_caI (dvs := []) (dws := []) (by exact hK) (by exact ok__law_draw D) (by exact hr.mono (by omega)) (by rfl) (by exact D.g__law_draw) (by exact D.F__law_draw.kp) (by exact b__law_draw D) .nil (by exact Kst.nil) rfl (by exact (pa_consI (by exact (pe_nameI (pv 0))) (pa_consI (by exact (pe_bnI (by exact hK) .add (by decide) (by exact (pe_nameI (pv 1))) pe_intI)) pa_nilI rfl) rfl)))))) (by exact (pg_nmI (i := 5) (by exact sc__law_random_roll.nd) (by rfl) (by first | exact Or.inl rfl | exact Or.inr rfl)))
    (by exact (pss_oneI (by exact (ps_exI (by exact (pe_appI (by exact hK) (by exact (pe_nameI (pv 3))) (by exact (pe_popI (by exact hK) (by exact (pe_nameI (pv 2))) (by exact (pe_caI (dvs := []) (dws := []) (by exact hK) (by exact ok__law_draw D) (by exact hr.mono (by omega)) (by rfl) (by exact D.g__law_draw) (by exact D.F__law_draw.kp) (by exact b__law_draw D) .nil (by exact Kst.nil) rfl (by exact (pa_consI (by exact (pe_nameI (pv 0))) (pa_consI (by exact (pe_lenI (by exact hK) (by rfl) (by exact D.u_len) (by exact (pe_nameI (pv 2))))) pa_nilI rfl) rfl))))))))))))))
    (by exact (pss_frI 3 (by exact (pss_consI (by exact (ps_forI (by exact hK) (by exact PassesOwn.never) (by rfl) (by exact (pi_rgI (by rfl) (by exact D.u_range) (by exact (pe_lenI (by exact hK) (by rfl) (by exact D.u_len) (by exact (pe_nameI (pv 3))))))) (by exact (pg_nmI (i := 5) (by exact sc__law_random_roll.nd) (by rfl) (by first | exact Or.inl rfl | exact Or.inr rfl)))
    (by exact (pss_consI (by exact (ps_asI (i := 6) (by exact sc__law_random_roll.nd) (by rfl) (by first | exact Or.inl rfl | exact Or.inr rfl) (by exact (pe_ixI (by exact hK) (by exact hu1_of hr) (by exact (pe_lstI (by exact (pa_consI (by exact (pe_strI (by decide +kernel))) (pa_consI (by exact (pe_strI (by decide +kernel))) (pa_consI (by exact (pe_strI (by decide +kernel))) pa_nilI rfl) rfl) rfl)))) (by exact (pe_caI (dvs := []) (dws := []) (by exact hK) (by exact ok__law_draw D) (by exact hr.mono (by omega)) (by rfl) (by exact D.g__law_draw) (by exact D.F__law_draw.kp) (by exact b__law_draw D) .nil (by exact Kst.nil) rfl (by exact (pa_consI (by exact (pe_nameI (pv 0))) (pa_consI pe_intI pa_nilI rfl) rfl)))) (fun _ _ => rfl)))))
    (by exact (pss_frI 3 (by exact (pss_oneI (by exact (ps_exI (by exact (pe_appI (by exact hK) (by exact (pe_nameI (pv 4))) (by exact (pe_tupI (by exact (pa_consI (by exact (pe_ixI (by exact hK) (by exact hu1_of hr) (by exact (pe_nameI (pv 3))) (by exact (pe_nameI (pv 5))) (fun _ _ => rfl))) (pa_consI (by exact (pe_nameI (pv 6))) (pa_consI (by exact (pe_caI (dvs := []) (dws := []) (by exact hK) (by exact ok__law_random_needs D) (by exact hr.mono (by omega)) (by rfl) (by exact D.g__law_random_needs) (by exact D.F__law_random_needs.kp) (by exact b__law_random_needs D) .nil (by exact Kst.nil) rfl (by exact (pa_consI (by exact (pe_nameI (pv 0))) (pa_consI (by exact (pe_nameI (pv 3))) (pa_consI (by exact (pe_slI (by exact hK) (by exact (pe_nameI (pv 3))) po_nI (po_sI (by exact (pe_nameI (pv 5)))))) pa_nilI rfl) rfl) rfl)))) pa_nilI rfl) rfl) rfl))))))))))))))))
    (by exact (pss_oneI (by exact (ps_reI (by exact (pe_tupFI (by exact hK) (by rfl) (by exact D.u_tuple) (by exact (pe_srtI (by exact hK) (by exact hu_of hr) (by rfl) (by exact D.u_sorted) (by exact (pe_nameI (pv 4)))))))))))))))))))
theorem sc__law_fixed_rolls : FnScope ["_law_every", "_law_chain", "_law_back", "_law_ring", "_law_four", "_law_free", "_law_pairs", "_law_k"] [] (defScope s__law_fixed_rolls) := ⟨rfl, rfl, rfl, by decide +kernel, rfl, by decide +kernel, by decide +kernel⟩
def m__law_fixed_rolls : M Out := (seqM (asM 0 (lstM [(kd (.str (PySem.Str.ofString "a"))), (kd (.str (PySem.Str.ofString "ab"))), (kd (.str (PySem.Str.ofString "b"))), (kd (.str (PySem.Str.ofString "dig"))), (kd (.str (PySem.Str.ofString "lay"))), (kd (.str (PySem.Str.ofString "mow"))), (kd (.str (PySem.Str.ofString "put"))), (kd (.str (PySem.Str.ofString "rake"))), (kd (.str (PySem.Str.ofString "saw"))), (kd (.str (PySem.Str.ofString "zzzzzzzz")))]))
    (seqM (asM 1 (gM (gOne tupC) [(lcM (rg1M (kd (.int (10)))) [7] (.nm 7) (M.pure true) (tupM [(gM gIx [(rd 0), (rd 7)]), (kd (.str (PySem.Str.ofString "ann"))), (ifM (truM (gM (gCmp .gt) [(rd 7), (kd (.int (0)))])) (tupM [(tupM [(gM gIx [(rd 0), (gM (gBin .sub) [(rd 7), (kd (.int (1)))])])])]) (tupM [(tupM [])]))]))]))
    (seqM (asM 2 (gM (gOne tupC) [(lcM (rg1M (kd (.int (10)))) [7] (.nm 7) (M.pure true) (tupM [(gM gIx [(rd 0), (rd 7)]), (kd (.str (PySem.Str.ofString "bob"))), (ifM (truM (gM (gCmp .lt) [(rd 7), (kd (.int (9)))])) (tupM [(tupM [(gM gIx [(rd 0), (gM (gBin .add) [(rd 7), (kd (.int (1)))])])])]) (tupM [(tupM [])]))]))]))
    (seqM (asM 3 (tupM [(tupM [(kd (.str (PySem.Str.ofString "a"))), (kd (.str (PySem.Str.ofString "ann"))), (tupM [(tupM [(kd (.str (PySem.Str.ofString "b")))])])]), (tupM [(kd (.str (PySem.Str.ofString "b"))), (kd (.str (PySem.Str.ofString "ann"))), (tupM [(tupM [(kd (.str (PySem.Str.ofString "dig")))])])]), (tupM [(kd (.str (PySem.Str.ofString "dig"))), (kd (.str (PySem.Str.ofString "bob"))), (tupM [(tupM [(kd (.str (PySem.Str.ofString "a")))])])]), (tupM [(kd (.str (PySem.Str.ofString "lay"))), (kd (.str (PySem.Str.ofString "cy"))), (tupM [(tupM []), (tupM [(kd (.str (PySem.Str.ofString "a")))])])])]))
    (seqM (asM 4 (tupM [(tupM [(kd (.str (PySem.Str.ofString "dig"))), (kd (.str (PySem.Str.ofString "ann"))), (tupM [(tupM [(kd (.str (PySem.Str.ofString "lay")))]), (tupM [(kd (.str (PySem.Str.ofString "mow")))])])]), (tupM [(kd (.str (PySem.Str.ofString "lay"))), (kd (.str (PySem.Str.ofString "bob"))), (tupM [(tupM [])])]), (tupM [(kd (.str (PySem.Str.ofString "mow"))), (kd (.str (PySem.Str.ofString "cy"))), (tupM [(tupM [])])])]))
    (seqM (asM 4 (gM (gBin .add) [(rd 4), (tupM [(tupM [(kd (.str (PySem.Str.ofString "put"))), (kd (.str (PySem.Str.ofString "ann"))), (tupM [(tupM [(kd (.str (PySem.Str.ofString "dig"))), (kd (.str (PySem.Str.ofString "lay")))]), (tupM [(kd (.str (PySem.Str.ofString "dig"))), (kd (.str (PySem.Str.ofString "mow")))])])]), (tupM [(kd (.str (PySem.Str.ofString "saw"))), (kd (.str (PySem.Str.ofString "bob"))), (tupM [(tupM [(kd (.str (PySem.Str.ofString "dig"))), (kd (.str (PySem.Str.ofString "put")))]), (tupM [(kd (.str (PySem.Str.ofString "saw")))])])])])]))
    (seqM (asM 5 (gM (gOne tupC) [(lcM (rg1M (kd (.int (10)))) [7] (.nm 7) (M.pure true) (tupM [(gM gIx [(rd 0), (rd 7)]), (kd (.str (PySem.Str.ofString "cy"))), (tupM [(tupM [])])]))]))
    (seqM (asM 6 (lstM [(tupM [(kd (.str (PySem.Str.ofString "a"))), (kd (.str (PySem.Str.ofString "ann"))), (tupM [(tupM [])])]), (tupM [(kd (.str (PySem.Str.ofString "ab"))), (kd (.str (PySem.Str.ofString "ann"))), (tupM [(tupM []), (tupM [(kd (.str (PySem.Str.ofString "a")))])])]), (tupM [(kd (.str (PySem.Str.ofString "b"))), (kd (.str (PySem.Str.ofString "bob"))), (tupM [(tupM [(kd (.str (PySem.Str.ofString "a")))]), (tupM [(kd (.str (PySem.Str.ofString "ab")))])])])]))
    (seqM (asM 6 (gM (gBin .add) [(rd 6), (lstM [(tupM [(kd (.str (PySem.Str.ofString "dig"))), (kd (.str (PySem.Str.ofString "bob"))), (tupM [(tupM [(kd (.str (PySem.Str.ofString "a"))), (kd (.str (PySem.Str.ofString "ab")))]), (tupM [(kd (.str (PySem.Str.ofString "b")))])])]), (tupM [(kd (.str (PySem.Str.ofString "lay"))), (kd (.str (PySem.Str.ofString "cy"))), (tupM [(tupM [(kd (.str (PySem.Str.ofString "b"))), (kd (.str (PySem.Str.ofString "dig")))]), (tupM [(kd (.str (PySem.Str.ofString "lay"))), (kd (.str (PySem.Str.ofString "mow")))])])])])]))
    (seqM (asM 6 (gM (gBin .add) [(rd 6), (lstM [(tupM [(kd (.str (PySem.Str.ofString "mow"))), (kd (.str (PySem.Str.ofString "cy"))), (tupM [(tupM [(kd (.str (PySem.Str.ofString "dig")))]), (tupM [(kd (.str (PySem.Str.ofString "lay")))])])]), (tupM [(kd (.str (PySem.Str.ofString "put"))), (kd (.str (PySem.Str.ofString "ann"))), (tupM [(tupM [(kd (.str (PySem.Str.ofString "lay"))), (kd (.str (PySem.Str.ofString "mow")))]), (tupM [(kd (.str (PySem.Str.ofString "put")))])])])])]))
    (reM (lstM [(tupM []), (rd 1), (rd 2), (rd 3), (rd 4), (rd 5), (gM (gOne tupC) [(rd 6)])]))))))))))))
def r__law_fixed_rolls : Fm := runF 8 (m__law_fixed_rolls)
theorem b__law_fixed_rolls (D : Ds K mg) : Binds K D.fd__law_fixed_rolls [] [] := D.F__law_fixed_rolls.bindsN fun _ _ _ _ _ _ us hl => match us, hl with | [], _ => rfl
theorem ok__law_fixed_rolls (D : Ds K mg) : FnOk P w K mg base CX0 1 D.a__law_fixed_rolls D.fd__law_fixed_rolls [] (spF P w K 0 (r__law_fixed_rolls)) := by
  refine fnI D.F__law_fixed_rolls sc__law_fixed_rolls (m := m__law_fixed_rolls) fun F cdv A outer s H E hK hF hr => ?_
  exact (by exact (pss_consI (by exact (ps_asI (i := 0) (by exact sc__law_fixed_rolls.nd) (by rfl) (by first | exact Or.inl rfl | exact Or.inr rfl) (by exact (pe_lstI (by exact (pa_consI (by exact (pe_strI (by decide +kernel))) (pa_consI (by exact (pe_strI (by decide +kernel))) (pa_consI (by exact (pe_strI (by decide +kernel))) (pa_consI (by exact (pe_strI (by decide +kernel))) (pa_consI (by exact (pe_strI (by decide +kernel))) (pa_consI (by exact (pe_strI (by decide +kernel))) (pa_consI (by exact (pe_strI (by decide +kernel))) (pa_consI (by exact (pe_strI (by decide +kernel))) (pa_consI (by exact (pe_strI (by decide +kernel))) (pa_consI (by exact (pe_strI (by decide +kernel))) pa_nilI rfl) rfl) rfl) rfl) rfl) rfl) rfl) rfl) rfl) rfl))))))
    (by exact (pss_consI (by exact (ps_asI (i := 1) (by exact sc__law_fixed_rolls.nd) (by rfl) (by first | exact Or.inl rfl | exact Or.inr rfl) (by exact (pe_tupFI (by exact hK) (by rfl) (by exact D.u_tuple) (by exact (pe_lcI (by exact hK) (by exact hF) (own := [((PySem.Str.ofString "_law_k"), 7)]) (by rfl) (by exact sc__law_fixed_rolls.nd) (by decide) (by exact (pi_rgI (by rfl) (by exact D.u_range) pe_intI)) (blkOk_by (by kernel_rfl)) (fun s1 H1 C1 cl1 fp1 => by exact (by exact (pg_nmI (i := 7) (by exact sc__law_fixed_rolls.nd) (by rfl) (by first | exact Or.inl rfl | exact Or.inr rfl)))) (fun s1 H1 C1 cl1 fp1 => by exact pts_ex0) (fun F1 hK1 hF1 s1 H1 C1 cl1 fp1 => by exact (by exact (pe_tupI (by exact (pa_consI (by exact (pe_ixI (by exact hK1) (by exact hu1_of hr) (by exact (pe_nameI (pv 0))) (by exact (pe_nameI (pv 7))) (fun _ _ => rfl))) (pa_consI (by exact (pe_strI (by decide +kernel))) (pa_consI (by exact (pe_ifI (by exact (pt_cmI (by exact hK1) (by exact hu_of hr) .gt (by exact (pe_nameI (pv 7))) pe_intI (nomark _))) (by exact (pe_tupI (by exact (pa_consI (by exact (pe_tupI (by exact (pa_consI (by exact (pe_ixI (by exact hK1) (by exact hu1_of hr) (by exact (pe_nameI (pv 0))) (by exact (pe_bnI (by exact hK1) .sub (by decide) (by exact (pe_nameI (pv 7))) pe_intI)) (fun _ _ => rfl))) pa_nilI rfl)))) pa_nilI rfl)))) (by exact (pe_tupI (by exact (pa_consI (by exact (pe_tupI pa_nilI)) pa_nilI rfl)))))) pa_nilI rfl) rfl) rfl)))))))))))
    (by exact (pss_consI (by exact (ps_asI (i := 2) (by exact sc__law_fixed_rolls.nd) (by rfl) (by first | exact Or.inl rfl | exact Or.inr rfl) (by exact (pe_tupFI (by exact hK) (by rfl) (by exact D.u_tuple) (by exact (pe_lcI (by exact hK) (by exact hF) (own := [((PySem.Str.ofString "_law_k"), 7)]) (by rfl) (by exact sc__law_fixed_rolls.nd) (by decide) (by exact (pi_rgI (by rfl) (by exact D.u_range) pe_intI)) (blkOk_by (by kernel_rfl)) (fun s2 H2 C2 cl2 fp2 => by exact (by exact (pg_nmI (i := 7) (by exact sc__law_fixed_rolls.nd) (by rfl) (by first | exact Or.inl rfl | exact Or.inr rfl)))) (fun s2 H2 C2 cl2 fp2 => by exact pts_ex0) (fun F2 hK2 hF2 s2 H2 C2 cl2 fp2 => by exact (by exact (pe_tupI (by exact (pa_consI (by exact (pe_ixI (by exact hK2) (by exact hu1_of hr) (by exact (pe_nameI (pv 0))) (by exact (pe_nameI (pv 7))) (fun _ _ => rfl))) (pa_consI (by exact (pe_strI (by decide +kernel))) (pa_consI (by exact (pe_ifI (by exact (pt_cmI (by exact hK2) (by exact hu_of hr) .lt (by exact (pe_nameI (pv 7))) pe_intI (nomark _))) (by exact (pe_tupI (by exact (pa_consI (by exact (pe_tupI (by exact (pa_consI (by exact (pe_ixI (by exact hK2) (by exact hu1_of hr) (by exact (pe_nameI (pv 0))) (by exact (pe_bnI (by exact hK2) .add (by decide) (by exact (pe_nameI (pv 7))) pe_intI)) (fun _ _ => rfl))) pa_nilI rfl)))) pa_nilI rfl)))) (by exact (pe_tupI (by exact (pa_consI (by exact (pe_tupI pa_nilI)) pa_nilI rfl)))))) pa_nilI rfl) rfl) rfl)))))))))))
    (by exact (pss_consI (by exact (ps_asI (i := 3) (by exact sc__law_fixed_rolls.nd) (by rfl) (by first | exact Or.inl rfl | exact Or.inr rfl) (by exact (pe_tupI (by exact (pa_consI (by exact (pe_tupI (by exact (pa_consI (by exact (pe_strI (by decide +kernel))) (pa_consI (by exact (pe_strI (by decide +kernel))) (pa_consI (by exact (pe_tupI (by exact (pa_consI (by exact (pe_tupI (by exact (pa_consI (by exact (pe_strI (by decide +kernel))) pa_nilI rfl)))) pa_nilI rfl)))) pa_nilI rfl) rfl) rfl)))) (pa_consI (by exact (pe_tupI (by exact (pa_consI (by exact (pe_strI (by decide +kernel))) (pa_consI (by exact (pe_strI (by decide +kernel))) (pa_consI (by exact (pe_tupI (by exact (pa_consI (by exact (pe_tupI (by exact (pa_consI (by exact (pe_strI (by decide +kernel))) pa_nilI rfl)))) pa_nilI rfl)))) pa_nilI rfl) rfl) rfl)))) (pa_consI (by exact (pe_tupI (by exact (pa_consI (by exact (pe_strI (by decide +kernel))) (pa_consI (by exact (pe_strI (by decide +kernel))) (pa_consI (by exact (pe_tupI (by exact (pa_consI (by exact (pe_tupI (by exact (pa_consI (by exact (pe_strI (by decide +kernel))) pa_nilI rfl)))) pa_nilI rfl)))) pa_nilI rfl) rfl) rfl)))) (pa_consI (by exact (pe_tupI (by exact (pa_consI (by exact (pe_strI (by decide +kernel))) (pa_consI (by exact (pe_strI (by decide +kernel))) (pa_consI (by exact (pe_tupI (by exact (pa_consI (by exact (pe_tupI pa_nilI)) (pa_consI (by exact (pe_tupI (by exact (pa_consI (by exact (pe_strI (by decide +kernel))) pa_nilI rfl)))) pa_nilI rfl) rfl)))) pa_nilI rfl) rfl) rfl)))) pa_nilI rfl) rfl) rfl) rfl))))))
    (by exact (pss_consI (by exact (ps_asI (i := 4) (by exact sc__law_fixed_rolls.nd) (by rfl) (by first | exact Or.inl rfl | exact Or.inr rfl) (by exact (pe_tupI (by exact (pa_consI (by exact (pe_tupI (by exact (pa_consI (by exact (pe_strI (by decide +kernel))) (pa_consI (by exact (pe_strI (by decide +kernel))) (pa_consI (by exact (pe_tupI (by exact (pa_consI (by exact (pe_tupI (by exact (pa_consI (by exact (pe_strI (by decide +kernel))) pa_nilI rfl)))) (pa_consI (by exact (pe_tupI (by exact (pa_consI (by exact (pe_strI (by decide +kernel))) pa_nilI rfl)))) pa_nilI rfl) rfl)))) pa_nilI rfl) rfl) rfl)))) (pa_consI (by exact (pe_tupI (by exact (pa_consI (by exact (pe_strI (by decide +kernel))) (pa_consI (by exact (pe_strI (by decide +kernel))) (pa_consI (by exact (pe_tupI (by exact (pa_consI (by exact (pe_tupI pa_nilI)) pa_nilI rfl)))) pa_nilI rfl) rfl) rfl)))) (pa_consI (by exact (pe_tupI (by exact (pa_consI (by exact (pe_strI (by decide +kernel))) (pa_consI (by exact (pe_strI (by decide +kernel))) (pa_consI (by exact (pe_tupI (by exact (pa_consI (by exact (pe_tupI pa_nilI)) pa_nilI rfl)))) pa_nilI rfl) rfl) rfl)))) pa_nilI rfl) rfl) rfl))))))
    (by exact (pss_consI (by exact (ps_asI (i := 4) (by exact sc__law_fixed_rolls.nd) (by rfl) (by first | exact Or.inl rfl | exact Or.inr rfl) (by exact (pe_bnI (by exact hK) .add (by decide) (by exact (pe_nameI (pv 4))) (by exact (pe_tupI (by exact (pa_consI (by exact (pe_tupI (by exact (pa_consI (by exact (pe_strI (by decide +kernel))) (pa_consI (by exact (pe_strI (by decide +kernel))) (pa_consI (by exact (pe_tupI (by exact (pa_consI (by exact (pe_tupI (by exact (pa_consI (by exact (pe_strI (by decide +kernel))) (pa_consI (by exact (pe_strI (by decide +kernel))) pa_nilI rfl) rfl)))) (pa_consI (by exact (pe_tupI (by exact (pa_consI (by exact (pe_strI (by decide +kernel))) (pa_consI (by exact (pe_strI (by decide +kernel))) pa_nilI rfl) rfl)))) pa_nilI rfl) rfl)))) pa_nilI rfl) rfl) rfl)))) (pa_consI (by exact (pe_tupI (by exact (pa_consI (by exact (pe_strI (by decide +kernel))) (pa_consI (by exact (pe_strI (by decide +kernel))) (pa_consI (by exact (pe_tupI (by exact (pa_consI (by exact (pe_tupI (by exact (pa_consI (by exact (pe_strI (by decide +kernel))) (pa_consI (by exact (pe_strI (by decide +kernel))) pa_nilI rfl) rfl)))) (pa_consI (by exact (pe_tupI (by exact (pa_consI (by exact (pe_strI (by decide +kernel))) pa_nilI rfl)))) pa_nilI rfl) rfl)))) pa_nilI rfl) rfl) rfl)))) pa_nilI rfl) rfl))))))))
    (by exact (pss_consI (by exact (ps_asI (i := 5) (by exact sc__law_fixed_rolls.nd) (by rfl) (by first | exact Or.inl rfl | exact Or.inr rfl) (by exact (pe_tupFI (by exact hK) (by rfl) (by exact D.u_tuple) (by exact (pe_lcI (by exact hK) (by exact hF) (own := [((PySem.Str.ofString "_law_k"), 7)]) (by rfl) (by exact sc__law_fixed_rolls.nd) (by decide) (by exact (pi_rgI (by rfl) (by exact D.u_range) pe_intI)) (blkOk_by (by kernel_rfl)) (fun s3 H3 C3 cl3 fp3 => by exact (by exact (pg_nmI (i := 7) (by exact sc__law_fixed_rolls.nd) (by rfl) (by first | exact Or.inl rfl | exact Or.inr rfl)))) (fun s3 H3 C3 cl3 fp3 => by exact pts_ex0) (fun F3 hK3 hF3 s3 H3 C3 cl3 fp3 => by exact (by exact (pe_tupI (by exact (pa_consI (by exact (pe_ixI (by exact hK3) (by exact hu1_of hr) (by exact (pe_nameI (pv 0))) (by exact (pe_nameI (pv 7))) (fun _ _ => rfl))) (pa_consI (by exact (pe_strI (by decide +kernel))) (pa_consI (by exact (pe_tupI (by exact (pa_consI (by exact (pe_tupI pa_nilI)) pa_nilI rfl)))) pa_nilI rfl) rfl) rfl)))))))))))
    (by exact (pss_consI (by exact (ps_asI (i := 6) (by exact sc__law_fixed_rolls.nd) (by rfl) (by first | exact Or.inl rfl | exact Or.inr rfl) (by exact (pe_lstI (by exact (pa_consI (by exact (pe_tupI (by exact (pa_consI (by exact (pe_strI (by decide +kernel))) (pa_consI (by exact (pe_strI (by decide +kernel))) (pa_consI (by exact (pe_tupI (by exact (pa_consI (by exact (pe_tupI pa_nilI)) pa_nilI rfl)))) pa_nilI rfl) rfl) rfl)))) (pa_consI (by exact (pe_tupI (by exact (pa_consI (by exact (pe_strI (by decide +kernel))) (pa_consI (by exact (pe_strI (by decide +kernel))) (pa_consI (by exact (pe_tupI (by exact (pa_consI (by exact (pe_tupI pa_nilI)) (pa_consI (by exact (pe_tupI (by exact (pa_consI (by exact (pe_strI (by decide +kernel))) pa_nilI rfl)))) pa_nilI rfl) rfl)))) pa_nilI rfl) rfl) rfl)))) (pa_consI (by exact (pe_tupI (by exact (pa_consI (by exact (pe_strI (by decide +kernel))) (pa_consI (by exact (pe_strI (by decide +kernel))) (pa_consI (by exact (pe_tupI (by exact (pa_consI (by exact (pe_tupI (by exact (pa_consI (by exact (pe_strI (by decide +kernel))) pa_nilI rfl)))) (pa_consI (by exact (pe_tupI (by exact (pa_consI (by exact (pe_strI (by decide +kernel))) pa_nilI rfl)))) pa_nilI rfl) rfl)))) pa_nilI rfl) rfl) rfl)))) pa_nilI rfl) rfl) rfl))))))
    (by exact (pss_consI (by exact (ps_asI (i := 6) (by exact sc__law_fixed_rolls.nd) (by rfl) (by first | exact Or.inl rfl | exact Or.inr rfl) (by exact (pe_bnI (by exact hK) .add (by decide) (by exact (pe_nameI (pv 6))) (by exact (pe_lstI (by exact (pa_consI (by exact (pe_tupI (by exact (pa_consI (by exact (pe_strI (by decide +kernel))) (pa_consI (by exact (pe_strI (by decide +kernel))) (pa_consI (by exact (pe_tupI (by exact (pa_consI (by exact (pe_tupI (by exact (pa_consI (by exact (pe_strI (by decide +kernel))) (pa_consI (by exact (pe_strI (by decide +kernel))) pa_nilI rfl) rfl)))) (pa_consI (by exact (pe_tupI (by exact (pa_consI (by exact (pe_strI (by decide +kernel))) pa_nilI rfl)))) pa_nilI rfl) rfl)))) pa_nilI rfl) rfl) rfl)))) (pa_consI (by exact (pe_tupI (by exact (pa_consI (by exact (pe_strI (by decide +kernel))) (pa_consI (by exact (pe_strI (by decide +kernel))) (pa_consI (by exact (pe_tupI (by exact (pa_consI (by exact (pe_tupI (by exact (pa_consI (by exact (pe_strI (by decide +kernel))) (pa_consI (by exact (pe_strI (by decide +kernel))) pa_nilI rfl) rfl)))) (pa_consI (by exact (pe_tupI (by exact (pa_consI (by exact (pe_strI (by decide +kernel))) (pa_consI (by exact (pe_strI (by decide +kernel))) pa_nilI rfl) rfl)))) pa_nilI rfl) rfl)))) pa_nilI rfl) rfl) rfl)))) pa_nilI rfl) rfl))))))))
    (by exact (pss_consI (by exact (ps_asI (i := 6) (by exact sc__law_fixed_rolls.nd) (by rfl) (by first | exact Or.inl rfl | exact Or.inr rfl) (by exact (pe_bnI (by exact hK) .add (by decide) (by exact (pe_nameI (pv 6))) (by exact (pe_lstI (by exact (pa_consI (by exact (pe_tupI (by exact (pa_consI (by exact (pe_strI (by decide +kernel))) (pa_consI (by exact (pe_strI (by decide +kernel))) (pa_consI (by exact (pe_tupI (by exact (pa_consI (by exact (pe_tupI (by exact (pa_consI (by exact (pe_strI (by decide +kernel))) pa_nilI rfl)))) (pa_consI (by exact (pe_tupI (by exact (pa_consI (by exact (pe_strI (by decide +kernel))) pa_nilI rfl)))) pa_nilI rfl) rfl)))) pa_nilI rfl) rfl) rfl)))) (pa_consI (by exact (pe_tupI (by exact (pa_consI (by exact (pe_strI (by decide +kernel))) (pa_consI (by exact (pe_strI (by decide +kernel))) (pa_consI (by exact (pe_tupI (by exact (pa_consI (by exact (pe_tupI (by exact (pa_consI (by exact (pe_strI (by decide +kernel))) (pa_consI (by exact (pe_strI (by decide +kernel))) pa_nilI rfl) rfl)))) (pa_consI (by exact (pe_tupI (by exact (pa_consI (by exact (pe_strI (by decide +kernel))) pa_nilI rfl)))) pa_nilI rfl) rfl)))) pa_nilI rfl) rfl) rfl)))) pa_nilI rfl) rfl))))))))
    (by exact (pss_oneI (by exact (ps_reI (by exact (pe_lstI (by exact (pa_consI (by exact (pe_tupI pa_nilI)) (pa_consI (by exact (pe_nameI (pv 1))) (pa_consI (by exact (pe_nameI (pv 2))) (pa_consI (by exact (pe_nameI (pv 3))) (pa_consI (by exact (pe_nameI (pv 4))) (pa_consI (by exact (pe_nameI (pv 5))) (pa_consI (by exact (pe_tupFI (by exact hK) (by rfl) (by exact D.u_tuple) (by exact (pe_nameI (pv 6))))) pa_nilI rfl) rfl) rfl) rfl) rfl) rfl) rfl))))))))))))))))))))))))))))
theorem sc__law_deed_names : FnScope ["_law_roll", "_law_row"] ["_law_roll"] (defScope s__law_deed_names) := ⟨rfl, rfl, rfl, by decide +kernel, rfl, by decide +kernel, by decide +kernel⟩
def m__law_deed_names : M Out := (reM (lcM (wkM (rd 0)) [1] (.nm 1) (M.pure true) (gM gIx [(rd 1), (kd (.int (0)))])))
def r__law_deed_names : Fm := runF 2 (m__law_deed_names)
theorem b__law_deed_names (D : Ds K mg) : Binds K D.fd__law_deed_names ["_law_roll"] [] := D.F__law_deed_names.bindsN fun _ _ _ _ _ _ us hl => match us, hl with | [_], _ => rfl
theorem ok__law_deed_names (D : Ds K mg) : FnOk P w K mg base CX0 1 D.a__law_deed_names D.fd__law_deed_names ["_law_roll"] (spF P w K 1 (r__law_deed_names)) := by
  refine fnI D.F__law_deed_names sc__law_deed_names (m := m__law_deed_names) fun F cdv A outer s H E hK hF hr => ?_
  exact (by exact (pss_oneI (by exact (ps_reI (by exact (pe_lcI (by exact hK) (by exact hF) (own := [((PySem.Str.ofString "_law_row"), 1)]) (by rfl) (by exact sc__law_deed_names.nd) (by decide) (by exact (pi_wkI (by exact hK) (by exact (pe_nameI (pv 0))))) (blkOk_by (by kernel_rfl)) (fun s1 H1 C1 cl1 fp1 => by exact (by exact (pg_nmI (i := 1) (by exact sc__law_deed_names.nd) (by rfl) (by first | exact Or.inl rfl | exact Or.inr rfl)))) (fun s1 H1 C1 cl1 fp1 => by exact pts_ex0) (fun F1 hK1 hF1 s1 H1 C1 cl1 fp1 => by exact (by exact (pe_ixI (by exact hK1) (by exact hu1_of hr) (by exact (pe_nameI (pv 1))) pe_intI (fun _ _ => rfl))))))))))
theorem sc__law_random_subset : FnScope ["_law_reader_here", "_law_roll", "_law_way", "_law_some", "_law_one"] ["_law_reader_here", "_law_roll"] (defScope s__law_random_subset) := ⟨rfl, rfl, rfl, by decide +kernel, rfl, by decide +kernel, by decide +kernel⟩
def m__law_random_subset : M Out := (seqM (asM 2 (caM r__law_draw [] [(rd 0), (kd (.int (5)))]))
    (seqM (asM 3 (lcM (wkM (caM r__law_deed_names [] [(rd 1)])) [4] (.nm 4) (orB (truM (gM (gCmp .eq) [(rd 2), (kd (.int (0)))])) (andB (truM (gM (gCmp .gt) [(rd 2), (kd (.int (1)))])) (truM (gM (gCmp .gt) [(caM r__law_draw [] [(rd 0), (rd 2)]), (kd (.int (0)))])))) (rd 4)))
    (reM (gM (gOne tupC) [(rd 3)]))))
def r__law_random_subset : Fm := runF 5 (m__law_random_subset)
theorem b__law_random_subset (D : Ds K mg) : Binds K D.fd__law_random_subset ["_law_reader_here", "_law_roll"] [] := D.F__law_random_subset.bindsN fun _ _ _ _ _ _ us hl => match us, hl with | [_, _], _ => rfl
theorem ok__law_random_subset (D : Ds K mg) : FnOk P w K mg base CX0 2 D.a__law_random_subset D.fd__law_random_subset ["_law_reader_here", "_law_roll"] (spF P w K 2 (r__law_random_subset)) := by
  refine fnI D.F__law_random_subset sc__law_random_subset (m := m__law_random_subset) fun F cdv A outer s H E hK hF hr => ?_
  exact (by exact (pss_consI (by exact (ps_asI (i := 2) (by exact sc__law_random_subset.nd) (by rfl) (by first | exact Or.inl rfl | exact Or.inr rfl) (by exact (pe_caI (dvs := []) (dws := []) (by exact hK) (by exact ok__law_draw D) (by exact hr.mono (by omega)) (by rfl) (by exact D.g__law_draw) (by exact D.F__law_draw.kp) (by exact b__law_draw D) .nil (by exact Kst.nil) rfl (by exact (pa_consI (by exact (pe_nameI (pv 0))) (pa_consI pe_intI pa_nilI rfl) rfl))))))
    (by exact (pss_consI (by exact (ps_lcI (i := 3) (by exact hK) (by exact hF) (own := [((PySem.Str.ofString "_law_one"), 4)])  (by rfl) (by exact sc__law_random_subset.nd) (by rfl) (by rfl) (by exact sw_true rfl rfl rfl rfl) (by decide) (by exact (pi_wkI (by exact hK) (by exact (pe_caI (dvs := []) (dws := []) (by exact hK) (by exact ok__law_deed_names D) (by exact hr.mono (by omega)) (by rfl) (by exact D.g__law_deed_names) (by exact D.F__law_deed_names.kp) (by exact b__law_deed_names D) .nil (by exact Kst.nil) rfl (by exact (pa_consI (by exact (pe_nameI (pv 1))) pa_nilI rfl)))))) (blkOk_by (by kernel_rfl)) (fun s1 H1 C1 cl1 fp1 => by exact (by exact (pg_nmI (i := 4) (by exact sc__law_random_subset.nd) (by rfl) (by first | exact Or.inl rfl | exact Or.inr rfl)))) (fun s1 H1 C1 cl1 fp1 => by exact (pts_ex1 fun F1 hK1 hF1 => (by exact (pt_orI (pw_orI (by exact (pt_cmI (by exact hK1) (by exact hu_of hr) .eq (by exact (pe_nameI (pv 2))) pe_intI (nomark _))) (pw_or1 (by exact (pt_orI (pw_andI (by exact (pt_cmI (by exact hK1) (by exact hu_of hr) .gt (by exact (pe_nameI (pv 2))) pe_intI (nomark _))) (pw_and1 (by exact (pt_cmI (by exact hK1) (by exact hu_of hr) .gt (by exact (pe_caI (dvs := []) (dws := []) (by exact hK1) (by exact ok__law_draw D) (by exact hr.mono (by omega)) (by rfl) (by exact D.g__law_draw) (by exact D.F__law_draw.kp) (by exact b__law_draw D) .nil (by exact Kst.nil) rfl (by exact (pa_consI (by exact (pe_nameI (pv 0))) (pa_consI (by exact (pe_nameI (pv 2))) pa_nilI rfl) rfl)))) pe_intI (nomark _))))))))))))) (fun F1 hK1 hF1 s1 H1 C1 cl1 fp1 => by exact (by exact (pe_nameI (pv 4))))))
    (by exact (pss_oneI (by exact (ps_reI (by exact (pe_tupFI (by exact hK) (by rfl) (by exact D.u_tuple) (by exact (pe_nameI (pv 3)))))))))))))
theorem sc__law_wide_roll : FnScope ["_law_rows"] [] (defScope s__law_wide_roll) := ⟨rfl, rfl, rfl, by decide +kernel, rfl, by decide +kernel, by decide +kernel⟩
def m__law_wide_roll : M Out := (seqM (asM 0 (lstM [(tupM [(kd (.str (PySem.Str.ofString "a"))), (kd (.str (PySem.Str.ofString "ann"))), (tupM [(tupM [])])]), (tupM [(kd (.str (PySem.Str.ofString "ab"))), (kd (.str (PySem.Str.ofString "ann"))), (tupM [(tupM [])])]), (tupM [(kd (.str (PySem.Str.ofString "b"))), (kd (.str (PySem.Str.ofString "bob"))), (tupM [(tupM [])])]), (tupM [(kd (.str (PySem.Str.ofString "dig"))), (kd (.str (PySem.Str.ofString "bob"))), (tupM [(tupM [])])])]))
    (seqM (asM 0 (gM (gBin .add) [(rd 0), (lstM [(tupM [(kd (.str (PySem.Str.ofString "lay"))), (kd (.str (PySem.Str.ofString "cy"))), (tupM [(tupM [(kd (.str (PySem.Str.ofString "ab")))])])]), (tupM [(kd (.str (PySem.Str.ofString "saw"))), (kd (.str (PySem.Str.ofString "cy"))), (tupM [(tupM [(kd (.str (PySem.Str.ofString "a"))), (kd (.str (PySem.Str.ofString "ab"))), (kd (.str (PySem.Str.ofString "b"))), (kd (.str (PySem.Str.ofString "lay")))]), (tupM [(kd (.str (PySem.Str.ofString "a"))), (kd (.str (PySem.Str.ofString "b"))), (kd (.str (PySem.Str.ofString "dig")))])])])])]))
    (reM (gM (gOne tupC) [(rd 0)]))))
def r__law_wide_roll : Fm := runF 1 (m__law_wide_roll)
theorem b__law_wide_roll (D : Ds K mg) : Binds K D.fd__law_wide_roll [] [] := D.F__law_wide_roll.bindsN fun _ _ _ _ _ _ us hl => match us, hl with | [], _ => rfl
theorem ok__law_wide_roll (D : Ds K mg) : FnOk P w K mg base CX0 1 D.a__law_wide_roll D.fd__law_wide_roll [] (spF P w K 0 (r__law_wide_roll)) := by
  refine fnI D.F__law_wide_roll sc__law_wide_roll (m := m__law_wide_roll) fun F cdv A outer s H E hK hF hr => ?_
  exact (by exact (pss_consI (by exact (ps_asI (i := 0) (by exact sc__law_wide_roll.nd) (by rfl) (by first | exact Or.inl rfl | exact Or.inr rfl) (by exact (pe_lstI (by exact (pa_consI (by exact (pe_tupI (by exact (pa_consI (by exact (pe_strI (by decide +kernel))) (pa_consI (by exact (pe_strI (by decide +kernel))) (pa_consI (by exact (pe_tupI (by exact (pa_consI (by exact (pe_tupI pa_nilI)) pa_nilI rfl)))) pa_nilI rfl) rfl) rfl)))) (pa_consI (by exact (pe_tupI (by exact (pa_consI (by exact (pe_strI (by decide +kernel))) (pa_consI (by exact (pe_strI (by decide +kernel))) (pa_consI (by exact (pe_tupI (by exact (pa_consI (by exact (pe_tupI pa_nilI)) pa_nilI rfl)))) pa_nilI rfl) rfl) rfl)))) (pa_consI (by exact (pe_tupI (by exact (pa_consI (by exact (pe_strI (by decide +kernel))) (pa_consI (by exact (pe_strI (by decide +kernel))) (pa_consI (by exact (pe_tupI (by exact (pa_consI (by exact (pe_tupI pa_nilI)) pa_nilI rfl)))) pa_nilI rfl) rfl) rfl)))) (pa_consI (by exact (pe_tupI (by exact (pa_consI (by exact (pe_strI (by decide +kernel))) (pa_consI (by exact (pe_strI (by decide +kernel))) (pa_consI (by exact (pe_tupI (by exact (pa_consI (by exact (pe_tupI pa_nilI)) pa_nilI rfl)))) pa_nilI rfl) rfl) rfl)))) pa_nilI rfl) rfl) rfl) rfl))))))
    (by exact (pss_consI (by exact (ps_asI (i := 0) (by exact sc__law_wide_roll.nd) (by rfl) (by first | exact Or.inl rfl | exact Or.inr rfl) (by exact (pe_bnI (by exact hK) .add (by decide) (by exact (pe_nameI (pv 0))) (by exact (pe_lstI (by exact (pa_consI (by exact (pe_tupI (by exact (pa_consI (by exact (pe_strI (by decide +kernel))) (pa_consI (by exact (pe_strI (by decide +kernel))) (pa_consI (by exact (pe_tupI (by exact (pa_consI (by exact (pe_tupI (by exact (pa_consI (by exact (pe_strI (by decide +kernel))) pa_nilI rfl)))) pa_nilI rfl)))) pa_nilI rfl) rfl) rfl)))) (pa_consI (by exact (pe_tupI (by exact (pa_consI (by exact (pe_strI (by decide +kernel))) (pa_consI (by exact (pe_strI (by decide +kernel))) (pa_consI (by exact (pe_tupI (by exact (pa_consI (by exact (pe_tupI (by exact (pa_consI (by exact (pe_strI (by decide +kernel))) (pa_consI (by exact (pe_strI (by decide +kernel))) (pa_consI (by exact (pe_strI (by decide +kernel))) (pa_consI (by exact (pe_strI (by decide +kernel))) pa_nilI rfl) rfl) rfl) rfl)))) (pa_consI (by exact (pe_tupI (by exact (pa_consI (by exact (pe_strI (by decide +kernel))) (pa_consI (by exact (pe_strI (by decide +kernel))) (pa_consI (by exact (pe_strI (by decide +kernel))) pa_nilI rfl) rfl) rfl)))) pa_nilI rfl) rfl)))) pa_nilI rfl) rfl) rfl)))) pa_nilI rfl) rfl))))))))
    (by exact (pss_oneI (by exact (ps_reI (by exact (pe_tupFI (by exact hK) (by rfl) (by exact D.u_tuple) (by exact (pe_nameI (pv 0)))))))))))))
theorem sc__law_grow : FnScope ["_law_reader_here", "_law_roll", "_law_some", "_law_there", "_law_k", "_law_fresh"] ["_law_reader_here", "_law_roll", "_law_some"] (defScope s__law_grow) := ⟨rfl, rfl, rfl, by decide +kernel, rfl, by decide +kernel, by decide +kernel⟩
def m__law_grow : M Out := (seqM (asM 3 (tupM []))
    (seqM (forM (rg1M (gM (gOne lenC) [(rd 2)])) (.nm 4)
    (seqM (asM 5 (ckM r_next_deeds (fun a b => a ++ b) [(rd 1), (rd 2)] [(rd 3)]))
    (ifS (truM (gM (gCmp .ne) [(rd 5), (tupM [])])) (asM 3 (gM (gOne tupC) [(gM (gOne srtC) [(gM (gBin .add) [(rd 3), (tupM [(gM gIx [(rd 5), (caM r__law_draw [] [(rd 0), (gM (gOne lenC) [(rd 5)])])])])])])])) (M.pure .nx))))
    (reM (rd 3))))
def r__law_grow : Fm := runF 6 (m__law_grow)
theorem b__law_grow (D : Ds K mg) : Binds K D.fd__law_grow ["_law_reader_here", "_law_roll", "_law_some"] [] := D.F__law_grow.bindsN fun _ _ _ _ _ _ us hl => match us, hl with | [_, _, _], _ => rfl
theorem ok__law_grow (D : Ds K mg) : FnOk P w K mg base CX0 4 D.a__law_grow D.fd__law_grow ["_law_reader_here", "_law_roll", "_law_some"] (spF P w K 3 (r__law_grow)) := by
  refine fnI D.F__law_grow sc__law_grow (m := m__law_grow) fun F cdv A outer s H E hK hF hr => ?_
  exact (by exact (pss_consI (by exact (ps_asI (i := 3) (by exact sc__law_grow.nd) (by rfl) (by first | exact Or.inl rfl | exact Or.inr rfl) (by exact (pe_tupI pa_nilI))))
    (by exact (pss_consI (by exact (ps_forI (by exact hK) (by exact PassesOwn.never) (by rfl) (by exact (pi_rgI (by rfl) (by exact D.u_range) (by exact (pe_lenI (by exact hK) (by rfl) (by exact D.u_len) (by exact (pe_nameI (pv 2))))))) (by exact (pg_nmI (i := 4) (by exact sc__law_grow.nd) (by rfl) (by first | exact Or.inl rfl | exact Or.inr rfl)))
    (by exact (pss_consI (by exact (ps_asI (i := 5) (by exact sc__law_grow.nd) (by rfl) (by first | exact Or.inl rfl | exact Or.inr rfl) (by exact (pe_ckI (by exact hK) (by exact ok_next_deeds D) (by exact hr.mono (by omega)) (by rfl) (by exact D.g_next_deeds) (by exact D.F_next_deeds.kp) (by exact kb_next_deeds D) rfl rfl (fun _ _ _ _ _ _ _ l1 l2 r1 r2 => ⟨RepWs.app r1 r2, by rw [List.length_append, l1, l2]; rfl⟩) (by exact (pa_consI (by exact (pe_nameI (pv 1))) (pa_consI (by exact (pe_nameI (pv 2))) pa_nilI rfl) rfl)) (pk_consI (by exact (pe_nameI (pv 3))) pk_nilI)))))
    (by exact (pss_oneI (by exact (ps_ifI (by exact (pt_cmI (by exact hK) (by exact hu_of hr) .ne (by exact (pe_nameI (pv 5))) (by exact (pe_tupI pa_nilI)) (nomark _))) (by exact (pss_oneI (by exact (ps_asI (i := 3) (by exact sc__law_grow.nd) (by rfl) (by first | exact Or.inl rfl | exact Or.inr rfl) (by exact (pe_tupFI (by exact hK) (by rfl) (by exact D.u_tuple) (by exact (pe_srtI (by exact hK) (by exact hu_of hr) (by rfl) (by exact D.u_sorted) (by exact (pe_bnI (by exact hK) .add (by decide) (by exact (pe_nameI (pv 3))) (by exact (pe_tupI (by exact (pa_consI (by exact (pe_ixI (by exact hK) (by exact hu1_of hr) (by exact (pe_nameI (pv 5))) (by exact (pe_caI (dvs := []) (dws := []) (by exact hK) (by exact ok__law_draw D) (by exact hr.mono (by omega)) (by rfl) (by exact D.g__law_draw) (by exact D.F__law_draw.kp) (by exact b__law_draw D) .nil (by exact Kst.nil) rfl (by exact (pa_consI (by exact (pe_nameI (pv 0))) (pa_consI (by exact (pe_lenI (by exact hK) (by rfl) (by exact D.u_len) (by exact (pe_nameI (pv 5))))) pa_nilI rfl) rfl)))) (fun _ _ => rfl))) pa_nilI rfl)))))))))))))) pss_nilI))))))))
    (by exact (pss_oneI (by exact (ps_reI (by exact (pe_nameI (pv 3)))))))))))
theorem sc__law_check_heart : FnScope ["_law_reader_here", "_law_roll", "_law_some", "_law_heart", "_law_one"] ["_law_reader_here", "_law_roll", "_law_some"] (defScope s__law_check_heart) := ⟨rfl, rfl, rfl, by decide +kernel, rfl, by decide +kernel, by decide +kernel⟩
def m__law_check_heart : M Out := (seqM (asM 3 (caM r_heart_of [] [(rd 1), (rd 2)]))
    (seqM (ifS (orB (truM (gM (gCmp .ne) [(caM r__law_grow [] [(rd 0), (rd 1), (rd 2)]), (rd 3)])) (orB (truM (gM (gCmp .nisn) [(caM r_is_meaning [] [(rd 1), (rd 3)]), (kd (.bool true))])) (truM (gM (gCmp .ne) [(caM r_heart_of [] [(rd 1), (rd 3)]), (rd 3)])))) (reM (kd (.bool false))) (M.pure .nx))
    (seqM (ifS (truM (gM (gCmp .ne) [(lcM (wkM (rd 3)) [4] (.nm 4) (orB (truM (gM gNin [(rd 4), (rd 2)])) (notB (truM (caM r_finds_needs [] [(rd 1), (rd 3), (rd 4)])))) (rd 4)), (lstM [])])) (reM (kd (.bool false))) (M.pure .nx))
    (reM (andM (gM (gCmp .eq) [(caM r_is_meaning [] [(rd 1), (rd 2)]), (gM (gCmp .eq) [(rd 3), (rd 2)])]) (gM (gCmp .eq) [(ckM r_next_deeds (fun a b => a ++ b) [(rd 1), (rd 2)] [(rd 3)]), (tupM [])]))))))
def r__law_check_heart : Fm := runF 5 (m__law_check_heart)
theorem b__law_check_heart (D : Ds K mg) : Binds K D.fd__law_check_heart ["_law_reader_here", "_law_roll", "_law_some"] [] := D.F__law_check_heart.bindsN fun _ _ _ _ _ _ us hl => match us, hl with | [_, _, _], _ => rfl
theorem ok__law_check_heart (D : Ds K mg) : FnOk P w K mg base CX0 5 D.a__law_check_heart D.fd__law_check_heart ["_law_reader_here", "_law_roll", "_law_some"] (spF P w K 3 (r__law_check_heart)) := by
  refine fnI D.F__law_check_heart sc__law_check_heart (m := m__law_check_heart) fun F cdv A outer s H E hK hF hr => ?_
  exact (by exact (pss_consI (by exact (ps_asI (i := 3) (by exact sc__law_check_heart.nd) (by rfl) (by first | exact Or.inl rfl | exact Or.inr rfl) (by exact (pe_caI (dvs := []) (dws := []) (by exact hK) (by exact ok_heart_of D) (by exact hr.mono (by omega)) (by rfl) (by exact D.g_heart_of) (by exact D.F_heart_of.kp) (by exact b_heart_of D) .nil (by exact Kst.nil) rfl (by exact (pa_consI (by exact (pe_nameI (pv 1))) (pa_consI (by exact (pe_nameI (pv 2))) pa_nilI rfl) rfl))))))
    (by exact (pss_consI (by exact (ps_ifI (by exact (pt_orI (pw_orI (by exact (pt_cmI (by exact hK) (by exact hu_of hr) .ne (by exact (pe_caI (dvs := []) (dws := []) (by exact hK) (by exact ok__law_grow D) (by exact hr.mono (by omega)) (by rfl) (by exact D.g__law_grow) (by exact D.F__law_grow.kp) (by exact b__law_grow D) .nil (by exact Kst.nil) rfl (by exact (pa_consI (by exact (pe_nameI (pv 0))) (pa_consI (by exact (pe_nameI (pv 1))) (pa_consI (by exact (pe_nameI (pv 2))) pa_nilI rfl) rfl) rfl)))) (by exact (pe_nameI (pv 3))) (nomark _))) (pw_orI (by exact (pt_cmI (by exact hK) (by exact hu_of hr) .nisn (by exact (pe_caI (dvs := []) (dws := []) (by exact hK) (by exact ok_is_meaning D) (by exact hr.mono (by omega)) (by rfl) (by exact D.g_is_meaning) (by exact D.F_is_meaning.kp) (by exact b_is_meaning D) .nil (by exact Kst.nil) rfl (by exact (pa_consI (by exact (pe_nameI (pv 1))) (pa_consI (by exact (pe_nameI (pv 3))) pa_nilI rfl) rfl)))) pe_blI (nomark _))) (pw_or1 (by exact (pt_cmI (by exact hK) (by exact hu_of hr) .ne (by exact (pe_caI (dvs := []) (dws := []) (by exact hK) (by exact ok_heart_of D) (by exact hr.mono (by omega)) (by rfl) (by exact D.g_heart_of) (by exact D.F_heart_of.kp) (by exact b_heart_of D) .nil (by exact Kst.nil) rfl (by exact (pa_consI (by exact (pe_nameI (pv 1))) (pa_consI (by exact (pe_nameI (pv 3))) pa_nilI rfl) rfl)))) (by exact (pe_nameI (pv 3))) (nomark _)))))))) (by exact (pss_oneI (by exact (ps_reI pe_blI)))) pss_nilI))
    (by exact (pss_consI (by exact (ps_ifI (by exact (pt_cmI (by exact hK) (by exact hu_of hr) .ne (by exact (pe_lcI (by exact hK) (by exact hF) (own := [((PySem.Str.ofString "_law_one"), 4)]) (by rfl) (by exact sc__law_check_heart.nd) (by decide) (by exact (pi_wkI (by exact hK) (by exact (pe_nameI (pv 3))))) (blkOk_by (by kernel_rfl)) (fun s1 H1 C1 cl1 fp1 => by exact (by exact (pg_nmI (i := 4) (by exact sc__law_check_heart.nd) (by rfl) (by first | exact Or.inl rfl | exact Or.inr rfl)))) (fun s1 H1 C1 cl1 fp1 => by exact (pts_ex1 fun F1 hK1 hF1 => (by exact (pt_orI (pw_orI (by exact (pt_ninI (by exact hK1) (by exact hu_of hr) (by exact (pe_nameI (pv 4))) (by exact (pe_nameI (pv 2))) rfl)) (pw_or1 (by exact (pt_notI (by exact (pt_truI (by exact hK1) (by exact (pe_caI (dvs := []) (dws := []) (by exact hK1) (by exact ok_finds_needs D) (by exact hr.mono (by omega)) (by rfl) (by exact D.g_finds_needs) (by exact D.F_finds_needs.kp) (by exact b_finds_needs D) .nil (by exact Kst.nil) rfl (by exact (pa_consI (by exact (pe_nameI (pv 1))) (pa_consI (by exact (pe_nameI (pv 3))) (pa_consI (by exact (pe_nameI (pv 4))) pa_nilI rfl) rfl) rfl)))) (fun _ => rfl))))))))))) (fun F1 hK1 hF1 s1 H1 C1 cl1 fp1 => by exact (by exact (pe_nameI (pv 4)))))) (by exact (pe_lstI pa_nilI)) (nomark _))) (by exact (pss_oneI (by exact (ps_reI pe_blI)))) pss_nilI))
    (by exact (pss_oneI (by exact (ps_reI (by exact (pe_andI (by exact hK) (by exact (pe_cmI (by exact hK) (by exact hu_of hr) .eq (by exact (pe_caI (dvs := []) (dws := []) (by exact hK) (by exact ok_is_meaning D) (by exact hr.mono (by omega)) (by rfl) (by exact D.g_is_meaning) (by exact D.F_is_meaning.kp) (by exact b_is_meaning D) .nil (by exact Kst.nil) rfl (by exact (pa_consI (by exact (pe_nameI (pv 1))) (pa_consI (by exact (pe_nameI (pv 2))) pa_nilI rfl) rfl)))) (by exact (pe_cmI (by exact hK) (by exact hu_of hr) .eq (by exact (pe_nameI (pv 3))) (by exact (pe_nameI (pv 2))) (nomark _))) (nomark _))) (pe_one (by exact (pe_cmI (by exact hK) (by exact hu_of hr) .eq (by exact (pe_ckI (by exact hK) (by exact ok_next_deeds D) (by exact hr.mono (by omega)) (by rfl) (by exact D.g_next_deeds) (by exact D.F_next_deeds.kp) (by exact kb_next_deeds D) rfl rfl (fun _ _ _ _ _ _ _ l1 l2 r1 r2 => ⟨RepWs.app r1 r2, by rw [List.length_append, l1, l2]; rfl⟩) (by exact (pa_consI (by exact (pe_nameI (pv 1))) (pa_consI (by exact (pe_nameI (pv 2))) pa_nilI rfl) rfl)) (pk_consI (by exact (pe_nameI (pv 3))) pk_nilI))) (by exact (pe_tupI pa_nilI)) (nomark _))))))))))))))))
theorem sc__law_check_pair : FnScope ["_law_roll", "_law_one", "_law_other", "_law_both", "_law_shared", "_law_hearts", "_law_wide", "_law_own"] ["_law_roll", "_law_one", "_law_other"] (defScope s__law_check_pair) := ⟨rfl, rfl, rfl, by decide +kernel, rfl, by decide +kernel, by decide +kernel⟩
def m__law_check_pair : M Out := (seqM (asM 3 (gM (gOne tupC) [(gM (gOne srtSetC) [(gM (gBin .add) [(rd 1), (rd 2)])])]))
    (seqM (asM 4 (gM (gOne tupC) [(lcM (wkM (rd 1)) [7] (.nm 7) (truM (gM gIn [(rd 7), (rd 2)])) (rd 7))]))
    (seqM (asM 5 (lstM [(caM r_heart_of [] [(rd 0), (rd 1)]), (caM r_heart_of [] [(rd 0), (rd 2)])]))
    (seqM (asM 6 (caM r_heart_of [] [(rd 0), (rd 3)]))
    (seqM (ifS (truM (gM (gCmp .ne) [(lcM (wkM (gM (gBin .add) [(gM gIx [(rd 5), (kd (.int (0)))]), (gM gIx [(rd 5), (kd (.int (1)))])])) [7] (.nm 7) (truM (gM gNin [(rd 7), (rd 6)])) (rd 7)), (lstM [])])) (reM (kd (.bool false))) (M.pure .nx))
    (seqM (ifS (truM (gM (gCmp .nisn) [(caM r_is_meaning [] [(rd 0), (gM (gOne tupC) [(gM (gOne srtSetC) [(gM (gBin .add) [(gM gIx [(rd 5), (kd (.int (0)))]), (gM gIx [(rd 5), (kd (.int (1)))])])])])]), (kd (.bool true))])) (reM (kd (.bool false))) (M.pure .nx))
    (reM (gM (gCmp .eq) [(caM r_heart_of [] [(rd 0), (gM (gOne tupC) [(lcM (wkM (gM gIx [(rd 5), (kd (.int (0)))])) [7] (.nm 7) (truM (gM gIn [(rd 7), (gM gIx [(rd 5), (kd (.int (1)))])])) (rd 7))])]), (caM r_heart_of [] [(rd 0), (rd 4)])]))))))))
def r__law_check_pair : Fm := runF 8 (m__law_check_pair)
theorem b__law_check_pair (D : Ds K mg) : Binds K D.fd__law_check_pair ["_law_roll", "_law_one", "_law_other"] [] := D.F__law_check_pair.bindsN fun _ _ _ _ _ _ us hl => match us, hl with | [_, _, _], _ => rfl
theorem ok__law_check_pair (D : Ds K mg) : FnOk P w K mg base CX0 5 D.a__law_check_pair D.fd__law_check_pair ["_law_roll", "_law_one", "_law_other"] (spF P w K 3 (r__law_check_pair)) := by
  refine fnI D.F__law_check_pair sc__law_check_pair (m := m__law_check_pair) fun F cdv A outer s H E hK hF hr => ?_
  exact (by exact (pss_consI (by exact (ps_asI (i := 3) (by exact sc__law_check_pair.nd) (by rfl) (by first | exact Or.inl rfl | exact Or.inr rfl) (by exact (pe_tupFI (by exact hK) (by rfl) (by exact D.u_tuple) (by exact (pe_srtSetI (by exact hK) (by rfl) (by exact hu_of hr) (by rfl) (by exact D.u_sorted) (by rfl) (by exact D.u_set) (by exact (pa_consI (by exact (pe_bnI (by exact hK) .add (by decide) (by exact (pe_nameI (pv 1))) (by exact (pe_nameI (pv 2))))) pa_nilI rfl))))))))
    (by exact (pss_consI (by exact (ps_asI (i := 4) (by exact sc__law_check_pair.nd) (by rfl) (by first | exact Or.inl rfl | exact Or.inr rfl) (by exact (pe_tupFI (by exact hK) (by rfl) (by exact D.u_tuple) (by exact (pe_lcI (by exact hK) (by exact hF) (own := [((PySem.Str.ofString "_law_own"), 7)]) (by rfl) (by exact sc__law_check_pair.nd) (by decide) (by exact (pi_wkI (by exact hK) (by exact (pe_nameI (pv 1))))) (blkOk_by (by kernel_rfl)) (fun s1 H1 C1 cl1 fp1 => by exact (by exact (pg_nmI (i := 7) (by exact sc__law_check_pair.nd) (by rfl) (by first | exact Or.inl rfl | exact Or.inr rfl)))) (fun s1 H1 C1 cl1 fp1 => by exact (pts_ex1 fun F1 hK1 hF1 => (by exact (pt_inI (by exact hK1) (by exact hu_of hr) (by exact (pe_nameI (pv 7))) (by exact (pe_nameI (pv 2))) rfl)))) (fun F1 hK1 hF1 s1 H1 C1 cl1 fp1 => by exact (by exact (pe_nameI (pv 7))))))))))
    (by exact (pss_consI (by exact (ps_asI (i := 5) (by exact sc__law_check_pair.nd) (by rfl) (by first | exact Or.inl rfl | exact Or.inr rfl) (by exact (pe_lstI (by exact (pa_consI (by exact (pe_caI (dvs := []) (dws := []) (by exact hK) (by exact ok_heart_of D) (by exact hr.mono (by omega)) (by rfl) (by exact D.g_heart_of) (by exact D.F_heart_of.kp) (by exact b_heart_of D) .nil (by exact Kst.nil) rfl (by exact (pa_consI (by exact (pe_nameI (pv 0))) (pa_consI (by exact (pe_nameI (pv 1))) pa_nilI rfl) rfl)))) (pa_consI (by exact (pe_caI (dvs := []) (dws := []) (by exact hK) (by exact ok_heart_of D) (by exact hr.mono (by omega)) (by rfl) (by exact D.g_heart_of) (by exact D.F_heart_of.kp) (by exact b_heart_of D) .nil (by exact Kst.nil) rfl (by exact (pa_consI (by exact (pe_nameI (pv 0))) (pa_consI (by exact (pe_nameI (pv 2))) pa_nilI rfl) rfl)))) pa_nilI rfl) rfl))))))
    (by exact (pss_consI (by exact (ps_asI (i := 6) (by exact sc__law_check_pair.nd) (by rfl) (by first | exact Or.inl rfl | exact Or.inr rfl) (by exact (pe_caI (dvs := []) (dws := []) (by exact hK) (by exact ok_heart_of D) (by exact hr.mono (by omega)) (by rfl) (by exact D.g_heart_of) (by exact D.F_heart_of.kp) (by exact b_heart_of D) .nil (by exact Kst.nil) rfl (by exact (pa_consI (by exact (pe_nameI (pv 0))) (pa_consI (by exact (pe_nameI (pv 3))) pa_nilI rfl) rfl))))))
    (by exact (pss_consI (by exact (ps_ifI (by exact (pt_cmI (by exact hK) (by exact hu_of hr) .ne (by exact (pe_lcI (by exact hK) (by exact hF) (own := [((PySem.Str.ofString "_law_own"), 7)]) (by rfl) (by exact sc__law_check_pair.nd) (by decide) (by exact (pi_wkI (by exact hK) (by exact (pe_bnI (by exact hK) .add (by decide) (by exact (pe_ixI (by exact hK) (by exact hu1_of hr) (by exact (pe_nameI (pv 5))) pe_intI (fun _ _ => rfl))) (by exact (pe_ixI (by exact hK) (by exact hu1_of hr) (by exact (pe_nameI (pv 5))) pe_intI (fun _ _ => rfl))))))) (blkOk_by (by kernel_rfl)) (fun s2 H2 C2 cl2 fp2 => by exact (by exact (pg_nmI (i := 7) (by exact sc__law_check_pair.nd) (by rfl) (by first | exact Or.inl rfl | exact Or.inr rfl)))) (fun s2 H2 C2 cl2 fp2 => by exact (pts_ex1 fun F2 hK2 hF2 => (by exact (pt_ninI (by exact hK2) (by exact hu_of hr) (by exact (pe_nameI (pv 7))) (by exact (pe_nameI (pv 6))) rfl)))) (fun F2 hK2 hF2 s2 H2 C2 cl2 fp2 => by exact (by exact (pe_nameI (pv 7)))))) (by exact (pe_lstI pa_nilI)) (nomark _))) (by exact (pss_oneI (by exact (ps_reI pe_blI)))) pss_nilI))
    (by exact (pss_consI (by exact (ps_ifI (by exact (pt_cmI (by exact hK) (by exact hu_of hr) .nisn (by exact (pe_caI (dvs := []) (dws := []) (by exact hK) (by exact ok_is_meaning D) (by exact hr.mono (by omega)) (by rfl) (by exact D.g_is_meaning) (by exact D.F_is_meaning.kp) (by exact b_is_meaning D) .nil (by exact Kst.nil) rfl (by exact (pa_consI (by exact (pe_nameI (pv 0))) (pa_consI (by exact (pe_tupFI (by exact hK) (by rfl) (by exact D.u_tuple) (by exact (pe_srtSetI (by exact hK) (by rfl) (by exact hu_of hr) (by rfl) (by exact D.u_sorted) (by rfl) (by exact D.u_set) (by exact (pa_consI (by exact (pe_bnI (by exact hK) .add (by decide) (by exact (pe_ixI (by exact hK) (by exact hu1_of hr) (by exact (pe_nameI (pv 5))) pe_intI (fun _ _ => rfl))) (by exact (pe_ixI (by exact hK) (by exact hu1_of hr) (by exact (pe_nameI (pv 5))) pe_intI (fun _ _ => rfl))))) pa_nilI rfl)))))) pa_nilI rfl) rfl)))) pe_blI (nomark _))) (by exact (pss_oneI (by exact (ps_reI pe_blI)))) pss_nilI))
    (by exact (pss_oneI (by exact (ps_reI (by exact (pe_cmI (by exact hK) (by exact hu_of hr) .eq (by exact (pe_caI (dvs := []) (dws := []) (by exact hK) (by exact ok_heart_of D) (by exact hr.mono (by omega)) (by rfl) (by exact D.g_heart_of) (by exact D.F_heart_of.kp) (by exact b_heart_of D) .nil (by exact Kst.nil) rfl (by exact (pa_consI (by exact (pe_nameI (pv 0))) (pa_consI (by exact (pe_tupFI (by exact hK) (by rfl) (by exact D.u_tuple) (by exact (pe_lcI (by exact hK) (by exact hF) (own := [((PySem.Str.ofString "_law_own"), 7)]) (by rfl) (by exact sc__law_check_pair.nd) (by decide) (by exact (pi_wkI (by exact hK) (by exact (pe_ixI (by exact hK) (by exact hu1_of hr) (by exact (pe_nameI (pv 5))) pe_intI (fun _ _ => rfl))))) (blkOk_by (by kernel_rfl)) (fun s3 H3 C3 cl3 fp3 => by exact (by exact (pg_nmI (i := 7) (by exact sc__law_check_pair.nd) (by rfl) (by first | exact Or.inl rfl | exact Or.inr rfl)))) (fun s3 H3 C3 cl3 fp3 => by exact (pts_ex1 fun F3 hK3 hF3 => (by exact (pt_inI (by exact hK3) (by exact hu_of hr) (by exact (pe_nameI (pv 7))) (by exact (pe_ixI (by exact hK3) (by exact hu1_of hr) (by exact (pe_nameI (pv 5))) pe_intI (fun _ _ => rfl))) rfl)))) (fun F3 hK3 hF3 s3 H3 C3 cl3 fp3 => by exact (by exact (pe_nameI (pv 7)))))))) pa_nilI rfl) rfl)))) (by exact (pe_caI (dvs := []) (dws := []) (by exact hK) (by exact ok_heart_of D) (by exact hr.mono (by omega)) (by rfl) (by exact D.g_heart_of) (by exact D.F_heart_of.kp) (by exact b_heart_of D) .nil (by exact Kst.nil) rfl (by exact (pa_consI (by exact (pe_nameI (pv 0))) (pa_consI (by exact (pe_nameI (pv 4))) pa_nilI rfl) rfl)))) (nomark _)))))))))))))))))))
theorem sc__law_relax : FnScope ["_law_reader_here", "_law_roll", "_law_at", "_law_name", "_law_worker", "_law_needs", "_law_every", "_law_rows", "_law_k"] ["_law_reader_here", "_law_roll"] (defScope s__law_relax) := ⟨rfl, rfl, rfl, by decide +kernel, rfl, by decide +kernel, by decide +kernel⟩
def m__law_relax : M Out := (seqM (asM 2 (caM r__law_draw [] [(rd 0), (gM (gOne lenC) [(rd 1)])]))
    (seqM (taM (.tp (.cons (.nm 3) (.cons (.nm 4) (.cons (.nm 5) .nil)))) (gM gIx [(rd 1), (rd 2)]))
    (seqM (asM 6 (caM r__law_deed_names [] [(rd 1)]))
    (seqM (asM 7 (gM (gBin .add) [(gM (gOne lstC) [(slM (rd 5) none (some (negM (kd (.int (1))))))]), (lstM [(slM (gM gIx [(rd 5), (negM (kd (.int (1))))]) (some (kd (.int (1)))) none)])]))
    (seqM (ifS (andB (truM (gM (gCmp .eq) [(gM (gOne lenC) [(rd 5)]), (kd (.int (1)))])) (truM (gM (gCmp .eq) [(caM r__law_draw [] [(rd 0), (kd (.int (2)))]), (kd (.int (0)))]))) (asM 7 (gM (gBin .add) [(gM (gOne lstC) [(rd 5)]), (lstM [(gM (gOne tupC) [(gM (gOne srtSetC) [(lcM (rg1M (kd (.int (2)))) [8] (.nm 8) (M.pure true) (gM gIx [(rd 6), (caM r__law_draw [] [(rd 0), (gM (gOne lenC) [(rd 6)])])]))])])])])) (M.pure .nx))
    (reM (gM (gBin .add) [(gM (gBin .add) [(slM (rd 1) none (some (rd 2))), (tupM [(tupM [(rd 3), (rd 4), (gM (gOne tupC) [(gM (gOne srtSetC) [(rd 7)])])])])]), (slM (rd 1) (some (gM (gBin .add) [(rd 2), (kd (.int (1)))])) none)])))))))
def r__law_relax : Fm := runF 9 (m__law_relax)
theorem b__law_relax (D : Ds K mg) : Binds K D.fd__law_relax ["_law_reader_here", "_law_roll"] [] := D.F__law_relax.bindsN fun _ _ _ _ _ _ us hl => match us, hl with | [_, _], _ => rfl
theorem ok__law_relax (D : Ds K mg) : FnOk P w K mg base CX0 2 D.a__law_relax D.fd__law_relax ["_law_reader_here", "_law_roll"] (spF P w K 2 (r__law_relax)) := by
  refine fnI D.F__law_relax sc__law_relax (m := m__law_relax) fun F cdv A outer s H E hK hF hr => ?_
  exact (by exact (pss_consI (by exact (ps_asI (i := 2) (by exact sc__law_relax.nd) (by rfl) (by first | exact Or.inl rfl | exact Or.inr rfl) (by exact (pe_caI (dvs := []) (dws := []) (by exact hK) (by exact ok__law_draw D) (by exact hr.mono (by omega)) (by rfl) (by exact D.g__law_draw) (by exact D.F__law_draw.kp) (by exact b__law_draw D) .nil (by exact Kst.nil) rfl (by exact (pa_consI (by exact (pe_nameI (pv 0))) (pa_consI (by exact (pe_lenI (by exact hK) (by rfl) (by exact D.u_len) (by exact (pe_nameI (pv 1))))) pa_nilI rfl) rfl))))))
    (by exact (pss_consI (by exact (ps_taI (by exact hK) (by exact (pe_ixI (by exact hK) (by exact hu1_of hr) (by exact (pe_nameI (pv 1))) (by exact (pe_nameI (pv 2))) (fun _ _ => rfl))) (by exact (pg_tpI (by rfl) (pgs_consI (by exact (pg_nmI (i := 3) (by exact sc__law_relax.nd) (by rfl) (by first | exact Or.inl rfl | exact Or.inr rfl))) (pgs_consI (by exact (pg_nmI (i := 4) (by exact sc__law_relax.nd) (by rfl) (by first | exact Or.inl rfl | exact Or.inr rfl))) (pgs_consI (by exact (pg_nmI (i := 5) (by exact sc__law_relax.nd) (by rfl) (by first | exact Or.inl rfl | exact Or.inr rfl))) pgs_nilI)))))))
    (by exact (pss_consI (by exact (ps_asI (i := 6) (by exact sc__law_relax.nd) (by rfl) (by first | exact Or.inl rfl | exact Or.inr rfl) (by exact (pe_caI (dvs := []) (dws := []) (by exact hK) (by exact ok__law_deed_names D) (by exact hr.mono (by omega)) (by rfl) (by exact D.g__law_deed_names) (by exact D.F__law_deed_names.kp) (by exact b__law_deed_names D) .nil (by exact Kst.nil) rfl (by exact (pa_consI (by exact (pe_nameI (pv 1))) pa_nilI rfl))))))
    (by exact (pss_consI (by exact (ps_asI (i := 7) (by exact sc__law_relax.nd) (by rfl) (by first | exact Or.inl rfl | exact Or.inr rfl) (by exact (pe_bnI (by exact hK) .add (by decide) (by exact (pe_lstFI (by exact hK) (by rfl) (by exact D.u_list) (by exact (pe_slI (by exact hK) (by exact (pe_nameI (pv 5))) po_nI (po_sI (by exact (pe_negI pe_intI))))))) (by exact (pe_lstI (by exact (pa_consI (by exact (pe_slI (by exact hK) (by exact (pe_ixI (by exact hK) (by exact hu1_of hr) (by exact (pe_nameI (pv 5))) (by exact (pe_negI pe_intI)) (fun _ _ => rfl))) (po_sI pe_intI) po_nI)) pa_nilI rfl))))))))
    (by exact (pss_consI (by exact (ps_ifI (by exact (pt_orI (pw_andI (by exact (pt_cmI (by exact hK) (by exact hu_of hr) .eq (by exact (pe_lenI (by exact hK) (by rfl) (by exact D.u_len) (by exact (pe_nameI (pv 5))))) pe_intI (nomark _))) (pw_and1 (by exact (pt_cmI (by exact hK) (by exact hu_of hr) .eq (by exact (pe_caI (dvs := []) (dws := []) (by exact hK) (by exact ok__law_draw D) (by exact hr.mono (by omega)) (by rfl) (by exact D.g__law_draw) (by exact D.F__law_draw.kp) (by exact b__law_draw D) .nil (by exact Kst.nil) rfl (by exact (pa_consI (by exact (pe_nameI (pv 0))) (pa_consI pe_intI pa_nilI rfl) rfl)))) pe_intI (nomark _))))))) (by exact (pss_oneI (by exact (ps_asI (i := 7) (by exact sc__law_relax.nd) (by rfl) (by first | exact Or.inl rfl | exact Or.inr rfl) (by exact (pe_bnI (by exact hK) .add (by decide) (by exact (pe_lstFI (by exact hK) (by rfl) (by exact D.u_list) (by exact (pe_nameI (pv 5))))) (by exact (pe_lstI (by exact (pa_consI (by exact (pe_tupFI (by exact hK) (by rfl) (by exact D.u_tuple) (by exact (pe_srtSetI (by exact hK) (by rfl) (by exact hu_of hr) (by rfl) (by exact D.u_sorted) (by rfl) (by exact D.u_set) (by exact (pa_consI (by exact (pe_lcI (by exact hK) (by exact hF) (own := [((PySem.Str.ofString "_law_k"), 8)]) (by rfl) (by exact sc__law_relax.nd) (by decide) (by exact (pi_rgI (by rfl) (by exact D.u_range) pe_intI)) (blkOk_by (by kernel_rfl)) (fun s1 H1 C1 cl1 fp1 => by exact (by exact (pg_nmI (i := 8) (by exact sc__law_relax.nd) (by rfl) (by first | exact Or.inl rfl | exact Or.inr rfl)))) (fun s1 H1 C1 cl1 fp1 => by exact pts_ex0) (fun F1 hK1 hF1 s1 H1 C1 cl1 fp1 => by exact (by exact (pe_ixI (by exact hK1) (by exact hu1_of hr) (by exact (pe_nameI (pv 6))) (by exact (pe_caI (dvs := []) (dws := []) (by exact hK1) (by exact ok__law_draw D) (by exact hr.mono (by omega)) (by rfl) (by exact D.g__law_draw) (by exact D.F__law_draw.kp) (by exact b__law_draw D) .nil (by exact Kst.nil) rfl (by exact (pa_consI (by exact (pe_nameI (pv 0))) (pa_consI (by exact (pe_lenI (by exact hK1) (by rfl) (by exact D.u_len) (by exact (pe_nameI (pv 6))))) pa_nilI rfl) rfl)))) (fun _ _ => rfl)))))) pa_nilI rfl)))))) pa_nilI rfl)))))))))) pss_nilI))
    (by exact (pss_oneI (by exact (ps_reI (by exact (pe_bnI (by exact hK) .add (by decide) (by exact (pe_bnI (by exact hK) .add (by decide) (by exact (pe_slI (by exact hK) (by exact (pe_nameI (pv 1))) po_nI (po_sI (by exact (pe_nameI (pv 2)))))) (by exact (pe_tupI (by exact (pa_consI (by exact (pe_tupI (by exact (pa_consI (by exact (pe_nameI (pv 3))) (pa_consI (by exact (pe_nameI (pv 4))) (pa_consI (by exact (pe_tupFI (by exact hK) (by rfl) (by exact D.u_tuple) (by exact (pe_srtSetI (by exact hK) (by rfl) (by exact hu_of hr) (by rfl) (by exact D.u_sorted) (by rfl) (by exact D.u_set) (by exact (pa_consI (by exact (pe_nameI (pv 7))) pa_nilI rfl)))))) pa_nilI rfl) rfl) rfl)))) pa_nilI rfl)))))) (by exact (pe_slI (by exact hK) (by exact (pe_nameI (pv 1))) (po_sI (by exact (pe_bnI (by exact hK) .add (by decide) (by exact (pe_nameI (pv 2))) pe_intI))) po_nI))))))))))))))))))
theorem sc_law : FnScope ["_law_script", "_law_reader_here", "_law_rolls", "_law_k", "_law_roll", "_law_lots", "_law_easier", "_law_some", "_law_wide", "_law_one"] ["_law_script"] (defScope s_law) := ⟨rfl, rfl, rfl, by decide +kernel, rfl, by decide +kernel, by decide +kernel⟩
def m_law (D : Ds K mg) : M Out := (seqM (shM 1 (caM r__law_reader [] [(rd 0)]))
    (seqM (asM 2 (slM (caM r__law_fixed_rolls [] []) (some (kd (.int (1)))) none))
    (seqM (forM (rg1M (kd (.int (5)))) (.nm 3)
    (exM (mthM "list" (rd 2) [(caM r__law_random_roll [] [(rd 1), (kd (.int (10)))])] gAppend)))
    (seqM (exM (mthM "list" (rd 2) [(caM r__law_wide_roll [] [])] gAppend))
    (seqM (frzM 2)
    (seqM (frzM 6)
    (seqM (frzM 5)
    (seqM (forM (wkM (rd 2)) (.nm 4)
    (seqM (asM 5 (gM (gBin .add) [(lstM [(gM (gOne tupC) [(caM r__law_deed_names [] [(rd 4)])])]), (lcM (rg1M (kd (.int (3)))) [3] (.nm 3) (M.pure true) (caM r__law_random_subset [] [(rd 1), (rd 4)]))]))
    (seqM (forM (rg1M (kd (.int (4)))) (.nm 3)
    (ifS (orB (notB (truM (caM r__law_check_heart [] [(rd 1), (rd 4), (gM gIx [(rd 5), (rd 3)])]))) (notB (truM (caM r__law_check_pair [] [(rd 4), (gM gIx [(rd 5), (rd 3)]), (gM gIx [(rd 5), (gM (gBin .sub) [(rd 3), (kd (.int (1)))])])])))) (reM (kd (.bool false))) (M.pure .nx)))
    (seqM (frzM 6)
    (seqM (frzM 5)
    (ifS (truM (gM (gCmp .ne) [(rd 4), (tupM [])])) (seqM (asM 6 (caM r__law_relax [] [(rd 1), (rd 4)]))
    (seqM (frzM 6)
    (seqM (ifS (truM (gM (gCmp .ne) [(caM (r_lets_roll D) [] [(rd 6)]), (gM (gOne lenC) [(rd 4)])])) (reM (kd (.bool false))) (M.pure .nx))
    (seqM (frzM 5)
    (seqM (frzM 6)
    (forM (wkM (rd 5)) (.nm 7)
    (seqM (frzM 6)
    (seqM (asM 8 (caM r_heart_of [] [(rd 6), (rd 7)]))
    (ifS (truM (gM (gCmp .ne) [(lcM (wkM (caM r_heart_of [] [(rd 4), (rd 7)])) [9] (.nm 9) (truM (gM gNin [(rd 9), (rd 8)])) (rd 9)), (lstM [])])) (reM (kd (.bool false))) (M.pure .nx)))))))))) (M.pure .nx)))))))
    (reM (kd (.bool true)))))))))))
def r_law (D : Ds K mg) : Fm := runF 10 (m_law D)
theorem b_law (D : Ds K mg) : Binds K D.fd_law ["_law_script"] [] := D.F_law.bindsN fun _ _ _ _ _ _ us hl => match us, hl with | [_], _ => rfl
theorem ok_law (D : Ds K mg) : FnOk P w K mg base CX0 10 D.a_law D.fd_law ["_law_script"] (spF P w K 1 ((r_law D))) := by
  refine fnI D.F_law sc_law (m := (m_law D)) fun F cdv A outer s H E hK hF hr => ?_
  exact (by exact (pss_consI (by exact (ps_shI (i := 1) (by exact sc_law.nd) (by rfl) (by first | exact Or.inl rfl | exact Or.inr rfl) (by exact (pe_caI (dvs := []) (dws := []) (by exact hK) (by exact ok__law_reader D) (by exact hr.mono (by omega)) (by rfl) (by exact D.g__law_reader) (by exact D.F__law_reader.kp) (by exact b__law_reader D) .nil (by exact Kst.nil) rfl (by exact (pa_consI (by exact (pe_nameI (pv 0))) pa_nilI rfl))))))
    (by exact (pss_consI (by exact (ps_asI (i := 2) (by exact sc_law.nd) (by rfl) (by first | exact Or.inl rfl | exact Or.inr rfl) (by exact (pe_slI (by exact hK) (by exact (pe_ca0I (by exact hK) (by exact ok__law_fixed_rolls D) (by exact hr.mono (by omega)) (by rfl) (by exact D.g__law_fixed_rolls) (by exact D.F__law_fixed_rolls.kp) (by exact b__law_fixed_rolls D))) (po_sI pe_intI) po_nI))))
    (by exact (pss_consI (by exact (ps_forI (by exact hK) (by exact PassesOwn.never) (by rfl) (by exact (pi_rgI (by rfl) (by exact D.u_range) pe_intI)) (by exact (pg_nmI (i := 3) (by exact sc_law.nd) (by rfl) (by first | exact Or.inl rfl | exact Or.inr rfl)))
    (by exact (pss_oneI (by exact (ps_exI (by exact (pe_appI (by exact hK) (by exact (pe_nameI (pv 2))) (by exact (pe_caI (dvs := []) (dws := []) (by exact hK) (by exact ok__law_random_roll D) (by exact hr.mono (by omega)) (by rfl) (by exact D.g__law_random_roll) (by exact D.F__law_random_roll.kp) (by exact b__law_random_roll D) .nil (by exact Kst.nil) rfl (by exact (pa_consI (by exact (pe_nameI (pv 1))) (pa_consI pe_intI pa_nilI rfl) rfl))))))))))))
    (by exact (pss_consI (by exact (ps_exI (by exact (pe_appI (by exact hK) (by exact (pe_nameI (pv 2))) (by exact (pe_ca0I (by exact hK) (by exact ok__law_wide_roll D) (by exact hr.mono (by omega)) (by rfl) (by exact D.g__law_wide_roll) (by exact D.F__law_wide_roll.kp) (by exact b__law_wide_roll D)))))))
    (by exact (pss_frI 2 (pss_frI 6 (pss_frI 5 (by exact (pss_consI (by exact (ps_forI (by exact hK) (by exact PassesOwn.never) (by rfl) (by exact (pi_wkI (by exact hK) (by exact (pe_nameI (pv 2))))) (by exact (pg_nmI (i := 4) (by exact sc_law.nd) (by rfl) (by first | exact Or.inl rfl | exact Or.inr rfl)))
    (by exact (pss_consI (by exact (ps_asI (i := 5) (by exact sc_law.nd) (by rfl) (by first | exact Or.inl rfl | exact Or.inr rfl) (by exact (pe_bnI (by exact hK) .add (by decide) (by exact (pe_lstI (by exact (pa_consI (by exact (pe_tupFI (by exact hK) (by rfl) (by exact D.u_tuple) (by exact (pe_caI (dvs := []) (dws := []) (by exact hK) (by exact ok__law_deed_names D) (by exact hr.mono (by omega)) (by rfl) (by exact D.g__law_deed_names) (by exact D.F__law_deed_names.kp) (by exact b__law_deed_names D) .nil (by exact Kst.nil) rfl (by exact (pa_consI (by exact (pe_nameI (pv 4))) pa_nilI rfl)))))) pa_nilI rfl)))) (by exact (pe_lcI (by exact hK) (by exact hF) (own := [((PySem.Str.ofString "_law_k"), 3)]) (by rfl) (by exact sc_law.nd) (by decide) (by exact (pi_rgI (by rfl) (by exact D.u_range) pe_intI)) (blkOk_by (by kernel_rfl)) (fun s1 H1 C1 cl1 fp1 => by exact (by exact (pg_nmI (i := 3) (by exact sc_law.nd) (by rfl) (by first | exact Or.inl rfl | exact Or.inr rfl)))) (fun s1 H1 C1 cl1 fp1 => by exact pts_ex0) (fun F1 hK1 hF1 s1 H1 C1 cl1 fp1 => by exact (by exact (pe_caI (dvs := []) (dws := []) (by exact hK1) (by exact ok__law_random_subset D) (by exact hr.mono (by omega)) (by rfl) (by exact D.g__law_random_subset) (by exact D.F__law_random_subset.kp) (by exact b__law_random_subset D) .nil (by exact Kst.nil) rfl (by exact (pa_consI (by exact (pe_nameI (pv 1))) (pa_consI (by exact (pe_nameI (pv 4))) pa_nilI rfl) rfl)))))))))))
    (by exact (pss_consI (by exact (ps_forI (by exact hK) (by exact PassesOwn.never) (by rfl) (by exact (pi_rgI (by rfl) (by exact D.u_range) pe_intI)) (by exact (pg_nmI (i := 3) (by exact sc_law.nd) (by rfl) (by first | exact Or.inl rfl | exact Or.inr rfl)))
    (by exact (pss_oneI (by exact (ps_ifI (by exact (pt_orI (pw_orI (by exact (pt_notI (by exact (pt_truI (by exact hK) (by exact (pe_caI (dvs := []) (dws := []) (by exact hK) (by exact ok__law_check_heart D) (by exact hr.mono (by omega)) (by rfl) (by exact D.g__law_check_heart) (by exact D.F__law_check_heart.kp) (by exact b__law_check_heart D) .nil (by exact Kst.nil) rfl (by exact (pa_consI (by exact (pe_nameI (pv 1))) (pa_consI (by exact (pe_nameI (pv 4))) (pa_consI (by exact (pe_ixI (by exact hK) (by exact hu1_of hr) (by exact (pe_nameI (pv 5))) (by exact (pe_nameI (pv 3))) (fun _ _ => rfl))) pa_nilI rfl) rfl) rfl)))) (fun _ => rfl))))) (pw_or1 (by exact (pt_notI (by exact (pt_truI (by exact hK) (by exact (pe_caI (dvs := []) (dws := []) (by exact hK) (by exact ok__law_check_pair D) (by exact hr.mono (by omega)) (by rfl) (by exact D.g__law_check_pair) (by exact D.F__law_check_pair.kp) (by exact b__law_check_pair D) .nil (by exact Kst.nil) rfl (by exact (pa_consI (by exact (pe_nameI (pv 4))) (pa_consI (by exact (pe_ixI (by exact hK) (by exact hu1_of hr) (by exact (pe_nameI (pv 5))) (by exact (pe_nameI (pv 3))) (fun _ _ => rfl))) (pa_consI (by exact (pe_ixI (by exact hK) (by exact hu1_of hr) (by exact (pe_nameI (pv 5))) (by exact (pe_bnI (by exact hK) .sub (by decide) (by exact (pe_nameI (pv 3))) pe_intI)) (fun _ _ => rfl))) pa_nilI rfl) rfl) rfl)))) (fun _ => rfl))))))))) (by exact (pss_oneI (by exact (ps_reI pe_blI)))) pss_nilI))))))
    (by exact (pss_frI 6 (pss_frI 5 (by exact (pss_oneI (by exact (ps_ifI (by exact (pt_cmI (by exact hK) (by exact hu_of hr) .ne (by exact (pe_nameI (pv 4))) (by exact (pe_tupI pa_nilI)) (nomark _))) (by exact (pss_consI (by exact (ps_asI (i := 6) (by exact sc_law.nd) (by rfl) (by first | exact Or.inl rfl | exact Or.inr rfl) (by exact (pe_caI (dvs := []) (dws := []) (by exact hK) (by exact ok__law_relax D) (by exact hr.mono (by omega)) (by rfl) (by exact D.g__law_relax) (by exact D.F__law_relax.kp) (by exact b__law_relax D) .nil (by exact Kst.nil) rfl (by exact (pa_consI (by exact (pe_nameI (pv 1))) (pa_consI (by exact (pe_nameI (pv 4))) pa_nilI rfl) rfl))))))
    (by exact (pss_frI 6 (by exact (pss_consI (by exact (ps_ifI (by exact (pt_cmI (by exact hK) (by exact hu_of hr) .ne (by exact (pe_caI (dvs := []) (dws := []) (by exact hK) (by exact ok_lets_roll D) (by exact hr.mono (by omega)) (by rfl) (by exact D.g_lets_roll) (by exact D.F_lets_roll.kp) (by exact b_lets_roll D) .nil (by exact Kst.nil) rfl (by exact (pa_consI (by exact (pe_nameI (pv 6))) pa_nilI rfl)))) (by exact (pe_lenI (by exact hK) (by rfl) (by exact D.u_len) (by exact (pe_nameI (pv 4))))) (nomark _))) (by exact (pss_oneI (by exact (ps_reI pe_blI)))) pss_nilI))
    (by exact (pss_frI 5 (pss_frI 6 (by exact (pss_oneI (by exact (ps_forI (by exact hK) (by exact PassesOwn.never) (by rfl) (by exact (pi_wkI (by exact hK) (by exact (pe_nameI (pv 5))))) (by exact (pg_nmI (i := 7) (by exact sc_law.nd) (by rfl) (by first | exact Or.inl rfl | exact Or.inr rfl)))
    (by exact (pss_frI 6 (by exact (pss_consI (by exact (ps_asI (i := 8) (by exact sc_law.nd) (by rfl) (by first | exact Or.inl rfl | exact Or.inr rfl) (by exact (pe_caI (dvs := []) (dws := []) (by exact hK) (by exact ok_heart_of D) (by exact hr.mono (by omega)) (by rfl) (by exact D.g_heart_of) (by exact D.F_heart_of.kp) (by exact b_heart_of D) .nil (by exact Kst.nil) rfl (by exact (pa_consI (by exact (pe_nameI (pv 6))) (pa_consI (by exact (pe_nameI (pv 7))) pa_nilI rfl) rfl))))))
    (by exact (pss_oneI (by exact (ps_ifI (by exact (pt_cmI (by exact hK) (by exact hu_of hr) .ne (by exact (pe_lcI (by exact hK) (by exact hF) (own := [((PySem.Str.ofString "_law_one"), 9)]) (by rfl) (by exact sc_law.nd) (by decide) (by exact (pi_wkI (by exact hK) (by exact (pe_caI (dvs := []) (dws := []) (by exact hK) (by exact ok_heart_of D) (by exact hr.mono (by omega)) (by rfl) (by exact D.g_heart_of) (by exact D.F_heart_of.kp) (by exact b_heart_of D) .nil (by exact Kst.nil) rfl (by exact (pa_consI (by exact (pe_nameI (pv 4))) (pa_consI (by exact (pe_nameI (pv 7))) pa_nilI rfl) rfl)))))) (blkOk_by (by kernel_rfl)) (fun s2 H2 C2 cl2 fp2 => by exact (by exact (pg_nmI (i := 9) (by exact sc_law.nd) (by rfl) (by first | exact Or.inl rfl | exact Or.inr rfl)))) (fun s2 H2 C2 cl2 fp2 => by exact (pts_ex1 fun F2 hK2 hF2 => (by exact (pt_ninI (by exact hK2) (by exact hu_of hr) (by exact (pe_nameI (pv 9))) (by exact (pe_nameI (pv 8))) rfl)))) (fun F2 hK2 hF2 s2 H2 C2 cl2 fp2 => by exact (by exact (pe_nameI (pv 9)))))) (by exact (pe_lstI pa_nilI)) (nomark _))) (by exact (pss_oneI (by exact (ps_reI pe_blI)))) pss_nilI))))))))))))))))))))) pss_nilI)))))))))))))
    (by exact (pss_oneI (by exact (ps_reI pe_blI))))))))))))))))))
end
end Lw
set_option Elab.async false
set_option linter.all false
set_option maxRecDepth 100000
set_option maxHeartbeats 0
namespace Lw
open PySem Mi Tz
section
variable {K : PySem.W.Frag} {mg : Str → Option Value}
def p__law_reader (v_script : (List Int)) : PM (List Int × Int × Int × Int) := fnR (τ := Unit) (l := Unit) (
  (((((pure v_script) >>= fun a => (pure none) >>= fun x => ((pure (63 : Int)) >>= fun i => pure (some i)) >>= fun y => pure (cutD a x y)) >>= fun a => ((pure (0 : Int)) >>= fun a => ((pure (0 : Int)) >>= fun a => ((pure (0 : Int)) >>= fun a => (pure ()) >>= fun p => pure (a, p)) >>= fun p => pure (a, p)) >>= fun p => pure (a, p)) >>= fun p => pure (a, p)) >>= fun p => pure ((fun p => (p.1, p.2.1, p.2.2.1, p.2.2.2.1)) p)) >>= fun b => pure (Fl.rt b)))
theorem t__law_reader (v_script : (List Int)) : TF r__law_reader [roI v_script] (p__law_reader v_script) (.F oR) := by
  unfold r__law_reader m__law_reader p__law_reader
  exact tf_R (τ := Unit) (l := Unit) (G := (fun _ => [none])) (L := fun _ => []) (Γ := [some (.w (roI v_script))]) (we wn) (
  (ts_re (.F oR) (te_dd (o := oR) (fun p => (p.1, p.2.1, p.2.2.1, p.2.2.2.1)) (tw_cons (t1_l (te_lstQ (e := eI) (te_slR (e := eI) (te_rd (i := 0) (a := v_script) (w := roI) rfl) to_n (to_s (te_kd (a := (63 : Int)) (e := eI))) (fun _ => rfl)) (.inr fun _ => rfl))) (tw_cons (t1_d (te_kd (a := (0 : Int)) (e := eI))) (tw_cons (t1_d (te_kd (a := (0 : Int)) (e := eI))) (tw_cons (t1_d (te_kd (a := (0 : Int)) (e := eI))) tw_nil)))) (fun p => ⟨[eL eI p.1, .int p.2.1, .int p.2.2.1, .int p.2.2.2.1], rfl, rfl⟩))))
def p__law_fixed_rolls  : PM (List (List (Str × Str × (List (List Str))))) := fnR (τ := Unit) (l := Unit) (
  (sq ((((pure (PySem.Str.ofString "a")) >>= fun a => ((pure (PySem.Str.ofString "ab")) >>= fun a => ((pure (PySem.Str.ofString "b")) >>= fun a => ((pure (PySem.Str.ofString "dig")) >>= fun a => ((pure (PySem.Str.ofString "lay")) >>= fun a => ((pure (PySem.Str.ofString "mow")) >>= fun a => ((pure (PySem.Str.ofString "put")) >>= fun a => ((pure (PySem.Str.ofString "rake")) >>= fun a => ((pure (PySem.Str.ofString "saw")) >>= fun a => ((pure (PySem.Str.ofString "zzzzzzzz")) >>= fun a => (pure ()) >>= fun p => pure (a, p)) >>= fun p => pure (a, p)) >>= fun p => pure (a, p)) >>= fun p => pure (a, p)) >>= fun p => pure (a, p)) >>= fun p => pure (a, p)) >>= fun p => pure (a, p)) >>= fun p => pure (a, p)) >>= fun p => pure (a, p)) >>= fun p => pure (a, p)) >>= fun p => pure ((fun (p : Str × Str × Str × Str × Str × Str × Str × Str × Str × Str × Unit) => [p.1, p.2.1, p.2.2.1, p.2.2.2.1, p.2.2.2.2.1, p.2.2.2.2.2.1, p.2.2.2.2.2.2.1, p.2.2.2.2.2.2.2.1, p.2.2.2.2.2.2.2.2.1, p.2.2.2.2.2.2.2.2.2.1]) p)) >>= fun a => pure (Fl.nx a)) fun (c1 : (List Str)) =>
  (sq ((((pure (10 : Int)) >>= fun n => gd (decide (-(2 ^ 62) ≤ n ∧ n < 2 ^ 62)) (rgL n)) >>= fun xs => cp (fun (x3 : Int) => (pure true)) (fun (x3 : Int) => ((((pure c1) >>= fun a => (pure x3) >>= fun b => op (L2.atI a b)) >>= fun a => ((pure (PySem.Str.ofString "ann")) >>= fun a => ((pIf ((pure x3) >>= fun a => (pure (0 : Int)) >>= fun b => pure (decide (b < a))) ((((((pure c1) >>= fun a => ((pure x3) >>= fun a => (pure (1 : Int)) >>= fun b => pure (a - b)) >>= fun b => op (L2.atI a b)) >>= fun a => (pure ()) >>= fun p => pure (a, p)) >>= fun p => pure ((fun (p : Str × Unit) => [p.1]) p)) >>= fun a => (pure ()) >>= fun p => pure (a, p)) >>= fun p => pure ((fun (p : (List Str) × Unit) => [p.1]) p)) ((((pure ()) >>= fun p => pure ((fun (_ : Unit) => ([] : (List Str))) p)) >>= fun a => (pure ()) >>= fun p => pure (a, p)) >>= fun p => pure ((fun (p : (List Str) × Unit) => [p.1]) p))) >>= fun a => (pure ()) >>= fun p => pure (a, p)) >>= fun p => pure (a, p)) >>= fun p => pure (a, p)) >>= fun p => pure ((fun (p : Str × Str × (List (List Str)) × Unit) => (p.1, p.2.1, p.2.2.1)) p))) xs) >>= fun a => pure (Fl.nx a)) fun (c2 : (List (Str × Str × (List (List Str))))) =>
  (sq ((((pure (10 : Int)) >>= fun n => gd (decide (-(2 ^ 62) ≤ n ∧ n < 2 ^ 62)) (rgL n)) >>= fun xs => cp (fun (x5 : Int) => (pure true)) (fun (x5 : Int) => ((((pure c1) >>= fun a => (pure x5) >>= fun b => op (L2.atI a b)) >>= fun a => ((pure (PySem.Str.ofString "bob")) >>= fun a => ((pIf ((pure x5) >>= fun a => (pure (9 : Int)) >>= fun b => pure (decide (a < b))) ((((((pure c1) >>= fun a => ((pure x5) >>= fun a => (pure (1 : Int)) >>= fun b => pure (a + b)) >>= fun b => op (L2.atI a b)) >>= fun a => (pure ()) >>= fun p => pure (a, p)) >>= fun p => pure ((fun (p : Str × Unit) => [p.1]) p)) >>= fun a => (pure ()) >>= fun p => pure (a, p)) >>= fun p => pure ((fun (p : (List Str) × Unit) => [p.1]) p)) ((((pure ()) >>= fun p => pure ((fun (_ : Unit) => ([] : (List Str))) p)) >>= fun a => (pure ()) >>= fun p => pure (a, p)) >>= fun p => pure ((fun (p : (List Str) × Unit) => [p.1]) p))) >>= fun a => (pure ()) >>= fun p => pure (a, p)) >>= fun p => pure (a, p)) >>= fun p => pure (a, p)) >>= fun p => pure ((fun (p : Str × Str × (List (List Str)) × Unit) => (p.1, p.2.1, p.2.2.1)) p))) xs) >>= fun a => pure (Fl.nx a)) fun (c4 : (List (Str × Str × (List (List Str))))) =>
  (sq ((((((pure (PySem.Str.ofString "a")) >>= fun a => ((pure (PySem.Str.ofString "ann")) >>= fun a => ((((((pure (PySem.Str.ofString "b")) >>= fun a => (pure ()) >>= fun p => pure (a, p)) >>= fun p => pure ((fun (p : Str × Unit) => [p.1]) p)) >>= fun a => (pure ()) >>= fun p => pure (a, p)) >>= fun p => pure ((fun (p : (List Str) × Unit) => [p.1]) p)) >>= fun a => (pure ()) >>= fun p => pure (a, p)) >>= fun p => pure (a, p)) >>= fun p => pure (a, p)) >>= fun p => pure ((fun (p : Str × Str × (List (List Str)) × Unit) => (p.1, p.2.1, p.2.2.1)) p)) >>= fun a => ((((pure (PySem.Str.ofString "b")) >>= fun a => ((pure (PySem.Str.ofString "ann")) >>= fun a => ((((((pure (PySem.Str.ofString "dig")) >>= fun a => (pure ()) >>= fun p => pure (a, p)) >>= fun p => pure ((fun (p : Str × Unit) => [p.1]) p)) >>= fun a => (pure ()) >>= fun p => pure (a, p)) >>= fun p => pure ((fun (p : (List Str) × Unit) => [p.1]) p)) >>= fun a => (pure ()) >>= fun p => pure (a, p)) >>= fun p => pure (a, p)) >>= fun p => pure (a, p)) >>= fun p => pure ((fun (p : Str × Str × (List (List Str)) × Unit) => (p.1, p.2.1, p.2.2.1)) p)) >>= fun a => ((((pure (PySem.Str.ofString "dig")) >>= fun a => ((pure (PySem.Str.ofString "bob")) >>= fun a => ((((((pure (PySem.Str.ofString "a")) >>= fun a => (pure ()) >>= fun p => pure (a, p)) >>= fun p => pure ((fun (p : Str × Unit) => [p.1]) p)) >>= fun a => (pure ()) >>= fun p => pure (a, p)) >>= fun p => pure ((fun (p : (List Str) × Unit) => [p.1]) p)) >>= fun a => (pure ()) >>= fun p => pure (a, p)) >>= fun p => pure (a, p)) >>= fun p => pure (a, p)) >>= fun p => pure ((fun (p : Str × Str × (List (List Str)) × Unit) => (p.1, p.2.1, p.2.2.1)) p)) >>= fun a => ((((pure (PySem.Str.ofString "lay")) >>= fun a => ((pure (PySem.Str.ofString "cy")) >>= fun a => (((((pure ()) >>= fun p => pure ((fun (_ : Unit) => ([] : (List Str))) p)) >>= fun a => ((((pure (PySem.Str.ofString "a")) >>= fun a => (pure ()) >>= fun p => pure (a, p)) >>= fun p => pure ((fun (p : Str × Unit) => [p.1]) p)) >>= fun a => (pure ()) >>= fun p => pure (a, p)) >>= fun p => pure (a, p)) >>= fun p => pure ((fun (p : (List Str) × (List Str) × Unit) => [p.1, p.2.1]) p)) >>= fun a => (pure ()) >>= fun p => pure (a, p)) >>= fun p => pure (a, p)) >>= fun p => pure (a, p)) >>= fun p => pure ((fun (p : Str × Str × (List (List Str)) × Unit) => (p.1, p.2.1, p.2.2.1)) p)) >>= fun a => (pure ()) >>= fun p => pure (a, p)) >>= fun p => pure (a, p)) >>= fun p => pure (a, p)) >>= fun p => pure (a, p)) >>= fun p => pure ((fun (p : (Str × Str × (List (List Str))) × (Str × Str × (List (List Str))) × (Str × Str × (List (List Str))) × (Str × Str × (List (List Str))) × Unit) => [p.1, p.2.1, p.2.2.1, p.2.2.2.1]) p)) >>= fun a => pure (Fl.nx a)) fun (c6 : (List (Str × Str × (List (List Str))))) =>
  (sq ((((((pure (PySem.Str.ofString "dig")) >>= fun a => ((pure (PySem.Str.ofString "ann")) >>= fun a => ((((((pure (PySem.Str.ofString "lay")) >>= fun a => (pure ()) >>= fun p => pure (a, p)) >>= fun p => pure ((fun (p : Str × Unit) => [p.1]) p)) >>= fun a => ((((pure (PySem.Str.ofString "mow")) >>= fun a => (pure ()) >>= fun p => pure (a, p)) >>= fun p => pure ((fun (p : Str × Unit) => [p.1]) p)) >>= fun a => (pure ()) >>= fun p => pure (a, p)) >>= fun p => pure (a, p)) >>= fun p => pure ((fun (p : (List Str) × (List Str) × Unit) => [p.1, p.2.1]) p)) >>= fun a => (pure ()) >>= fun p => pure (a, p)) >>= fun p => pure (a, p)) >>= fun p => pure (a, p)) >>= fun p => pure ((fun (p : Str × Str × (List (List Str)) × Unit) => (p.1, p.2.1, p.2.2.1)) p)) >>= fun a => ((((pure (PySem.Str.ofString "lay")) >>= fun a => ((pure (PySem.Str.ofString "bob")) >>= fun a => (((((pure ()) >>= fun p => pure ((fun (_ : Unit) => ([] : (List Str))) p)) >>= fun a => (pure ()) >>= fun p => pure (a, p)) >>= fun p => pure ((fun (p : (List Str) × Unit) => [p.1]) p)) >>= fun a => (pure ()) >>= fun p => pure (a, p)) >>= fun p => pure (a, p)) >>= fun p => pure (a, p)) >>= fun p => pure ((fun (p : Str × Str × (List (List Str)) × Unit) => (p.1, p.2.1, p.2.2.1)) p)) >>= fun a => ((((pure (PySem.Str.ofString "mow")) >>= fun a => ((pure (PySem.Str.ofString "cy")) >>= fun a => (((((pure ()) >>= fun p => pure ((fun (_ : Unit) => ([] : (List Str))) p)) >>= fun a => (pure ()) >>= fun p => pure (a, p)) >>= fun p => pure ((fun (p : (List Str) × Unit) => [p.1]) p)) >>= fun a => (pure ()) >>= fun p => pure (a, p)) >>= fun p => pure (a, p)) >>= fun p => pure (a, p)) >>= fun p => pure ((fun (p : Str × Str × (List (List Str)) × Unit) => (p.1, p.2.1, p.2.2.1)) p)) >>= fun a => (pure ()) >>= fun p => pure (a, p)) >>= fun p => pure (a, p)) >>= fun p => pure (a, p)) >>= fun p => pure ((fun (p : (Str × Str × (List (List Str))) × (Str × Str × (List (List Str))) × (Str × Str × (List (List Str))) × Unit) => [p.1, p.2.1, p.2.2.1]) p)) >>= fun a => pure (Fl.nx a)) fun (c7 : (List (Str × Str × (List (List Str))))) =>
  (sq (((pure c7) >>= fun a => (((((pure (PySem.Str.ofString "put")) >>= fun a => ((pure (PySem.Str.ofString "ann")) >>= fun a => ((((((pure (PySem.Str.ofString "dig")) >>= fun a => ((pure (PySem.Str.ofString "lay")) >>= fun a => (pure ()) >>= fun p => pure (a, p)) >>= fun p => pure (a, p)) >>= fun p => pure ((fun (p : Str × Str × Unit) => [p.1, p.2.1]) p)) >>= fun a => ((((pure (PySem.Str.ofString "dig")) >>= fun a => ((pure (PySem.Str.ofString "mow")) >>= fun a => (pure ()) >>= fun p => pure (a, p)) >>= fun p => pure (a, p)) >>= fun p => pure ((fun (p : Str × Str × Unit) => [p.1, p.2.1]) p)) >>= fun a => (pure ()) >>= fun p => pure (a, p)) >>= fun p => pure (a, p)) >>= fun p => pure ((fun (p : (List Str) × (List Str) × Unit) => [p.1, p.2.1]) p)) >>= fun a => (pure ()) >>= fun p => pure (a, p)) >>= fun p => pure (a, p)) >>= fun p => pure (a, p)) >>= fun p => pure ((fun (p : Str × Str × (List (List Str)) × Unit) => (p.1, p.2.1, p.2.2.1)) p)) >>= fun a => ((((pure (PySem.Str.ofString "saw")) >>= fun a => ((pure (PySem.Str.ofString "bob")) >>= fun a => ((((((pure (PySem.Str.ofString "dig")) >>= fun a => ((pure (PySem.Str.ofString "put")) >>= fun a => (pure ()) >>= fun p => pure (a, p)) >>= fun p => pure (a, p)) >>= fun p => pure ((fun (p : Str × Str × Unit) => [p.1, p.2.1]) p)) >>= fun a => ((((pure (PySem.Str.ofString "saw")) >>= fun a => (pure ()) >>= fun p => pure (a, p)) >>= fun p => pure ((fun (p : Str × Unit) => [p.1]) p)) >>= fun a => (pure ()) >>= fun p => pure (a, p)) >>= fun p => pure (a, p)) >>= fun p => pure ((fun (p : (List Str) × (List Str) × Unit) => [p.1, p.2.1]) p)) >>= fun a => (pure ()) >>= fun p => pure (a, p)) >>= fun p => pure (a, p)) >>= fun p => pure (a, p)) >>= fun p => pure ((fun (p : Str × Str × (List (List Str)) × Unit) => (p.1, p.2.1, p.2.2.1)) p)) >>= fun a => (pure ()) >>= fun p => pure (a, p)) >>= fun p => pure (a, p)) >>= fun p => pure ((fun (p : (Str × Str × (List (List Str))) × (Str × Str × (List (List Str))) × Unit) => [p.1, p.2.1]) p)) >>= fun b => gd (size (a.length + b.length)) (a ++ b)) >>= fun a => pure (Fl.nx a)) fun (c8 : (List (Str × Str × (List (List Str))))) =>
  (sq ((((pure (10 : Int)) >>= fun n => gd (decide (-(2 ^ 62) ≤ n ∧ n < 2 ^ 62)) (rgL n)) >>= fun xs => cp (fun (x10 : Int) => (pure true)) (fun (x10 : Int) => ((((pure c1) >>= fun a => (pure x10) >>= fun b => op (L2.atI a b)) >>= fun a => ((pure (PySem.Str.ofString "cy")) >>= fun a => (((((pure ()) >>= fun p => pure ((fun (_ : Unit) => ([] : (List Str))) p)) >>= fun a => (pure ()) >>= fun p => pure (a, p)) >>= fun p => pure ((fun (p : (List Str) × Unit) => [p.1]) p)) >>= fun a => (pure ()) >>= fun p => pure (a, p)) >>= fun p => pure (a, p)) >>= fun p => pure (a, p)) >>= fun p => pure ((fun (p : Str × Str × (List (List Str)) × Unit) => (p.1, p.2.1, p.2.2.1)) p))) xs) >>= fun a => pure (Fl.nx a)) fun (c9 : (List (Str × Str × (List (List Str))))) =>
  (sq ((((((pure (PySem.Str.ofString "a")) >>= fun a => ((pure (PySem.Str.ofString "ann")) >>= fun a => (((((pure ()) >>= fun p => pure ((fun (_ : Unit) => ([] : (List Str))) p)) >>= fun a => (pure ()) >>= fun p => pure (a, p)) >>= fun p => pure ((fun (p : (List Str) × Unit) => [p.1]) p)) >>= fun a => (pure ()) >>= fun p => pure (a, p)) >>= fun p => pure (a, p)) >>= fun p => pure (a, p)) >>= fun p => pure ((fun (p : Str × Str × (List (List Str)) × Unit) => (p.1, p.2.1, p.2.2.1)) p)) >>= fun a => ((((pure (PySem.Str.ofString "ab")) >>= fun a => ((pure (PySem.Str.ofString "ann")) >>= fun a => (((((pure ()) >>= fun p => pure ((fun (_ : Unit) => ([] : (List Str))) p)) >>= fun a => ((((pure (PySem.Str.ofString "a")) >>= fun a => (pure ()) >>= fun p => pure (a, p)) >>= fun p => pure ((fun (p : Str × Unit) => [p.1]) p)) >>= fun a => (pure ()) >>= fun p => pure (a, p)) >>= fun p => pure (a, p)) >>= fun p => pure ((fun (p : (List Str) × (List Str) × Unit) => [p.1, p.2.1]) p)) >>= fun a => (pure ()) >>= fun p => pure (a, p)) >>= fun p => pure (a, p)) >>= fun p => pure (a, p)) >>= fun p => pure ((fun (p : Str × Str × (List (List Str)) × Unit) => (p.1, p.2.1, p.2.2.1)) p)) >>= fun a => ((((pure (PySem.Str.ofString "b")) >>= fun a => ((pure (PySem.Str.ofString "bob")) >>= fun a => ((((((pure (PySem.Str.ofString "a")) >>= fun a => (pure ()) >>= fun p => pure (a, p)) >>= fun p => pure ((fun (p : Str × Unit) => [p.1]) p)) >>= fun a => ((((pure (PySem.Str.ofString "ab")) >>= fun a => (pure ()) >>= fun p => pure (a, p)) >>= fun p => pure ((fun (p : Str × Unit) => [p.1]) p)) >>= fun a => (pure ()) >>= fun p => pure (a, p)) >>= fun p => pure (a, p)) >>= fun p => pure ((fun (p : (List Str) × (List Str) × Unit) => [p.1, p.2.1]) p)) >>= fun a => (pure ()) >>= fun p => pure (a, p)) >>= fun p => pure (a, p)) >>= fun p => pure (a, p)) >>= fun p => pure ((fun (p : Str × Str × (List (List Str)) × Unit) => (p.1, p.2.1, p.2.2.1)) p)) >>= fun a => (pure ()) >>= fun p => pure (a, p)) >>= fun p => pure (a, p)) >>= fun p => pure (a, p)) >>= fun p => pure ((fun (p : (Str × Str × (List (List Str))) × (Str × Str × (List (List Str))) × (Str × Str × (List (List Str))) × Unit) => [p.1, p.2.1, p.2.2.1]) p)) >>= fun a => pure (Fl.nx a)) fun (c11 : (List (Str × Str × (List (List Str))))) =>
  (sq (((pure c11) >>= fun a => (((((pure (PySem.Str.ofString "dig")) >>= fun a => ((pure (PySem.Str.ofString "bob")) >>= fun a => ((((((pure (PySem.Str.ofString "a")) >>= fun a => ((pure (PySem.Str.ofString "ab")) >>= fun a => (pure ()) >>= fun p => pure (a, p)) >>= fun p => pure (a, p)) >>= fun p => pure ((fun (p : Str × Str × Unit) => [p.1, p.2.1]) p)) >>= fun a => ((((pure (PySem.Str.ofString "b")) >>= fun a => (pure ()) >>= fun p => pure (a, p)) >>= fun p => pure ((fun (p : Str × Unit) => [p.1]) p)) >>= fun a => (pure ()) >>= fun p => pure (a, p)) >>= fun p => pure (a, p)) >>= fun p => pure ((fun (p : (List Str) × (List Str) × Unit) => [p.1, p.2.1]) p)) >>= fun a => (pure ()) >>= fun p => pure (a, p)) >>= fun p => pure (a, p)) >>= fun p => pure (a, p)) >>= fun p => pure ((fun (p : Str × Str × (List (List Str)) × Unit) => (p.1, p.2.1, p.2.2.1)) p)) >>= fun a => ((((pure (PySem.Str.ofString "lay")) >>= fun a => ((pure (PySem.Str.ofString "cy")) >>= fun a => ((((((pure (PySem.Str.ofString "b")) >>= fun a => ((pure (PySem.Str.ofString "dig")) >>= fun a => (pure ()) >>= fun p => pure (a, p)) >>= fun p => pure (a, p)) >>= fun p => pure ((fun (p : Str × Str × Unit) => [p.1, p.2.1]) p)) >>= fun a => ((((pure (PySem.Str.ofString "lay")) >>= fun a => ((pure (PySem.Str.ofString "mow")) >>= fun a => (pure ()) >>= fun p => pure (a, p)) >>= fun p => pure (a, p)) >>= fun p => pure ((fun (p : Str × Str × Unit) => [p.1, p.2.1]) p)) >>= fun a => (pure ()) >>= fun p => pure (a, p)) >>= fun p => pure (a, p)) >>= fun p => pure ((fun (p : (List Str) × (List Str) × Unit) => [p.1, p.2.1]) p)) >>= fun a => (pure ()) >>= fun p => pure (a, p)) >>= fun p => pure (a, p)) >>= fun p => pure (a, p)) >>= fun p => pure ((fun (p : Str × Str × (List (List Str)) × Unit) => (p.1, p.2.1, p.2.2.1)) p)) >>= fun a => (pure ()) >>= fun p => pure (a, p)) >>= fun p => pure (a, p)) >>= fun p => pure ((fun (p : (Str × Str × (List (List Str))) × (Str × Str × (List (List Str))) × Unit) => [p.1, p.2.1]) p)) >>= fun b => gd (size (a.length + b.length)) (a ++ b)) >>= fun a => pure (Fl.nx a)) fun (c12 : (List (Str × Str × (List (List Str))))) =>
  (sq (((pure c12) >>= fun a => (((((pure (PySem.Str.ofString "mow")) >>= fun a => ((pure (PySem.Str.ofString "cy")) >>= fun a => ((((((pure (PySem.Str.ofString "dig")) >>= fun a => (pure ()) >>= fun p => pure (a, p)) >>= fun p => pure ((fun (p : Str × Unit) => [p.1]) p)) >>= fun a => ((((pure (PySem.Str.ofString "lay")) >>= fun a => (pure ()) >>= fun p => pure (a, p)) >>= fun p => pure ((fun (p : Str × Unit) => [p.1]) p)) >>= fun a => (pure ()) >>= fun p => pure (a, p)) >>= fun p => pure (a, p)) >>= fun p => pure ((fun (p : (List Str) × (List Str) × Unit) => [p.1, p.2.1]) p)) >>= fun a => (pure ()) >>= fun p => pure (a, p)) >>= fun p => pure (a, p)) >>= fun p => pure (a, p)) >>= fun p => pure ((fun (p : Str × Str × (List (List Str)) × Unit) => (p.1, p.2.1, p.2.2.1)) p)) >>= fun a => ((((pure (PySem.Str.ofString "put")) >>= fun a => ((pure (PySem.Str.ofString "ann")) >>= fun a => ((((((pure (PySem.Str.ofString "lay")) >>= fun a => ((pure (PySem.Str.ofString "mow")) >>= fun a => (pure ()) >>= fun p => pure (a, p)) >>= fun p => pure (a, p)) >>= fun p => pure ((fun (p : Str × Str × Unit) => [p.1, p.2.1]) p)) >>= fun a => ((((pure (PySem.Str.ofString "put")) >>= fun a => (pure ()) >>= fun p => pure (a, p)) >>= fun p => pure ((fun (p : Str × Unit) => [p.1]) p)) >>= fun a => (pure ()) >>= fun p => pure (a, p)) >>= fun p => pure (a, p)) >>= fun p => pure ((fun (p : (List Str) × (List Str) × Unit) => [p.1, p.2.1]) p)) >>= fun a => (pure ()) >>= fun p => pure (a, p)) >>= fun p => pure (a, p)) >>= fun p => pure (a, p)) >>= fun p => pure ((fun (p : Str × Str × (List (List Str)) × Unit) => (p.1, p.2.1, p.2.2.1)) p)) >>= fun a => (pure ()) >>= fun p => pure (a, p)) >>= fun p => pure (a, p)) >>= fun p => pure ((fun (p : (Str × Str × (List (List Str))) × (Str × Str × (List (List Str))) × Unit) => [p.1, p.2.1]) p)) >>= fun b => gd (size (a.length + b.length)) (a ++ b)) >>= fun a => pure (Fl.nx a)) fun (c13 : (List (Str × Str × (List (List Str))))) =>
  (((((pure ()) >>= fun p => pure ((fun (_ : Unit) => ([] : (List (Str × Str × (List (List Str)))))) p)) >>= fun a => ((pure c2) >>= fun a => ((pure c4) >>= fun a => ((pure c6) >>= fun a => ((pure c8) >>= fun a => ((pure c9) >>= fun a => ((pure c13) >>= fun a => (pure ()) >>= fun p => pure (a, p)) >>= fun p => pure (a, p)) >>= fun p => pure (a, p)) >>= fun p => pure (a, p)) >>= fun p => pure (a, p)) >>= fun p => pure (a, p)) >>= fun p => pure (a, p)) >>= fun p => pure ((fun (p : (List (Str × Str × (List (List Str)))) × (List (Str × Str × (List (List Str)))) × (List (Str × Str × (List (List Str)))) × (List (Str × Str × (List (List Str)))) × (List (Str × Str × (List (List Str)))) × (List (Str × Str × (List (List Str)))) × (List (Str × Str × (List (List Str)))) × Unit) => [p.1, p.2.1, p.2.2.1, p.2.2.2.1, p.2.2.2.2.1, p.2.2.2.2.2.1, p.2.2.2.2.2.2.1]) p)) >>= fun b => pure (Fl.rt b)))))))))))))
theorem t__law_fixed_rolls  : TF r__law_fixed_rolls [] (p__law_fixed_rolls ) (.F (oL (eT (eP3 eS eS (eT (eT eS)))))) := by
  unfold r__law_fixed_rolls m__law_fixed_rolls p__law_fixed_rolls
  exact tf_R (τ := Unit) (l := Unit) (G := (fun _ => [none, none, none, none, none, none, none, none])) (L := fun _ => []) (Γ := [none, none, none, none, none, none, none, none]) (wa (wa (wa (wa (wa (wa (wa (wa wn)))))))) (
  (ts_seq (G := fun (c1 : (List Str)) => [some (.ow ((oL eS) c1)), none, none, none, none, none, none, none]) (ts_as (s0 := (.F (oL eS))) (te_lst (e := eS) (fun (p : Str × Str × Str × Str × Str × Str × Str × Str × Str × Str × Unit) => [p.1, p.2.1, p.2.2.1, p.2.2.2.1, p.2.2.2.2.1, p.2.2.2.2.2.1, p.2.2.2.2.2.2.1, p.2.2.2.2.2.2.2.1, p.2.2.2.2.2.2.2.2.1, p.2.2.2.2.2.2.2.2.2.1]) (tw_cons (t1_d (te_kd (a := (PySem.Str.ofString "a")) (e := eS))) (tw_cons (t1_d (te_kd (a := (PySem.Str.ofString "ab")) (e := eS))) (tw_cons (t1_d (te_kd (a := (PySem.Str.ofString "b")) (e := eS))) (tw_cons (t1_d (te_kd (a := (PySem.Str.ofString "dig")) (e := eS))) (tw_cons (t1_d (te_kd (a := (PySem.Str.ofString "lay")) (e := eS))) (tw_cons (t1_d (te_kd (a := (PySem.Str.ofString "mow")) (e := eS))) (tw_cons (t1_d (te_kd (a := (PySem.Str.ofString "put")) (e := eS))) (tw_cons (t1_d (te_kd (a := (PySem.Str.ofString "rake")) (e := eS))) (tw_cons (t1_d (te_kd (a := (PySem.Str.ofString "saw")) (e := eS))) (tw_cons (t1_d (te_kd (a := (PySem.Str.ofString "zzzzzzzz")) (e := eS))) tw_nil)))))))))) (fun _ => ⟨rfl, rfl⟩)) rfl) fun c1 =>
  (ts_seq (G := fun (c2 : (List (Str × Str × (List (List Str))))) => [some (.ow ((oL eS) c1)), some (.w ((dW (eT (eP3 eS eS (eT (eT eS))))) c2)), none, none, none, none, none, none]) (ts_as (s0 := (.D (dW (eT (eP3 eS eS (eT (eT eS))))))) (te_tupQ (e := (eP3 eS eS (eT (eT eS)))) (te_lc (e := eI) (e' := (eP3 eS eS (eT (eT eS)))) (fun (x3 : Int) => [some (.ow ((oL eS) c1)), none, none, none, none, none, none, some (.w ((dW eI) x3))]) rfl (by decide) (fun _ => rfl) (ti_rg (te_kd (a := (10 : Int)) (e := eI))) (fun x3 => tt_true) (fun x3 => (t1_d (te_tup (e := (eP3 eS eS (eT (eT eS)))) (fun (p : Str × Str × (List (List Str)) × Unit) => (p.1, p.2.1, p.2.2.1)) (tw_cons (t1_d (te_ix (e := eS) (te_ro (i := 0) (a := c1) (o := (oL eS)) rfl) (te_rd (i := 7) (a := x3) (w := (dW eI)) rfl) (.inr fun _ => rfl))) (tw_cons (t1_d (te_kd (a := (PySem.Str.ofString "ann")) (e := eS))) (tw_cons (t1_d (te_if (tt_b (te_gtI (te_rd (i := 7) (a := x3) (w := (dW eI)) rfl) (te_kd (a := (0 : Int)) (e := eI)))) (te_tup (e := (eT (eT eS))) (fun (p : (List Str) × Unit) => [p.1]) (tw_cons (t1_d (te_tup (e := (eT eS)) (fun (p : Str × Unit) => [p.1]) (tw_cons (t1_d (te_ix (e := eS) (te_ro (i := 0) (a := c1) (o := (oL eS)) rfl) (te_sub (te_rd (i := 7) (a := x3) (w := (dW eI)) rfl) (te_kd (a := (1 : Int)) (e := eI))) (.inr fun _ => rfl))) tw_nil) (fun _ => ⟨_, rfl, rfl, rfl⟩))) tw_nil) (fun _ => ⟨_, rfl, rfl, rfl⟩)) (te_tup (e := (eT (eT eS))) (fun (p : (List Str) × Unit) => [p.1]) (tw_cons (t1_d (te_tup (e := (eT eS)) (fun (_ : Unit) => ([] : (List Str))) tw_nil (fun _ => ⟨_, rfl, rfl, rfl⟩))) tw_nil) (fun _ => ⟨_, rfl, rfl, rfl⟩)))) tw_nil))) (fun _ => ⟨_, rfl, rfl, rfl⟩)))) (fun _ => rfl)) (.inr fun _ => rfl)) rfl) fun c2 =>
  (ts_seq (G := fun (c4 : (List (Str × Str × (List (List Str))))) => [some (.ow ((oL eS) c1)), some (.w ((dW (eT (eP3 eS eS (eT (eT eS))))) c2)), some (.w ((dW (eT (eP3 eS eS (eT (eT eS))))) c4)), none, none, none, none, none]) (ts_as (s0 := (.D (dW (eT (eP3 eS eS (eT (eT eS))))))) (te_tupQ (e := (eP3 eS eS (eT (eT eS)))) (te_lc (e := eI) (e' := (eP3 eS eS (eT (eT eS)))) (fun (x5 : Int) => [some (.ow ((oL eS) c1)), some (.w ((dW (eT (eP3 eS eS (eT (eT eS))))) c2)), none, none, none, none, none, some (.w ((dW eI) x5))]) rfl (by decide) (fun _ => rfl) (ti_rg (te_kd (a := (10 : Int)) (e := eI))) (fun x5 => tt_true) (fun x5 => (t1_d (te_tup (e := (eP3 eS eS (eT (eT eS)))) (fun (p : Str × Str × (List (List Str)) × Unit) => (p.1, p.2.1, p.2.2.1)) (tw_cons (t1_d (te_ix (e := eS) (te_ro (i := 0) (a := c1) (o := (oL eS)) rfl) (te_rd (i := 7) (a := x5) (w := (dW eI)) rfl) (.inr fun _ => rfl))) (tw_cons (t1_d (te_kd (a := (PySem.Str.ofString "bob")) (e := eS))) (tw_cons (t1_d (te_if (tt_b (te_ltI (te_rd (i := 7) (a := x5) (w := (dW eI)) rfl) (te_kd (a := (9 : Int)) (e := eI)))) (te_tup (e := (eT (eT eS))) (fun (p : (List Str) × Unit) => [p.1]) (tw_cons (t1_d (te_tup (e := (eT eS)) (fun (p : Str × Unit) => [p.1]) (tw_cons (t1_d (te_ix (e := eS) (te_ro (i := 0) (a := c1) (o := (oL eS)) rfl) (te_add (te_rd (i := 7) (a := x5) (w := (dW eI)) rfl) (te_kd (a := (1 : Int)) (e := eI))) (.inr fun _ => rfl))) tw_nil) (fun _ => ⟨_, rfl, rfl, rfl⟩))) tw_nil) (fun _ => ⟨_, rfl, rfl, rfl⟩)) (te_tup (e := (eT (eT eS))) (fun (p : (List Str) × Unit) => [p.1]) (tw_cons (t1_d (te_tup (e := (eT eS)) (fun (_ : Unit) => ([] : (List Str))) tw_nil (fun _ => ⟨_, rfl, rfl, rfl⟩))) tw_nil) (fun _ => ⟨_, rfl, rfl, rfl⟩)))) tw_nil))) (fun _ => ⟨_, rfl, rfl, rfl⟩)))) (fun _ => rfl)) (.inr fun _ => rfl)) rfl) fun c4 =>
  (ts_seq (G := fun (c6 : (List (Str × Str × (List (List Str))))) => [some (.ow ((oL eS) c1)), some (.w ((dW (eT (eP3 eS eS (eT (eT eS))))) c2)), some (.w ((dW (eT (eP3 eS eS (eT (eT eS))))) c4)), some (.w ((dW (eT (eP3 eS eS (eT (eT eS))))) c6)), none, none, none, none]) (ts_as (s0 := (.D (dW (eT (eP3 eS eS (eT (eT eS))))))) (te_tup (e := (eT (eP3 eS eS (eT (eT eS))))) (fun (p : (Str × Str × (List (List Str))) × (Str × Str × (List (List Str))) × (Str × Str × (List (List Str))) × (Str × Str × (List (List Str))) × Unit) => [p.1, p.2.1, p.2.2.1, p.2.2.2.1]) (tw_cons (t1_d (te_tup (e := (eP3 eS eS (eT (eT eS)))) (fun (p : Str × Str × (List (List Str)) × Unit) => (p.1, p.2.1, p.2.2.1)) (tw_cons (t1_d (te_kd (a := (PySem.Str.ofString "a")) (e := eS))) (tw_cons (t1_d (te_kd (a := (PySem.Str.ofString "ann")) (e := eS))) (tw_cons (t1_d (te_tup (e := (eT (eT eS))) (fun (p : (List Str) × Unit) => [p.1]) (tw_cons (t1_d (te_tup (e := (eT eS)) (fun (p : Str × Unit) => [p.1]) (tw_cons (t1_d (te_kd (a := (PySem.Str.ofString "b")) (e := eS))) tw_nil) (fun _ => ⟨_, rfl, rfl, rfl⟩))) tw_nil) (fun _ => ⟨_, rfl, rfl, rfl⟩))) tw_nil))) (fun _ => ⟨_, rfl, rfl, rfl⟩))) (tw_cons (t1_d (te_tup (e := (eP3 eS eS (eT (eT eS)))) (fun (p : Str × Str × (List (List Str)) × Unit) => (p.1, p.2.1, p.2.2.1)) (tw_cons (t1_d (te_kd (a := (PySem.Str.ofString "b")) (e := eS))) (tw_cons (t1_d (te_kd (a := (PySem.Str.ofString "ann")) (e := eS))) (tw_cons (t1_d (te_tup (e := (eT (eT eS))) (fun (p : (List Str) × Unit) => [p.1]) (tw_cons (t1_d (te_tup (e := (eT eS)) (fun (p : Str × Unit) => [p.1]) (tw_cons (t1_d (te_kd (a := (PySem.Str.ofString "dig")) (e := eS))) tw_nil) (fun _ => ⟨_, rfl, rfl, rfl⟩))) tw_nil) (fun _ => ⟨_, rfl, rfl, rfl⟩))) tw_nil))) (fun _ => ⟨_, rfl, rfl, rfl⟩))) (tw_cons (t1_d (te_tup (e := (eP3 eS eS (eT (eT eS)))) (fun (p : Str × Str × (List (List Str)) × Unit) => (p.1, p.2.1, p.2.2.1)) (tw_cons (t1_d (te_kd (a := (PySem.Str.ofString "dig")) (e := eS))) (tw_cons (t1_d (te_kd (a := (PySem.Str.ofString "bob")) (e := eS))) (tw_cons (t1_d (te_tup (e := (eT (eT eS))) (fun (p : (List Str) × Unit) => [p.1]) (tw_cons (t1_d (te_tup (e := (eT eS)) (fun (p : Str × Unit) => [p.1]) (tw_cons (t1_d (te_kd (a := (PySem.Str.ofString "a")) (e := eS))) tw_nil) (fun _ => ⟨_, rfl, rfl, rfl⟩))) tw_nil) (fun _ => ⟨_, rfl, rfl, rfl⟩))) tw_nil))) (fun _ => ⟨_, rfl, rfl, rfl⟩))) (tw_cons (t1_d (te_tup (e := (eP3 eS eS (eT (eT eS)))) (fun (p : Str × Str × (List (List Str)) × Unit) => (p.1, p.2.1, p.2.2.1)) (tw_cons (t1_d (te_kd (a := (PySem.Str.ofString "lay")) (e := eS))) (tw_cons (t1_d (te_kd (a := (PySem.Str.ofString "cy")) (e := eS))) (tw_cons (t1_d (te_tup (e := (eT (eT eS))) (fun (p : (List Str) × (List Str) × Unit) => [p.1, p.2.1]) (tw_cons (t1_d (te_tup (e := (eT eS)) (fun (_ : Unit) => ([] : (List Str))) tw_nil (fun _ => ⟨_, rfl, rfl, rfl⟩))) (tw_cons (t1_d (te_tup (e := (eT eS)) (fun (p : Str × Unit) => [p.1]) (tw_cons (t1_d (te_kd (a := (PySem.Str.ofString "a")) (e := eS))) tw_nil) (fun _ => ⟨_, rfl, rfl, rfl⟩))) tw_nil)) (fun _ => ⟨_, rfl, rfl, rfl⟩))) tw_nil))) (fun _ => ⟨_, rfl, rfl, rfl⟩))) tw_nil)))) (fun _ => ⟨_, rfl, rfl, rfl⟩)) rfl) fun c6 =>
  (ts_seq (G := fun (c7 : (List (Str × Str × (List (List Str))))) => [some (.ow ((oL eS) c1)), some (.w ((dW (eT (eP3 eS eS (eT (eT eS))))) c2)), some (.w ((dW (eT (eP3 eS eS (eT (eT eS))))) c4)), some (.w ((dW (eT (eP3 eS eS (eT (eT eS))))) c6)), some (.w ((dW (eT (eP3 eS eS (eT (eT eS))))) c7)), none, none, none]) (ts_as (s0 := (.D (dW (eT (eP3 eS eS (eT (eT eS))))))) (te_tup (e := (eT (eP3 eS eS (eT (eT eS))))) (fun (p : (Str × Str × (List (List Str))) × (Str × Str × (List (List Str))) × (Str × Str × (List (List Str))) × Unit) => [p.1, p.2.1, p.2.2.1]) (tw_cons (t1_d (te_tup (e := (eP3 eS eS (eT (eT eS)))) (fun (p : Str × Str × (List (List Str)) × Unit) => (p.1, p.2.1, p.2.2.1)) (tw_cons (t1_d (te_kd (a := (PySem.Str.ofString "dig")) (e := eS))) (tw_cons (t1_d (te_kd (a := (PySem.Str.ofString "ann")) (e := eS))) (tw_cons (t1_d (te_tup (e := (eT (eT eS))) (fun (p : (List Str) × (List Str) × Unit) => [p.1, p.2.1]) (tw_cons (t1_d (te_tup (e := (eT eS)) (fun (p : Str × Unit) => [p.1]) (tw_cons (t1_d (te_kd (a := (PySem.Str.ofString "lay")) (e := eS))) tw_nil) (fun _ => ⟨_, rfl, rfl, rfl⟩))) (tw_cons (t1_d (te_tup (e := (eT eS)) (fun (p : Str × Unit) => [p.1]) (tw_cons (t1_d (te_kd (a := (PySem.Str.ofString "mow")) (e := eS))) tw_nil) (fun _ => ⟨_, rfl, rfl, rfl⟩))) tw_nil)) (fun _ => ⟨_, rfl, rfl, rfl⟩))) tw_nil))) (fun _ => ⟨_, rfl, rfl, rfl⟩))) (tw_cons (t1_d (te_tup (e := (eP3 eS eS (eT (eT eS)))) (fun (p : Str × Str × (List (List Str)) × Unit) => (p.1, p.2.1, p.2.2.1)) (tw_cons (t1_d (te_kd (a := (PySem.Str.ofString "lay")) (e := eS))) (tw_cons (t1_d (te_kd (a := (PySem.Str.ofString "bob")) (e := eS))) (tw_cons (t1_d (te_tup (e := (eT (eT eS))) (fun (p : (List Str) × Unit) => [p.1]) (tw_cons (t1_d (te_tup (e := (eT eS)) (fun (_ : Unit) => ([] : (List Str))) tw_nil (fun _ => ⟨_, rfl, rfl, rfl⟩))) tw_nil) (fun _ => ⟨_, rfl, rfl, rfl⟩))) tw_nil))) (fun _ => ⟨_, rfl, rfl, rfl⟩))) (tw_cons (t1_d (te_tup (e := (eP3 eS eS (eT (eT eS)))) (fun (p : Str × Str × (List (List Str)) × Unit) => (p.1, p.2.1, p.2.2.1)) (tw_cons (t1_d (te_kd (a := (PySem.Str.ofString "mow")) (e := eS))) (tw_cons (t1_d (te_kd (a := (PySem.Str.ofString "cy")) (e := eS))) (tw_cons (t1_d (te_tup (e := (eT (eT eS))) (fun (p : (List Str) × Unit) => [p.1]) (tw_cons (t1_d (te_tup (e := (eT eS)) (fun (_ : Unit) => ([] : (List Str))) tw_nil (fun _ => ⟨_, rfl, rfl, rfl⟩))) tw_nil) (fun _ => ⟨_, rfl, rfl, rfl⟩))) tw_nil))) (fun _ => ⟨_, rfl, rfl, rfl⟩))) tw_nil))) (fun _ => ⟨_, rfl, rfl, rfl⟩)) rfl) fun c7 =>
  (ts_seq (G := fun (c8 : (List (Str × Str × (List (List Str))))) => [some (.ow ((oL eS) c1)), some (.w ((dW (eT (eP3 eS eS (eT (eT eS))))) c2)), some (.w ((dW (eT (eP3 eS eS (eT (eT eS))))) c4)), some (.w ((dW (eT (eP3 eS eS (eT (eT eS))))) c6)), some (.w ((dW (eT (eP3 eS eS (eT (eT eS))))) c8)), none, none, none]) (ts_as (s0 := (.D (dW (eT (eP3 eS eS (eT (eT eS))))))) (te_addT (e := (eP3 eS eS (eT (eT eS)))) (te_rd (i := 4) (a := c7) (w := (dW (eT (eP3 eS eS (eT (eT eS)))))) rfl) (te_tup (e := (eT (eP3 eS eS (eT (eT eS))))) (fun (p : (Str × Str × (List (List Str))) × (Str × Str × (List (List Str))) × Unit) => [p.1, p.2.1]) (tw_cons (t1_d (te_tup (e := (eP3 eS eS (eT (eT eS)))) (fun (p : Str × Str × (List (List Str)) × Unit) => (p.1, p.2.1, p.2.2.1)) (tw_cons (t1_d (te_kd (a := (PySem.Str.ofString "put")) (e := eS))) (tw_cons (t1_d (te_kd (a := (PySem.Str.ofString "ann")) (e := eS))) (tw_cons (t1_d (te_tup (e := (eT (eT eS))) (fun (p : (List Str) × (List Str) × Unit) => [p.1, p.2.1]) (tw_cons (t1_d (te_tup (e := (eT eS)) (fun (p : Str × Str × Unit) => [p.1, p.2.1]) (tw_cons (t1_d (te_kd (a := (PySem.Str.ofString "dig")) (e := eS))) (tw_cons (t1_d (te_kd (a := (PySem.Str.ofString "lay")) (e := eS))) tw_nil)) (fun _ => ⟨_, rfl, rfl, rfl⟩))) (tw_cons (t1_d (te_tup (e := (eT eS)) (fun (p : Str × Str × Unit) => [p.1, p.2.1]) (tw_cons (t1_d (te_kd (a := (PySem.Str.ofString "dig")) (e := eS))) (tw_cons (t1_d (te_kd (a := (PySem.Str.ofString "mow")) (e := eS))) tw_nil)) (fun _ => ⟨_, rfl, rfl, rfl⟩))) tw_nil)) (fun _ => ⟨_, rfl, rfl, rfl⟩))) tw_nil))) (fun _ => ⟨_, rfl, rfl, rfl⟩))) (tw_cons (t1_d (te_tup (e := (eP3 eS eS (eT (eT eS)))) (fun (p : Str × Str × (List (List Str)) × Unit) => (p.1, p.2.1, p.2.2.1)) (tw_cons (t1_d (te_kd (a := (PySem.Str.ofString "saw")) (e := eS))) (tw_cons (t1_d (te_kd (a := (PySem.Str.ofString "bob")) (e := eS))) (tw_cons (t1_d (te_tup (e := (eT (eT eS))) (fun (p : (List Str) × (List Str) × Unit) => [p.1, p.2.1]) (tw_cons (t1_d (te_tup (e := (eT eS)) (fun (p : Str × Str × Unit) => [p.1, p.2.1]) (tw_cons (t1_d (te_kd (a := (PySem.Str.ofString "dig")) (e := eS))) (tw_cons (t1_d (te_kd (a := (PySem.Str.ofString "put")) (e := eS))) tw_nil)) (fun _ => ⟨_, rfl, rfl, rfl⟩))) (tw_cons (t1_d (te_tup (e := (eT eS)) (fun (p : Str × Unit) => [p.1]) (tw_cons (t1_d (te_kd (a := (PySem.Str.ofString "saw")) (e := eS))) tw_nil) (fun _ => ⟨_, rfl, rfl, rfl⟩))) tw_nil)) (fun _ => ⟨_, rfl, rfl, rfl⟩))) tw_nil))) (fun _ => ⟨_, rfl, rfl, rfl⟩))) tw_nil)) (fun _ => ⟨_, rfl, rfl, rfl⟩)) (fun _ => rfl) (fun _ => rfl)) rfl) fun c8 =>
  (ts_seq (G := fun (c9 : (List (Str × Str × (List (List Str))))) => [some (.ow ((oL eS) c1)), some (.w ((dW (eT (eP3 eS eS (eT (eT eS))))) c2)), some (.w ((dW (eT (eP3 eS eS (eT (eT eS))))) c4)), some (.w ((dW (eT (eP3 eS eS (eT (eT eS))))) c6)), some (.w ((dW (eT (eP3 eS eS (eT (eT eS))))) c8)), some (.w ((dW (eT (eP3 eS eS (eT (eT eS))))) c9)), none, none]) (ts_as (s0 := (.D (dW (eT (eP3 eS eS (eT (eT eS))))))) (te_tupQ (e := (eP3 eS eS (eT (eT eS)))) (te_lc (e := eI) (e' := (eP3 eS eS (eT (eT eS)))) (fun (x10 : Int) => [some (.ow ((oL eS) c1)), some (.w ((dW (eT (eP3 eS eS (eT (eT eS))))) c2)), some (.w ((dW (eT (eP3 eS eS (eT (eT eS))))) c4)), some (.w ((dW (eT (eP3 eS eS (eT (eT eS))))) c6)), some (.w ((dW (eT (eP3 eS eS (eT (eT eS))))) c8)), none, none, some (.w ((dW eI) x10))]) rfl (by decide) (fun _ => rfl) (ti_rg (te_kd (a := (10 : Int)) (e := eI))) (fun x10 => tt_true) (fun x10 => (t1_d (te_tup (e := (eP3 eS eS (eT (eT eS)))) (fun (p : Str × Str × (List (List Str)) × Unit) => (p.1, p.2.1, p.2.2.1)) (tw_cons (t1_d (te_ix (e := eS) (te_ro (i := 0) (a := c1) (o := (oL eS)) rfl) (te_rd (i := 7) (a := x10) (w := (dW eI)) rfl) (.inr fun _ => rfl))) (tw_cons (t1_d (te_kd (a := (PySem.Str.ofString "cy")) (e := eS))) (tw_cons (t1_d (te_tup (e := (eT (eT eS))) (fun (p : (List Str) × Unit) => [p.1]) (tw_cons (t1_d (te_tup (e := (eT eS)) (fun (_ : Unit) => ([] : (List Str))) tw_nil (fun _ => ⟨_, rfl, rfl, rfl⟩))) tw_nil) (fun _ => ⟨_, rfl, rfl, rfl⟩))) tw_nil))) (fun _ => ⟨_, rfl, rfl, rfl⟩)))) (fun _ => rfl)) (.inr fun _ => rfl)) rfl) fun c9 =>
  (ts_seq (G := fun (c11 : (List (Str × Str × (List (List Str))))) => [some (.ow ((oL eS) c1)), some (.w ((dW (eT (eP3 eS eS (eT (eT eS))))) c2)), some (.w ((dW (eT (eP3 eS eS (eT (eT eS))))) c4)), some (.w ((dW (eT (eP3 eS eS (eT (eT eS))))) c6)), some (.w ((dW (eT (eP3 eS eS (eT (eT eS))))) c8)), some (.w ((dW (eT (eP3 eS eS (eT (eT eS))))) c9)), some (.ow ((oL (eP3 eS eS (eT (eT eS)))) c11)), none]) (ts_as (s0 := (.F (oL (eP3 eS eS (eT (eT eS)))))) (te_lst (e := (eP3 eS eS (eT (eT eS)))) (fun (p : (Str × Str × (List (List Str))) × (Str × Str × (List (List Str))) × (Str × Str × (List (List Str))) × Unit) => [p.1, p.2.1, p.2.2.1]) (tw_cons (t1_d (te_tup (e := (eP3 eS eS (eT (eT eS)))) (fun (p : Str × Str × (List (List Str)) × Unit) => (p.1, p.2.1, p.2.2.1)) (tw_cons (t1_d (te_kd (a := (PySem.Str.ofString "a")) (e := eS))) (tw_cons (t1_d (te_kd (a := (PySem.Str.ofString "ann")) (e := eS))) (tw_cons (t1_d (te_tup (e := (eT (eT eS))) (fun (p : (List Str) × Unit) => [p.1]) (tw_cons (t1_d (te_tup (e := (eT eS)) (fun (_ : Unit) => ([] : (List Str))) tw_nil (fun _ => ⟨_, rfl, rfl, rfl⟩))) tw_nil) (fun _ => ⟨_, rfl, rfl, rfl⟩))) tw_nil))) (fun _ => ⟨_, rfl, rfl, rfl⟩))) (tw_cons (t1_d (te_tup (e := (eP3 eS eS (eT (eT eS)))) (fun (p : Str × Str × (List (List Str)) × Unit) => (p.1, p.2.1, p.2.2.1)) (tw_cons (t1_d (te_kd (a := (PySem.Str.ofString "ab")) (e := eS))) (tw_cons (t1_d (te_kd (a := (PySem.Str.ofString "ann")) (e := eS))) (tw_cons (t1_d (te_tup (e := (eT (eT eS))) (fun (p : (List Str) × (List Str) × Unit) => [p.1, p.2.1]) (tw_cons (t1_d (te_tup (e := (eT eS)) (fun (_ : Unit) => ([] : (List Str))) tw_nil (fun _ => ⟨_, rfl, rfl, rfl⟩))) (tw_cons (t1_d (te_tup (e := (eT eS)) (fun (p : Str × Unit) => [p.1]) (tw_cons (t1_d (te_kd (a := (PySem.Str.ofString "a")) (e := eS))) tw_nil) (fun _ => ⟨_, rfl, rfl, rfl⟩))) tw_nil)) (fun _ => ⟨_, rfl, rfl, rfl⟩))) tw_nil))) (fun _ => ⟨_, rfl, rfl, rfl⟩))) (tw_cons (t1_d (te_tup (e := (eP3 eS eS (eT (eT eS)))) (fun (p : Str × Str × (List (List Str)) × Unit) => (p.1, p.2.1, p.2.2.1)) (tw_cons (t1_d (te_kd (a := (PySem.Str.ofString "b")) (e := eS))) (tw_cons (t1_d (te_kd (a := (PySem.Str.ofString "bob")) (e := eS))) (tw_cons (t1_d (te_tup (e := (eT (eT eS))) (fun (p : (List Str) × (List Str) × Unit) => [p.1, p.2.1]) (tw_cons (t1_d (te_tup (e := (eT eS)) (fun (p : Str × Unit) => [p.1]) (tw_cons (t1_d (te_kd (a := (PySem.Str.ofString "a")) (e := eS))) tw_nil) (fun _ => ⟨_, rfl, rfl, rfl⟩))) (tw_cons (t1_d (te_tup (e := (eT eS)) (fun (p : Str × Unit) => [p.1]) (tw_cons (t1_d (te_kd (a := (PySem.Str.ofString "ab")) (e := eS))) tw_nil) (fun _ => ⟨_, rfl, rfl, rfl⟩))) tw_nil)) (fun _ => ⟨_, rfl, rfl, rfl⟩))) tw_nil))) (fun _ => ⟨_, rfl, rfl, rfl⟩))) tw_nil))) (fun _ => ⟨rfl, rfl⟩)) rfl) fun c11 =>
  (ts_seq (G := fun (c12 : (List (Str × Str × (List (List Str))))) => [some (.ow ((oL eS) c1)), some (.w ((dW (eT (eP3 eS eS (eT (eT eS))))) c2)), some (.w ((dW (eT (eP3 eS eS (eT (eT eS))))) c4)), some (.w ((dW (eT (eP3 eS eS (eT (eT eS))))) c6)), some (.w ((dW (eT (eP3 eS eS (eT (eT eS))))) c8)), some (.w ((dW (eT (eP3 eS eS (eT (eT eS))))) c9)), some (.ow ((oL (eP3 eS eS (eT (eT eS)))) c12)), none]) (ts_as (s0 := (.F (oL (eP3 eS eS (eT (eT eS)))))) (te_addL (e := (eP3 eS eS (eT (eT eS)))) (te_ro (i := 6) (a := c11) (o := (oL (eP3 eS eS (eT (eT eS))))) rfl) (te_lst (e := (eP3 eS eS (eT (eT eS)))) (fun (p : (Str × Str × (List (List Str))) × (Str × Str × (List (List Str))) × Unit) => [p.1, p.2.1]) (tw_cons (t1_d (te_tup (e := (eP3 eS eS (eT (eT eS)))) (fun (p : Str × Str × (List (List Str)) × Unit) => (p.1, p.2.1, p.2.2.1)) (tw_cons (t1_d (te_kd (a := (PySem.Str.ofString "dig")) (e := eS))) (tw_cons (t1_d (te_kd (a := (PySem.Str.ofString "bob")) (e := eS))) (tw_cons (t1_d (te_tup (e := (eT (eT eS))) (fun (p : (List Str) × (List Str) × Unit) => [p.1, p.2.1]) (tw_cons (t1_d (te_tup (e := (eT eS)) (fun (p : Str × Str × Unit) => [p.1, p.2.1]) (tw_cons (t1_d (te_kd (a := (PySem.Str.ofString "a")) (e := eS))) (tw_cons (t1_d (te_kd (a := (PySem.Str.ofString "ab")) (e := eS))) tw_nil)) (fun _ => ⟨_, rfl, rfl, rfl⟩))) (tw_cons (t1_d (te_tup (e := (eT eS)) (fun (p : Str × Unit) => [p.1]) (tw_cons (t1_d (te_kd (a := (PySem.Str.ofString "b")) (e := eS))) tw_nil) (fun _ => ⟨_, rfl, rfl, rfl⟩))) tw_nil)) (fun _ => ⟨_, rfl, rfl, rfl⟩))) tw_nil))) (fun _ => ⟨_, rfl, rfl, rfl⟩))) (tw_cons (t1_d (te_tup (e := (eP3 eS eS (eT (eT eS)))) (fun (p : Str × Str × (List (List Str)) × Unit) => (p.1, p.2.1, p.2.2.1)) (tw_cons (t1_d (te_kd (a := (PySem.Str.ofString "lay")) (e := eS))) (tw_cons (t1_d (te_kd (a := (PySem.Str.ofString "cy")) (e := eS))) (tw_cons (t1_d (te_tup (e := (eT (eT eS))) (fun (p : (List Str) × (List Str) × Unit) => [p.1, p.2.1]) (tw_cons (t1_d (te_tup (e := (eT eS)) (fun (p : Str × Str × Unit) => [p.1, p.2.1]) (tw_cons (t1_d (te_kd (a := (PySem.Str.ofString "b")) (e := eS))) (tw_cons (t1_d (te_kd (a := (PySem.Str.ofString "dig")) (e := eS))) tw_nil)) (fun _ => ⟨_, rfl, rfl, rfl⟩))) (tw_cons (t1_d (te_tup (e := (eT eS)) (fun (p : Str × Str × Unit) => [p.1, p.2.1]) (tw_cons (t1_d (te_kd (a := (PySem.Str.ofString "lay")) (e := eS))) (tw_cons (t1_d (te_kd (a := (PySem.Str.ofString "mow")) (e := eS))) tw_nil)) (fun _ => ⟨_, rfl, rfl, rfl⟩))) tw_nil)) (fun _ => ⟨_, rfl, rfl, rfl⟩))) tw_nil))) (fun _ => ⟨_, rfl, rfl, rfl⟩))) tw_nil)) (fun _ => ⟨rfl, rfl⟩)) (fun _ => rfl) (fun _ => rfl)) rfl) fun c12 =>
  (ts_seq (G := fun (c13 : (List (Str × Str × (List (List Str))))) => [some (.ow ((oL eS) c1)), some (.w ((dW (eT (eP3 eS eS (eT (eT eS))))) c2)), some (.w ((dW (eT (eP3 eS eS (eT (eT eS))))) c4)), some (.w ((dW (eT (eP3 eS eS (eT (eT eS))))) c6)), some (.w ((dW (eT (eP3 eS eS (eT (eT eS))))) c8)), some (.w ((dW (eT (eP3 eS eS (eT (eT eS))))) c9)), some (.ow ((oL (eP3 eS eS (eT (eT eS)))) c13)), none]) (ts_as (s0 := (.F (oL (eP3 eS eS (eT (eT eS)))))) (te_addL (e := (eP3 eS eS (eT (eT eS)))) (te_ro (i := 6) (a := c12) (o := (oL (eP3 eS eS (eT (eT eS))))) rfl) (te_lst (e := (eP3 eS eS (eT (eT eS)))) (fun (p : (Str × Str × (List (List Str))) × (Str × Str × (List (List Str))) × Unit) => [p.1, p.2.1]) (tw_cons (t1_d (te_tup (e := (eP3 eS eS (eT (eT eS)))) (fun (p : Str × Str × (List (List Str)) × Unit) => (p.1, p.2.1, p.2.2.1)) (tw_cons (t1_d (te_kd (a := (PySem.Str.ofString "mow")) (e := eS))) (tw_cons (t1_d (te_kd (a := (PySem.Str.ofString "cy")) (e := eS))) (tw_cons (t1_d (te_tup (e := (eT (eT eS))) (fun (p : (List Str) × (List Str) × Unit) => [p.1, p.2.1]) (tw_cons (t1_d (te_tup (e := (eT eS)) (fun (p : Str × Unit) => [p.1]) (tw_cons (t1_d (te_kd (a := (PySem.Str.ofString "dig")) (e := eS))) tw_nil) (fun _ => ⟨_, rfl, rfl, rfl⟩))) (tw_cons (t1_d (te_tup (e := (eT eS)) (fun (p : Str × Unit) => [p.1]) (tw_cons (t1_d (te_kd (a := (PySem.Str.ofString "lay")) (e := eS))) tw_nil) (fun _ => ⟨_, rfl, rfl, rfl⟩))) tw_nil)) (fun _ => ⟨_, rfl, rfl, rfl⟩))) tw_nil))) (fun _ => ⟨_, rfl, rfl, rfl⟩))) (tw_cons (t1_d (te_tup (e := (eP3 eS eS (eT (eT eS)))) (fun (p : Str × Str × (List (List Str)) × Unit) => (p.1, p.2.1, p.2.2.1)) (tw_cons (t1_d (te_kd (a := (PySem.Str.ofString "put")) (e := eS))) (tw_cons (t1_d (te_kd (a := (PySem.Str.ofString "ann")) (e := eS))) (tw_cons (t1_d (te_tup (e := (eT (eT eS))) (fun (p : (List Str) × (List Str) × Unit) => [p.1, p.2.1]) (tw_cons (t1_d (te_tup (e := (eT eS)) (fun (p : Str × Str × Unit) => [p.1, p.2.1]) (tw_cons (t1_d (te_kd (a := (PySem.Str.ofString "lay")) (e := eS))) (tw_cons (t1_d (te_kd (a := (PySem.Str.ofString "mow")) (e := eS))) tw_nil)) (fun _ => ⟨_, rfl, rfl, rfl⟩))) (tw_cons (t1_d (te_tup (e := (eT eS)) (fun (p : Str × Unit) => [p.1]) (tw_cons (t1_d (te_kd (a := (PySem.Str.ofString "put")) (e := eS))) tw_nil) (fun _ => ⟨_, rfl, rfl, rfl⟩))) tw_nil)) (fun _ => ⟨_, rfl, rfl, rfl⟩))) tw_nil))) (fun _ => ⟨_, rfl, rfl, rfl⟩))) tw_nil)) (fun _ => ⟨rfl, rfl⟩)) (fun _ => rfl) (fun _ => rfl)) rfl) fun c13 =>
  (ts_re (.F (oL (eT (eP3 eS eS (eT (eT eS)))))) (te_lst (e := (eT (eP3 eS eS (eT (eT eS))))) (fun (p : (List (Str × Str × (List (List Str)))) × (List (Str × Str × (List (List Str)))) × (List (Str × Str × (List (List Str)))) × (List (Str × Str × (List (List Str)))) × (List (Str × Str × (List (List Str)))) × (List (Str × Str × (List (List Str)))) × (List (Str × Str × (List (List Str)))) × Unit) => [p.1, p.2.1, p.2.2.1, p.2.2.2.1, p.2.2.2.2.1, p.2.2.2.2.2.1, p.2.2.2.2.2.2.1]) (tw_cons (t1_d (te_tup (e := (eT (eP3 eS eS (eT (eT eS))))) (fun (_ : Unit) => ([] : (List (Str × Str × (List (List Str)))))) tw_nil (fun _ => ⟨_, rfl, rfl, rfl⟩))) (tw_cons (t1_d (te_rd (i := 1) (a := c2) (w := (dW (eT (eP3 eS eS (eT (eT eS)))))) rfl)) (tw_cons (t1_d (te_rd (i := 2) (a := c4) (w := (dW (eT (eP3 eS eS (eT (eT eS)))))) rfl)) (tw_cons (t1_d (te_rd (i := 3) (a := c6) (w := (dW (eT (eP3 eS eS (eT (eT eS)))))) rfl)) (tw_cons (t1_d (te_rd (i := 4) (a := c8) (w := (dW (eT (eP3 eS eS (eT (eT eS)))))) rfl)) (tw_cons (t1_d (te_rd (i := 5) (a := c9) (w := (dW (eT (eP3 eS eS (eT (eT eS)))))) rfl)) (tw_cons (t1_d (te_tupQ (e := (eP3 eS eS (eT (eT eS)))) (te_ro (i := 6) (a := c13) (o := (oL (eP3 eS eS (eT (eT eS))))) rfl) (.inr fun _ => rfl))) tw_nil))))))) (fun _ => ⟨rfl, rfl⟩))))))))))))))
def p__law_random_needs (v_reader_here : Nat) (v_every : (List Str)) (v_before : (List Str)) : PM (List (List Str)) := fnR (τ := Unit) (l := Unit) (
  (sq (((pure ()) >>= fun p => pure ((fun (_ : Unit) => ([] : (List (List Str)))) p)) >>= fun a => pure (Fl.nx a)) fun (c1 : (List (List Str))) =>
  (sq ((((pure (1 : Int)) >>= fun a => (((pure v_reader_here) >>= fun a => ((pure (2 : Int)) >>= fun a => (pure ()) >>= fun p => pure (a, p)) >>= fun p => pure (a, p)) >>= fun (p : Nat × Int × Unit) => dr r__law_draw p.1 p.2.1) >>= fun b => pure (a + b)) >>= fun n => gd (decide (-(2 ^ 62) ≤ n ∧ n < 2 ^ 62)) (rgL n)) >>= fun xs => forF (fun (i3 : Int) (s4 : (List (List Str))) =>
  (sq ((pIf ((((pure v_reader_here) >>= fun a => ((pure (6 : Int)) >>= fun a => (pure ()) >>= fun p => pure (a, p)) >>= fun p => pure (a, p)) >>= fun (p : Nat × Int × Unit) => dr r__law_draw p.1 p.2.1) >>= fun a => (pure (0 : Int)) >>= fun b => pure (decide (a = b))) (pure v_every) (pure v_before)) >>= fun a => pure (Fl.nx a)) fun (c9 : (List Str)) =>
  (sq (((((((pure v_reader_here) >>= fun a => ((pure (3 : Int)) >>= fun a => (pure ()) >>= fun p => pure (a, p)) >>= fun p => pure (a, p)) >>= fun (p : Nat × Int × Unit) => dr r__law_draw p.1 p.2.1) >>= fun a => (((pure c9) >>= fun a => ((pure ()) >>= fun p => pure ((fun (_ : Unit) => ([] : (List Str))) p)) >>= fun b => pure (!decide (a = b))) >>= fun a => pure (if a = true then (1 : Int) else 0)) >>= fun b => gd (cmul a b) (a * b)) >>= fun n => gd (decide (-(2 ^ 62) ≤ n ∧ n < 2 ^ 62)) (rgL n)) >>= fun xs => cp (fun (x11 : Int) => (pure true)) (fun (x11 : Int) => ((pure c9) >>= fun a => (((pure v_reader_here) >>= fun a => (((pure c9) >>= fun a => pure ((a.length : Nat) : Int)) >>= fun a => (pure ()) >>= fun p => pure (a, p)) >>= fun p => pure (a, p)) >>= fun (p : Nat × Int × Unit) => dr r__law_draw p.1 p.2.1) >>= fun b => op (L2.atI a b))) xs) >>= fun a => pure (Fl.nx a)) fun (c10 : (List Str)) =>
  (sq (((pure c10) >>= fun a => gd (decide (a.length ≤ 4000)) (sr eS (dd a))) >>= fun a => gd (decide ((s4).length < sizeLine)) a >>= fun a => pure (Fl.nx a)) fun (c12 : (List Str)) => pure (Fl.nx (s4 ++ [c12])))))) xs c1) fun (c2 : (List (List Str))) =>
  (((pure c2) >>= fun a => gd (decide (a.length ≤ 4)) (sr (eT eS) (dd a))) >>= fun b => pure (Fl.rt b)))))
theorem t__law_random_needs (v_reader_here : Nat) (v_every : (List Str)) (v_before : (List Str)) : TF r__law_random_needs [Wv.obj v_reader_here, (dW (eL eS)) v_every, (dW (eL eS)) v_before] (p__law_random_needs v_reader_here v_every v_before) (.D (dW (eT (eT eS)))) := by
  unfold r__law_random_needs m__law_random_needs p__law_random_needs
  exact tf_R (τ := Unit) (l := Unit) (G := (fun _ => [none, none, none, none, none, none, none, none])) (L := fun _ => []) (Γ := [some (.w (Wv.obj v_reader_here)), some (.w ((dW (eL eS)) v_every)), some (.w ((dW (eL eS)) v_before)), none, none, none, none, none]) (we (we (we (wa (wa (wa (wa (wa wn)))))))) (
  (ts_seq (G := fun (c1 : (List (List Str))) => [some (.w (Wv.obj v_reader_here)), some (.w ((dW (eL eS)) v_every)), some (.w ((dW (eL eS)) v_before)), some (.ow ((oL (eT eS)) c1)), none, none, none, none]) (ts_as (s0 := (.F (oL (eT eS)))) (te_lst (e := (eT eS)) (fun (_ : Unit) => ([] : (List (List Str)))) tw_nil (fun _ => ⟨rfl, rfl⟩)) rfl) fun c1 =>
  (ts_seq (G := fun (c2 : (List (List Str))) => [some (.w (Wv.obj v_reader_here)), some (.w ((dW (eL eS)) v_every)), some (.w ((dW (eL eS)) v_before)), some (.ow ((oL (eT eS)) c2)), none, none, none, none]) (ts_for (e := eI) (G := (fun (s4 : (List (List Str))) => [some (.w (Wv.obj v_reader_here)), some (.w ((dW (eL eS)) v_every)), some (.w ((dW (eL eS)) v_before)), some (.ow ((oL (eT eS)) s4)), none, none, none, none])) c1 (fun (i3 : Int) (s4 : (List (List Str))) => [some (.w (Wv.obj v_reader_here)), some (.w ((dW (eL eS)) v_every)), some (.w ((dW (eL eS)) v_before)), some (.ow ((oL (eT eS)) s4)), some (.w ((dW eI) i3)), none, none, none]) (ti_rg (te_add (te_kd (a := (1 : Int)) (e := eI)) (te_ca (fun (p : Nat × Int × Unit) => dr r__law_draw p.1 p.2.1) (tw_cons (t1_d (te_rd (i := 0) (a := v_reader_here) (w := Wv.obj) rfl)) (tw_cons (t1_d (te_kd (a := (2 : Int)) (e := eI))) tw_nil)) (fun (p : Nat × Int × Unit) => tf_dr _ _ _)))) (we (we (we (we (wa (wa (wa (wa wn)))))))) (fun _ _ => rfl) (fun i3 s4 =>
  (ts_seq (G := fun (c9 : (List Str)) => [some (.w (Wv.obj v_reader_here)), some (.w ((dW (eL eS)) v_every)), some (.w ((dW (eL eS)) v_before)), some (.ow ((oL (eT eS)) s4)), some (.w ((dW eI) i3)), some (.w ((dW (eL eS)) c9)), none, none]) (ts_as (s0 := (.D (dW (eL eS)))) (te_if (tt_b (te_eq (e := eI) (eqe_i) (by decide) (te_ca (fun (p : Nat × Int × Unit) => dr r__law_draw p.1 p.2.1) (tw_cons (t1_d (te_rd (i := 0) (a := v_reader_here) (w := Wv.obj) rfl)) (tw_cons (t1_d (te_kd (a := (6 : Int)) (e := eI))) tw_nil)) (fun (p : Nat × Int × Unit) => tf_dr _ _ _)) (te_kd (a := (0 : Int)) (e := eI)) dc_d dc_d)) (te_rd (i := 1) (a := v_every) (w := (dW (eL eS))) rfl) (te_rd (i := 2) (a := v_before) (w := (dW (eL eS))) rfl)) rfl) fun c9 =>
  (ts_seq (G := fun (c10 : (List Str)) => [some (.w (Wv.obj v_reader_here)), some (.w ((dW (eL eS)) v_every)), some (.w ((dW (eL eS)) v_before)), some (.ow ((oL (eT eS)) s4)), some (.w ((dW eI) i3)), some (.w ((dW (eL eS)) c9)), some (.ow ((oL eS) c10)), none]) (ts_as (s0 := (.F (oL eS))) (te_lc (e := eI) (e' := eS) (fun (x11 : Int) => [some (.w (Wv.obj v_reader_here)), some (.w ((dW (eL eS)) v_every)), some (.w ((dW (eL eS)) v_before)), some (.ow ((oL (eT eS)) s4)), some (.w ((dW eI) i3)), some (.w ((dW (eL eS)) c9)), none, some (.w ((dW eI) x11))]) rfl (by decide) (fun _ => rfl) (ti_rg (te_mul (te_ca (fun (p : Nat × Int × Unit) => dr r__law_draw p.1 p.2.1) (tw_cons (t1_d (te_rd (i := 0) (a := v_reader_here) (w := Wv.obj) rfl)) (tw_cons (t1_d (te_kd (a := (3 : Int)) (e := eI))) tw_nil)) (fun (p : Nat × Int × Unit) => tf_dr _ _ _)) (te_intB (te_ne (e := (eL eS)) ((eqe_s).lst) (by decide) (te_rd (i := 5) (a := c9) (w := (dW (eL eS))) rfl) (te_lst (e := eS) (fun (_ : Unit) => ([] : (List Str))) tw_nil (fun _ => ⟨rfl, rfl⟩)) dc_d dc_f)))) (fun x11 => tt_true) (fun x11 => (t1_d (te_ix (e := eS) (te_rd (i := 5) (a := c9) (w := (dW (eL eS))) rfl) (te_ca (fun (p : Nat × Int × Unit) => dr r__law_draw p.1 p.2.1) (tw_cons (t1_d (te_rd (i := 0) (a := v_reader_here) (w := Wv.obj) rfl)) (tw_cons (t1_d (te_len (e := eS) (te_rd (i := 5) (a := c9) (w := (dW (eL eS))) rfl) (.inr fun _ => rfl))) tw_nil)) (fun (p : Nat × Int × Unit) => tf_dr _ _ _)) (.inr fun _ => rfl)))) (fun _ => rfl)) rfl) fun c10 =>
  (ts_end (G := fun (c12 : (List Str)) => [some (.w (Wv.obj v_reader_here)), some (.w ((dW (eL eS)) v_every)), some (.w ((dW (eL eS)) v_before)), some (.ow ((oL (eT eS)) (s4 ++ [c12]))), some (.w ((dW eI) i3)), some (.w ((dW (eL eS)) c9)), some (.ow ((oL eS) c10)), none]) (fun (c12 : (List Str)) => (s4 ++ [c12])) (ts_app (e := (eT eS)) (xs := s4) (fun a => a) rfl (tx_of (e := (eT eS)) (t1_d (te_tupQ (e := eS) (te_srtSetS (te_ro (i := 6) (a := c10) (o := (oL eS)) rfl) (.inr fun _ => rfl)) (.inr fun _ => rfl))) (fun _ => rfl)) (fun _ => rfl) (fun _ => rfl)) (fun c12 => (we (we (we (we (wa (wa (wa (wa wn)))))))))))))) fun c2 =>
  (ts_re (.D (dW (eT (eT eS)))) (te_tupQ (e := (eT eS)) (te_srtSetT (te_ro (i := 3) (a := c2) (o := (oL (eT eS))) rfl) (.inr fun _ => rfl)) (.inr fun _ => rfl))))))
def p__law_random_roll (v_reader_here : Nat) (v_most : Int) : PM (List (Str × Str × (List (List Str)))) := fnR (τ := Unit) (l := Unit) (
  (sq (((((pure (PySem.Str.ofString "a")) >>= fun a => ((pure (PySem.Str.ofString "ab")) >>= fun a => ((pure (PySem.Str.ofString "b")) >>= fun a => ((pure (PySem.Str.ofString "dig")) >>= fun a => ((pure (PySem.Str.ofString "lay")) >>= fun a => ((pure (PySem.Str.ofString "mow")) >>= fun a => ((pure (PySem.Str.ofString "put")) >>= fun a => ((pure (PySem.Str.ofString "rake")) >>= fun a => ((pure (PySem.Str.ofString "saw")) >>= fun a => ((pure (PySem.Str.ofString "zzzzzzzz")) >>= fun a => (pure ()) >>= fun p => pure (a, p)) >>= fun p => pure (a, p)) >>= fun p => pure (a, p)) >>= fun p => pure (a, p)) >>= fun p => pure (a, p)) >>= fun p => pure (a, p)) >>= fun p => pure (a, p)) >>= fun p => pure (a, p)) >>= fun p => pure (a, p)) >>= fun p => pure (a, p)) >>= fun p => pure ((fun (p : Str × Str × Str × Str × Str × Str × Str × Str × Str × Str × Unit) => [p.1, p.2.1, p.2.2.1, p.2.2.2.1, p.2.2.2.2.1, p.2.2.2.2.2.1, p.2.2.2.2.2.2.1, p.2.2.2.2.2.2.2.1, p.2.2.2.2.2.2.2.2.1, p.2.2.2.2.2.2.2.2.2.1]) p)) >>= fun a => (((pure ()) >>= fun p => pure ((fun (_ : Unit) => ([] : (List Str))) p)) >>= fun a => (((pure ()) >>= fun p => pure ((fun (_ : Unit) => ([] : (List (Str × Str × (List (List Str)))))) p)) >>= fun a => (pure ()) >>= fun p => pure (a, p)) >>= fun p => pure (a, p)) >>= fun p => pure (a, p)) >>= fun a => pure (Fl.nx a)) fun (c1 : (List Str) × (List Str) × (List (Str × Str × (List (List Str)))) × Unit) =>
  (sq (((((pure v_reader_here) >>= fun a => (((pure v_most) >>= fun a => (pure (1 : Int)) >>= fun b => pure (a + b)) >>= fun a => (pure ()) >>= fun p => pure (a, p)) >>= fun p => pure (a, p)) >>= fun (p : Nat × Int × Unit) => dr r__law_draw p.1 p.2.1) >>= fun n => gd (decide (-(2 ^ 62) ≤ n ∧ n < 2 ^ 62)) (rgL n)) >>= fun xs => forF (fun (i3 : Int) (s4 : ((List Str) × (List Str))) =>
  (sq (((((pure v_reader_here) >>= fun a => (((pure s4.1) >>= fun a => pure ((a.length : Nat) : Int)) >>= fun a => (pure ()) >>= fun p => pure (a, p)) >>= fun p => pure (a, p)) >>= fun (p : Nat × Int × Unit) => dr r__law_draw p.1 p.2.1) >>= fun i => op (popL s4.1 i)) >>= fun a => gd (decide ((s4.2).length < sizeLine)) a >>= fun a => pure (Fl.nx a)) fun (c6 : Str × (List Str)) => pure (Fl.nx (c6.2, (s4.2 ++ [c6.1]))))) xs (c1.1, c1.2.1)) fun (c2 : ((List Str) × (List Str))) =>
  (sq (pure (Fl.nx ())) fun (c7 : Unit) =>
  (sq ((((pure c2.2) >>= fun a => pure ((a.length : Nat) : Int)) >>= fun n => gd (decide (-(2 ^ 62) ≤ n ∧ n < 2 ^ 62)) (rgL n)) >>= fun xs => forF (fun (i9 : Int) (s10 : (List (Str × Str × (List (List Str))))) =>
  (sq (((((pure (PySem.Str.ofString "ann")) >>= fun a => ((pure (PySem.Str.ofString "bob")) >>= fun a => ((pure (PySem.Str.ofString "cy")) >>= fun a => (pure ()) >>= fun p => pure (a, p)) >>= fun p => pure (a, p)) >>= fun p => pure (a, p)) >>= fun p => pure ((fun (p : Str × Str × Str × Unit) => [p.1, p.2.1, p.2.2.1]) p)) >>= fun a => (((pure v_reader_here) >>= fun a => ((pure (3 : Int)) >>= fun a => (pure ()) >>= fun p => pure (a, p)) >>= fun p => pure (a, p)) >>= fun (p : Nat × Int × Unit) => dr r__law_draw p.1 p.2.1) >>= fun b => op (L2.atI a b)) >>= fun a => pure (Fl.nx a)) fun (c14 : Str) =>
  (sq (pure (Fl.nx ())) fun (c15 : Unit) =>
  (sq (((((pure c2.2) >>= fun a => (pure i9) >>= fun b => op (L2.atI a b)) >>= fun a => ((pure c14) >>= fun a => ((((pure v_reader_here) >>= fun a => ((pure c2.2) >>= fun a => (((pure c2.2) >>= fun a => (pure none) >>= fun x => ((pure i9) >>= fun i => pure (some i)) >>= fun y => pure (cutD a x y)) >>= fun a => (pure ()) >>= fun p => pure (a, p)) >>= fun p => pure (a, p)) >>= fun p => pure (a, p)) >>= fun (p : Nat × (List Str) × (List Str) × Unit) => p__law_random_needs p.1 p.2.1 p.2.2.1) >>= fun a => (pure ()) >>= fun p => pure (a, p)) >>= fun p => pure (a, p)) >>= fun p => pure (a, p)) >>= fun p => pure ((fun (p : Str × Str × (List (List Str)) × Unit) => (p.1, p.2.1, p.2.2.1)) p)) >>= fun a => gd (decide ((s10).length < sizeLine)) a >>= fun a => pure (Fl.nx a)) fun (c16 : (Str × Str × (List (List Str)))) => pure (Fl.nx (s10 ++ [c16])))))) xs c1.2.2.1) fun (c8 : (List (Str × Str × (List (List Str))))) =>
  (((pure c8) >>= fun a => gd (size a.length) (sr (eP3 eS eS (eT (eT eS))) a)) >>= fun b => pure (Fl.rt b)))))))
theorem t__law_random_roll (v_reader_here : Nat) (v_most : Int) : TF r__law_random_roll [Wv.obj v_reader_here, (dW eI) v_most] (p__law_random_roll v_reader_here v_most) (.D (dW (eT (eP3 eS eS (eT (eT eS)))))) := by
  unfold r__law_random_roll m__law_random_roll p__law_random_roll
  exact tf_R (τ := Unit) (l := Unit) (G := (fun _ => [none, none, none, none, none, none, none])) (L := fun _ => []) (Γ := [some (.w (Wv.obj v_reader_here)), some (.w ((dW eI) v_most)), none, none, none, none, none]) (we (we (wa (wa (wa (wa (wa wn))))))) (
  (ts_seq (G := fun (c1 : (List Str) × (List Str) × (List (Str × Str × (List (List Str)))) × Unit) => [some (.w (Wv.obj v_reader_here)), some (.w ((dW eI) v_most)), some (.ow ((oL eS) c1.1)), some (.ow ((oL eS) c1.2.1)), some (.ow ((oL (eP3 eS eS (eT (eT eS)))) c1.2.2.1)), none, none]) (ts_nl (tn_cons (te_lst (e := eS) (fun (p : Str × Str × Str × Str × Str × Str × Str × Str × Str × Str × Unit) => [p.1, p.2.1, p.2.2.1, p.2.2.2.1, p.2.2.2.2.1, p.2.2.2.2.2.1, p.2.2.2.2.2.2.1, p.2.2.2.2.2.2.2.1, p.2.2.2.2.2.2.2.2.1, p.2.2.2.2.2.2.2.2.2.1]) (tw_cons (t1_d (te_kd (a := (PySem.Str.ofString "a")) (e := eS))) (tw_cons (t1_d (te_kd (a := (PySem.Str.ofString "ab")) (e := eS))) (tw_cons (t1_d (te_kd (a := (PySem.Str.ofString "b")) (e := eS))) (tw_cons (t1_d (te_kd (a := (PySem.Str.ofString "dig")) (e := eS))) (tw_cons (t1_d (te_kd (a := (PySem.Str.ofString "lay")) (e := eS))) (tw_cons (t1_d (te_kd (a := (PySem.Str.ofString "mow")) (e := eS))) (tw_cons (t1_d (te_kd (a := (PySem.Str.ofString "put")) (e := eS))) (tw_cons (t1_d (te_kd (a := (PySem.Str.ofString "rake")) (e := eS))) (tw_cons (t1_d (te_kd (a := (PySem.Str.ofString "saw")) (e := eS))) (tw_cons (t1_d (te_kd (a := (PySem.Str.ofString "zzzzzzzz")) (e := eS))) tw_nil)))))))))) (fun _ => ⟨rfl, rfl⟩)) (tn_cons (te_lst (e := eS) (fun (_ : Unit) => ([] : (List Str))) tw_nil (fun _ => ⟨rfl, rfl⟩)) (tn_cons (te_lst (e := (eP3 eS eS (eT (eT eS)))) (fun (_ : Unit) => ([] : (List (Str × Str × (List (List Str)))))) tw_nil (fun _ => ⟨rfl, rfl⟩)) tn_nil)))) fun c1 =>
  (ts_seq (G := fun (c2 : ((List Str) × (List Str))) => [some (.w (Wv.obj v_reader_here)), some (.w ((dW eI) v_most)), some (.ow ((oL eS) c2.1)), some (.ow ((oL eS) c2.2)), some (.ow ((oL (eP3 eS eS (eT (eT eS)))) c1.2.2.1)), none, none]) (ts_for (e := eI) (G := (fun (s4 : ((List Str) × (List Str))) => [some (.w (Wv.obj v_reader_here)), some (.w ((dW eI) v_most)), some (.ow ((oL eS) s4.1)), some (.ow ((oL eS) s4.2)), some (.ow ((oL (eP3 eS eS (eT (eT eS)))) c1.2.2.1)), none, none])) (c1.1, c1.2.1) (fun (i3 : Int) (s4 : ((List Str) × (List Str))) => [some (.w (Wv.obj v_reader_here)), some (.w ((dW eI) v_most)), some (.ow ((oL eS) s4.1)), some (.ow ((oL eS) s4.2)), some (.ow ((oL (eP3 eS eS (eT (eT eS)))) c1.2.2.1)), some (.w ((dW eI) i3)), none]) (ti_rg (te_ca (fun (p : Nat × Int × Unit) => dr r__law_draw p.1 p.2.1) (tw_cons (t1_d (te_rd (i := 0) (a := v_reader_here) (w := Wv.obj) rfl)) (tw_cons (t1_d (te_add (te_rd (i := 1) (a := v_most) (w := (dW eI)) rfl) (te_kd (a := (1 : Int)) (e := eI)))) tw_nil)) (fun (p : Nat × Int × Unit) => tf_dr _ _ _))) (we (we (we (we (we (wa (wa wn))))))) (fun _ _ => rfl) (fun i3 s4 =>
  (ts_end (G := fun (c6 : Str × (List Str)) => [some (.w (Wv.obj v_reader_here)), some (.w ((dW eI) v_most)), some (.ow ((oL eS) c6.2)), some (.ow ((oL eS) (s4.2 ++ [c6.1]))), some (.ow ((oL (eP3 eS eS (eT (eT eS)))) c1.2.2.1)), some (.w ((dW eI) i3)), none]) (fun (c6 : Str × (List Str)) => (c6.2, (s4.2 ++ [c6.1]))) (ts_app (e := eS) (xs := s4.2) (fun a => a.1) rfl (TXd.tx (tx_pop (e := eS) (ys := s4.1) rfl (te_ca (fun (p : Nat × Int × Unit) => dr r__law_draw p.1 p.2.1) (tw_cons (t1_d (te_rd (i := 0) (a := v_reader_here) (w := Wv.obj) rfl)) (tw_cons (t1_d (te_len (e := eS) (te_ro (i := 2) (a := s4.1) (o := (oL eS)) rfl) (.inr fun _ => rfl))) tw_nil)) (fun (p : Nat × Int × Unit) => tf_dr _ _ _)))) (fun _ => rfl) (fun _ => rfl)) (fun c6 => (we (we (we (we (we (wa (wa wn))))))))))) fun c2 =>
  (ts_seq (G := fun (c7 : Unit) => [some (.w (Wv.obj v_reader_here)), some (.w ((dW eI) v_most)), some (.ow ((oL eS) c2.1)), some (.w ((dW (eL eS)) c2.2)), some (.ow ((oL (eP3 eS eS (eT (eT eS)))) c1.2.2.1)), none, none]) (ts_fr1 (i := 3) (o := (oL eS) c2.2) rfl) fun c7 =>
  (ts_seq (G := fun (c8 : (List (Str × Str × (List (List Str))))) => [some (.w (Wv.obj v_reader_here)), some (.w ((dW eI) v_most)), some (.ow ((oL eS) c2.1)), some (.w ((dW (eL eS)) c2.2)), some (.ow ((oL (eP3 eS eS (eT (eT eS)))) c8)), none, none]) (ts_for (e := eI) (G := (fun (s10 : (List (Str × Str × (List (List Str))))) => [some (.w (Wv.obj v_reader_here)), some (.w ((dW eI) v_most)), some (.ow ((oL eS) c2.1)), some (.w ((dW (eL eS)) c2.2)), some (.ow ((oL (eP3 eS eS (eT (eT eS)))) s10)), none, none])) c1.2.2.1 (fun (i9 : Int) (s10 : (List (Str × Str × (List (List Str))))) => [some (.w (Wv.obj v_reader_here)), some (.w ((dW eI) v_most)), some (.ow ((oL eS) c2.1)), some (.w ((dW (eL eS)) c2.2)), some (.ow ((oL (eP3 eS eS (eT (eT eS)))) s10)), some (.w ((dW eI) i9)), none]) (ti_rg (te_len (e := eS) (te_rd (i := 3) (a := c2.2) (w := (dW (eL eS))) rfl) (.inr fun _ => rfl))) (we (we (we (we (we (wa (wa wn))))))) (fun _ _ => rfl) (fun i9 s10 =>
  (ts_seq (G := fun (c14 : Str) => [some (.w (Wv.obj v_reader_here)), some (.w ((dW eI) v_most)), some (.ow ((oL eS) c2.1)), some (.w ((dW (eL eS)) c2.2)), some (.ow ((oL (eP3 eS eS (eT (eT eS)))) s10)), some (.w ((dW eI) i9)), some (.w ((dW eS) c14))]) (ts_as (s0 := (.D (dW eS))) (te_ix (e := eS) (te_lst (e := eS) (fun (p : Str × Str × Str × Unit) => [p.1, p.2.1, p.2.2.1]) (tw_cons (t1_d (te_kd (a := (PySem.Str.ofString "ann")) (e := eS))) (tw_cons (t1_d (te_kd (a := (PySem.Str.ofString "bob")) (e := eS))) (tw_cons (t1_d (te_kd (a := (PySem.Str.ofString "cy")) (e := eS))) tw_nil))) (fun _ => ⟨rfl, rfl⟩)) (te_ca (fun (p : Nat × Int × Unit) => dr r__law_draw p.1 p.2.1) (tw_cons (t1_d (te_rd (i := 0) (a := v_reader_here) (w := Wv.obj) rfl)) (tw_cons (t1_d (te_kd (a := (3 : Int)) (e := eI))) tw_nil)) (fun (p : Nat × Int × Unit) => tf_dr _ _ _)) (.inr fun _ => rfl)) rfl) fun c14 =>
  (ts_seq (G := fun (c15 : Unit) => [some (.w (Wv.obj v_reader_here)), some (.w ((dW eI) v_most)), some (.ow ((oL eS) c2.1)), some (.w ((dW (eL eS)) c2.2)), some (.ow ((oL (eP3 eS eS (eT (eT eS)))) s10)), some (.w ((dW eI) i9)), some (.w ((dW eS) c14))]) (ts_fr0 (i := 3) (w := (dW (eL eS)) c2.2) rfl) fun c15 =>
  (ts_end (G := fun (c16 : (Str × Str × (List (List Str)))) => [some (.w (Wv.obj v_reader_here)), some (.w ((dW eI) v_most)), some (.ow ((oL eS) c2.1)), some (.w ((dW (eL eS)) c2.2)), some (.ow ((oL (eP3 eS eS (eT (eT eS)))) (s10 ++ [c16]))), some (.w ((dW eI) i9)), some (.w ((dW eS) c14))]) (fun (c16 : (Str × Str × (List (List Str)))) => (s10 ++ [c16])) (ts_app (e := (eP3 eS eS (eT (eT eS)))) (xs := s10) (fun a => a) rfl (tx_of (e := (eP3 eS eS (eT (eT eS)))) (t1_d (te_tup (e := (eP3 eS eS (eT (eT eS)))) (fun (p : Str × Str × (List (List Str)) × Unit) => (p.1, p.2.1, p.2.2.1)) (tw_cons (t1_d (te_ix (e := eS) (te_rd (i := 3) (a := c2.2) (w := (dW (eL eS))) rfl) (te_rd (i := 5) (a := i9) (w := (dW eI)) rfl) (.inr fun _ => rfl))) (tw_cons (t1_d (te_rd (i := 6) (a := c14) (w := (dW eS)) rfl)) (tw_cons (t1_d (te_ca (fun (p : Nat × (List Str) × (List Str) × Unit) => p__law_random_needs p.1 p.2.1 p.2.2.1) (tw_cons (t1_d (te_rd (i := 0) (a := v_reader_here) (w := Wv.obj) rfl)) (tw_cons (t1_d (te_rd (i := 3) (a := c2.2) (w := (dW (eL eS))) rfl)) (tw_cons (t1_l (te_slL (e := eS) (te_rd (i := 3) (a := c2.2) (w := (dW (eL eS))) rfl) to_n (to_s (te_rd (i := 5) (a := i9) (w := (dW eI)) rfl)) (fun _ => rfl))) tw_nil))) (fun (p : Nat × (List Str) × (List Str) × Unit) => t__law_random_needs p.1 p.2.1 p.2.2.1))) tw_nil))) (fun _ => ⟨_, rfl, rfl, rfl⟩))) (fun _ => rfl)) (fun _ => rfl) (fun _ => rfl)) (fun c16 => (we (we (we (we (we (wa (wa wn))))))))))))) fun c8 =>
  (ts_re (.D (dW (eT (eP3 eS eS (eT (eT eS)))))) (te_tupQ (e := (eP3 eS eS (eT (eT eS)))) (te_srt (e := (eP3 eS eS (eT (eT eS)))) ((LtE.p3 (lte_s) (lte_s) (((lte_s).tup).tup))) (by decide) (.inl fun _ => rfl) (te_ro (i := 4) (a := c8) (o := (oL (eP3 eS eS (eT (eT eS))))) rfl) (.inr fun _ => rfl)) (.inr fun _ => rfl))))))))
def p__law_wide_roll  : PM (List (Str × Str × (List (List Str)))) := fnR (τ := Unit) (l := Unit) (
  (sq ((((((pure (PySem.Str.ofString "a")) >>= fun a => ((pure (PySem.Str.ofString "ann")) >>= fun a => (((((pure ()) >>= fun p => pure ((fun (_ : Unit) => ([] : (List Str))) p)) >>= fun a => (pure ()) >>= fun p => pure (a, p)) >>= fun p => pure ((fun (p : (List Str) × Unit) => [p.1]) p)) >>= fun a => (pure ()) >>= fun p => pure (a, p)) >>= fun p => pure (a, p)) >>= fun p => pure (a, p)) >>= fun p => pure ((fun (p : Str × Str × (List (List Str)) × Unit) => (p.1, p.2.1, p.2.2.1)) p)) >>= fun a => ((((pure (PySem.Str.ofString "ab")) >>= fun a => ((pure (PySem.Str.ofString "ann")) >>= fun a => (((((pure ()) >>= fun p => pure ((fun (_ : Unit) => ([] : (List Str))) p)) >>= fun a => (pure ()) >>= fun p => pure (a, p)) >>= fun p => pure ((fun (p : (List Str) × Unit) => [p.1]) p)) >>= fun a => (pure ()) >>= fun p => pure (a, p)) >>= fun p => pure (a, p)) >>= fun p => pure (a, p)) >>= fun p => pure ((fun (p : Str × Str × (List (List Str)) × Unit) => (p.1, p.2.1, p.2.2.1)) p)) >>= fun a => ((((pure (PySem.Str.ofString "b")) >>= fun a => ((pure (PySem.Str.ofString "bob")) >>= fun a => (((((pure ()) >>= fun p => pure ((fun (_ : Unit) => ([] : (List Str))) p)) >>= fun a => (pure ()) >>= fun p => pure (a, p)) >>= fun p => pure ((fun (p : (List Str) × Unit) => [p.1]) p)) >>= fun a => (pure ()) >>= fun p => pure (a, p)) >>= fun p => pure (a, p)) >>= fun p => pure (a, p)) >>= fun p => pure ((fun (p : Str × Str × (List (List Str)) × Unit) => (p.1, p.2.1, p.2.2.1)) p)) >>= fun a => ((((pure (PySem.Str.ofString "dig")) >>= fun a => ((pure (PySem.Str.ofString "bob")) >>= fun a => (((((pure ()) >>= fun p => pure ((fun (_ : Unit) => ([] : (List Str))) p)) >>= fun a => (pure ()) >>= fun p => pure (a, p)) >>= fun p => pure ((fun (p : (List Str) × Unit) => [p.1]) p)) >>= fun a => (pure ()) >>= fun p => pure (a, p)) >>= fun p => pure (a, p)) >>= fun p => pure (a, p)) >>= fun p => pure ((fun (p : Str × Str × (List (List Str)) × Unit) => (p.1, p.2.1, p.2.2.1)) p)) >>= fun a => (pure ()) >>= fun p => pure (a, p)) >>= fun p => pure (a, p)) >>= fun p => pure (a, p)) >>= fun p => pure (a, p)) >>= fun p => pure ((fun (p : (Str × Str × (List (List Str))) × (Str × Str × (List (List Str))) × (Str × Str × (List (List Str))) × (Str × Str × (List (List Str))) × Unit) => [p.1, p.2.1, p.2.2.1, p.2.2.2.1]) p)) >>= fun a => pure (Fl.nx a)) fun (c1 : (List (Str × Str × (List (List Str))))) =>
  (sq (((pure c1) >>= fun a => (((((pure (PySem.Str.ofString "lay")) >>= fun a => ((pure (PySem.Str.ofString "cy")) >>= fun a => ((((((pure (PySem.Str.ofString "ab")) >>= fun a => (pure ()) >>= fun p => pure (a, p)) >>= fun p => pure ((fun (p : Str × Unit) => [p.1]) p)) >>= fun a => (pure ()) >>= fun p => pure (a, p)) >>= fun p => pure ((fun (p : (List Str) × Unit) => [p.1]) p)) >>= fun a => (pure ()) >>= fun p => pure (a, p)) >>= fun p => pure (a, p)) >>= fun p => pure (a, p)) >>= fun p => pure ((fun (p : Str × Str × (List (List Str)) × Unit) => (p.1, p.2.1, p.2.2.1)) p)) >>= fun a => ((((pure (PySem.Str.ofString "saw")) >>= fun a => ((pure (PySem.Str.ofString "cy")) >>= fun a => ((((((pure (PySem.Str.ofString "a")) >>= fun a => ((pure (PySem.Str.ofString "ab")) >>= fun a => ((pure (PySem.Str.ofString "b")) >>= fun a => ((pure (PySem.Str.ofString "lay")) >>= fun a => (pure ()) >>= fun p => pure (a, p)) >>= fun p => pure (a, p)) >>= fun p => pure (a, p)) >>= fun p => pure (a, p)) >>= fun p => pure ((fun (p : Str × Str × Str × Str × Unit) => [p.1, p.2.1, p.2.2.1, p.2.2.2.1]) p)) >>= fun a => ((((pure (PySem.Str.ofString "a")) >>= fun a => ((pure (PySem.Str.ofString "b")) >>= fun a => ((pure (PySem.Str.ofString "dig")) >>= fun a => (pure ()) >>= fun p => pure (a, p)) >>= fun p => pure (a, p)) >>= fun p => pure (a, p)) >>= fun p => pure ((fun (p : Str × Str × Str × Unit) => [p.1, p.2.1, p.2.2.1]) p)) >>= fun a => (pure ()) >>= fun p => pure (a, p)) >>= fun p => pure (a, p)) >>= fun p => pure ((fun (p : (List Str) × (List Str) × Unit) => [p.1, p.2.1]) p)) >>= fun a => (pure ()) >>= fun p => pure (a, p)) >>= fun p => pure (a, p)) >>= fun p => pure (a, p)) >>= fun p => pure ((fun (p : Str × Str × (List (List Str)) × Unit) => (p.1, p.2.1, p.2.2.1)) p)) >>= fun a => (pure ()) >>= fun p => pure (a, p)) >>= fun p => pure (a, p)) >>= fun p => pure ((fun (p : (Str × Str × (List (List Str))) × (Str × Str × (List (List Str))) × Unit) => [p.1, p.2.1]) p)) >>= fun b => gd (size (a.length + b.length)) (a ++ b)) >>= fun a => pure (Fl.nx a)) fun (c2 : (List (Str × Str × (List (List Str))))) =>
  ((pure c2) >>= fun b => pure (Fl.rt b)))))
theorem t__law_wide_roll  : TF r__law_wide_roll [] (p__law_wide_roll ) (.D (dW (eT (eP3 eS eS (eT (eT eS)))))) := by
  unfold r__law_wide_roll m__law_wide_roll p__law_wide_roll
  exact tf_R (τ := Unit) (l := Unit) (G := (fun _ => [none])) (L := fun _ => []) (Γ := [none]) (wa wn) (
  (ts_seq (G := fun (c1 : (List (Str × Str × (List (List Str))))) => [some (.ow ((oL (eP3 eS eS (eT (eT eS)))) c1))]) (ts_as (s0 := (.F (oL (eP3 eS eS (eT (eT eS)))))) (te_lst (e := (eP3 eS eS (eT (eT eS)))) (fun (p : (Str × Str × (List (List Str))) × (Str × Str × (List (List Str))) × (Str × Str × (List (List Str))) × (Str × Str × (List (List Str))) × Unit) => [p.1, p.2.1, p.2.2.1, p.2.2.2.1]) (tw_cons (t1_d (te_tup (e := (eP3 eS eS (eT (eT eS)))) (fun (p : Str × Str × (List (List Str)) × Unit) => (p.1, p.2.1, p.2.2.1)) (tw_cons (t1_d (te_kd (a := (PySem.Str.ofString "a")) (e := eS))) (tw_cons (t1_d (te_kd (a := (PySem.Str.ofString "ann")) (e := eS))) (tw_cons (t1_d (te_tup (e := (eT (eT eS))) (fun (p : (List Str) × Unit) => [p.1]) (tw_cons (t1_d (te_tup (e := (eT eS)) (fun (_ : Unit) => ([] : (List Str))) tw_nil (fun _ => ⟨_, rfl, rfl, rfl⟩))) tw_nil) (fun _ => ⟨_, rfl, rfl, rfl⟩))) tw_nil))) (fun _ => ⟨_, rfl, rfl, rfl⟩))) (tw_cons (t1_d (te_tup (e := (eP3 eS eS (eT (eT eS)))) (fun (p : Str × Str × (List (List Str)) × Unit) => (p.1, p.2.1, p.2.2.1)) (tw_cons (t1_d (te_kd (a := (PySem.Str.ofString "ab")) (e := eS))) (tw_cons (t1_d (te_kd (a := (PySem.Str.ofString "ann")) (e := eS))) (tw_cons (t1_d (te_tup (e := (eT (eT eS))) (fun (p : (List Str) × Unit) => [p.1]) (tw_cons (t1_d (te_tup (e := (eT eS)) (fun (_ : Unit) => ([] : (List Str))) tw_nil (fun _ => ⟨_, rfl, rfl, rfl⟩))) tw_nil) (fun _ => ⟨_, rfl, rfl, rfl⟩))) tw_nil))) (fun _ => ⟨_, rfl, rfl, rfl⟩))) (tw_cons (t1_d (te_tup (e := (eP3 eS eS (eT (eT eS)))) (fun (p : Str × Str × (List (List Str)) × Unit) => (p.1, p.2.1, p.2.2.1)) (tw_cons (t1_d (te_kd (a := (PySem.Str.ofString "b")) (e := eS))) (tw_cons (t1_d (te_kd (a := (PySem.Str.ofString "bob")) (e := eS))) (tw_cons (t1_d (te_tup (e := (eT (eT eS))) (fun (p : (List Str) × Unit) => [p.1]) (tw_cons (t1_d (te_tup (e := (eT eS)) (fun (_ : Unit) => ([] : (List Str))) tw_nil (fun _ => ⟨_, rfl, rfl, rfl⟩))) tw_nil) (fun _ => ⟨_, rfl, rfl, rfl⟩))) tw_nil))) (fun _ => ⟨_, rfl, rfl, rfl⟩))) (tw_cons (t1_d (te_tup (e := (eP3 eS eS (eT (eT eS)))) (fun (p : Str × Str × (List (List Str)) × Unit) => (p.1, p.2.1, p.2.2.1)) (tw_cons (t1_d (te_kd (a := (PySem.Str.ofString "dig")) (e := eS))) (tw_cons (t1_d (te_kd (a := (PySem.Str.ofString "bob")) (e := eS))) (tw_cons (t1_d (te_tup (e := (eT (eT eS))) (fun (p : (List Str) × Unit) => [p.1]) (tw_cons (t1_d (te_tup (e := (eT eS)) (fun (_ : Unit) => ([] : (List Str))) tw_nil (fun _ => ⟨_, rfl, rfl, rfl⟩))) tw_nil) (fun _ => ⟨_, rfl, rfl, rfl⟩))) tw_nil))) (fun _ => ⟨_, rfl, rfl, rfl⟩))) tw_nil)))) (fun _ => ⟨rfl, rfl⟩)) rfl) fun c1 =>
  (ts_seq (G := fun (c2 : (List (Str × Str × (List (List Str))))) => [some (.ow ((oL (eP3 eS eS (eT (eT eS)))) c2))]) (ts_as (s0 := (.F (oL (eP3 eS eS (eT (eT eS)))))) (te_addL (e := (eP3 eS eS (eT (eT eS)))) (te_ro (i := 0) (a := c1) (o := (oL (eP3 eS eS (eT (eT eS))))) rfl) (te_lst (e := (eP3 eS eS (eT (eT eS)))) (fun (p : (Str × Str × (List (List Str))) × (Str × Str × (List (List Str))) × Unit) => [p.1, p.2.1]) (tw_cons (t1_d (te_tup (e := (eP3 eS eS (eT (eT eS)))) (fun (p : Str × Str × (List (List Str)) × Unit) => (p.1, p.2.1, p.2.2.1)) (tw_cons (t1_d (te_kd (a := (PySem.Str.ofString "lay")) (e := eS))) (tw_cons (t1_d (te_kd (a := (PySem.Str.ofString "cy")) (e := eS))) (tw_cons (t1_d (te_tup (e := (eT (eT eS))) (fun (p : (List Str) × Unit) => [p.1]) (tw_cons (t1_d (te_tup (e := (eT eS)) (fun (p : Str × Unit) => [p.1]) (tw_cons (t1_d (te_kd (a := (PySem.Str.ofString "ab")) (e := eS))) tw_nil) (fun _ => ⟨_, rfl, rfl, rfl⟩))) tw_nil) (fun _ => ⟨_, rfl, rfl, rfl⟩))) tw_nil))) (fun _ => ⟨_, rfl, rfl, rfl⟩))) (tw_cons (t1_d (te_tup (e := (eP3 eS eS (eT (eT eS)))) (fun (p : Str × Str × (List (List Str)) × Unit) => (p.1, p.2.1, p.2.2.1)) (tw_cons (t1_d (te_kd (a := (PySem.Str.ofString "saw")) (e := eS))) (tw_cons (t1_d (te_kd (a := (PySem.Str.ofString "cy")) (e := eS))) (tw_cons (t1_d (te_tup (e := (eT (eT eS))) (fun (p : (List Str) × (List Str) × Unit) => [p.1, p.2.1]) (tw_cons (t1_d (te_tup (e := (eT eS)) (fun (p : Str × Str × Str × Str × Unit) => [p.1, p.2.1, p.2.2.1, p.2.2.2.1]) (tw_cons (t1_d (te_kd (a := (PySem.Str.ofString "a")) (e := eS))) (tw_cons (t1_d (te_kd (a := (PySem.Str.ofString "ab")) (e := eS))) (tw_cons (t1_d (te_kd (a := (PySem.Str.ofString "b")) (e := eS))) (tw_cons (t1_d (te_kd (a := (PySem.Str.ofString "lay")) (e := eS))) tw_nil)))) (fun _ => ⟨_, rfl, rfl, rfl⟩))) (tw_cons (t1_d (te_tup (e := (eT eS)) (fun (p : Str × Str × Str × Unit) => [p.1, p.2.1, p.2.2.1]) (tw_cons (t1_d (te_kd (a := (PySem.Str.ofString "a")) (e := eS))) (tw_cons (t1_d (te_kd (a := (PySem.Str.ofString "b")) (e := eS))) (tw_cons (t1_d (te_kd (a := (PySem.Str.ofString "dig")) (e := eS))) tw_nil))) (fun _ => ⟨_, rfl, rfl, rfl⟩))) tw_nil)) (fun _ => ⟨_, rfl, rfl, rfl⟩))) tw_nil))) (fun _ => ⟨_, rfl, rfl, rfl⟩))) tw_nil)) (fun _ => ⟨rfl, rfl⟩)) (fun _ => rfl) (fun _ => rfl)) rfl) fun c2 =>
  (ts_re (.D (dW (eT (eP3 eS eS (eT (eT eS)))))) (te_tupQ (e := (eP3 eS eS (eT (eT eS)))) (te_ro (i := 0) (a := c2) (o := (oL (eP3 eS eS (eT (eT eS))))) rfl) (.inr fun _ => rfl))))))
def p__law_deed_names (v_roll : (List (Str × Str × (List (List Str))))) : PM (List Str) := fnR (τ := Unit) (l := Unit) (
  (((pure v_roll) >>= fun xs => cp (fun (x1 : (Str × Str × (List (List Str)))) => (pure true)) (fun (x1 : (Str × Str × (List (List Str)))) => ((pure x1) >>= fun a => pure ((fun a : (Str × Str × (List (List Str))) => a.1) a))) xs) >>= fun b => pure (Fl.rt b)))
theorem t__law_deed_names (v_roll : (List (Str × Str × (List (List Str))))) : TF r__law_deed_names [(dW (eT (eP3 eS eS (eT (eT eS))))) v_roll] (p__law_deed_names v_roll) (.F (oL eS)) := by
  unfold r__law_deed_names m__law_deed_names p__law_deed_names
  exact tf_R (τ := Unit) (l := Unit) (G := (fun _ => [none, none])) (L := fun _ => []) (Γ := [some (.w ((dW (eT (eP3 eS eS (eT (eT eS))))) v_roll)), none]) (we (wa wn)) (
  (ts_re (.F (oL eS)) (te_lc (e := (eP3 eS eS (eT (eT eS)))) (e' := eS) (fun (x1 : (Str × Str × (List (List Str)))) => [some (.w ((dW (eT (eP3 eS eS (eT (eT eS))))) v_roll)), some (.w ((dW (eP3 eS eS (eT (eT eS)))) x1))]) rfl (by decide) (fun _ => rfl) (ti_wk (e := (eP3 eS eS (eT (eT eS)))) (t1_d (te_rd (i := 0) (a := v_roll) (w := (dW (eT (eP3 eS eS (eT (eT eS)))))) rfl)) (fun _ => ⟨_, rfl, rfl⟩)) (fun x1 => tt_true) (fun x1 => (t1_d (te_ixP (e := eS) (k := 0) (fun a : (Str × Str × (List (List Str))) => a.1) (te_rd (i := 1) (a := x1) (w := (dW (eP3 eS eS (eT (eT eS))))) rfl) (fun _ => ⟨_, rfl, rfl⟩)))) (fun _ => rfl))))
def p__law_random_subset (v_reader_here : Nat) (v_roll : (List (Str × Str × (List (List Str))))) : PM (List Str) := fnR (τ := Unit) (l := Unit) (
  (sq ((((pure v_reader_here) >>= fun a => ((pure (5 : Int)) >>= fun a => (pure ()) >>= fun p => pure (a, p)) >>= fun p => pure (a, p)) >>= fun (p : Nat × Int × Unit) => dr r__law_draw p.1 p.2.1) >>= fun a => pure (Fl.nx a)) fun (c1 : Int) =>
  (sq (((((pure v_roll) >>= fun a => (pure ()) >>= fun p => pure (a, p)) >>= fun (p : (List (Str × Str × (List (List Str)))) × Unit) => p__law_deed_names p.1) >>= fun xs => cp (fun (x3 : Str) => (bOr ((pure c1) >>= fun a => (pure (0 : Int)) >>= fun b => pure (decide (a = b))) (bAnd ((pure c1) >>= fun a => (pure (1 : Int)) >>= fun b => pure (decide (b < a))) ((((pure v_reader_here) >>= fun a => ((pure c1) >>= fun a => (pure ()) >>= fun p => pure (a, p)) >>= fun p => pure (a, p)) >>= fun (p : Nat × Int × Unit) => dr r__law_draw p.1 p.2.1) >>= fun a => (pure (0 : Int)) >>= fun b => pure (decide (b < a)))))) (fun (x3 : Str) => (pure x3)) xs) >>= fun a => pure (Fl.nx a)) fun (c2 : (List Str)) =>
  ((pure c2) >>= fun b => pure (Fl.rt b)))))
theorem t__law_random_subset (v_reader_here : Nat) (v_roll : (List (Str × Str × (List (List Str))))) : TF r__law_random_subset [Wv.obj v_reader_here, (dW (eT (eP3 eS eS (eT (eT eS))))) v_roll] (p__law_random_subset v_reader_here v_roll) (.D (dW (eT eS))) := by
  unfold r__law_random_subset m__law_random_subset p__law_random_subset
  exact tf_R (τ := Unit) (l := Unit) (G := (fun _ => [none, none, none, none, none])) (L := fun _ => []) (Γ := [some (.w (Wv.obj v_reader_here)), some (.w ((dW (eT (eP3 eS eS (eT (eT eS))))) v_roll)), none, none, none]) (we (we (wa (wa (wa wn))))) (
  (ts_seq (G := fun (c1 : Int) => [some (.w (Wv.obj v_reader_here)), some (.w ((dW (eT (eP3 eS eS (eT (eT eS))))) v_roll)), some (.w ((dW eI) c1)), none, none]) (ts_as (s0 := (.D (dW eI))) (te_ca (fun (p : Nat × Int × Unit) => dr r__law_draw p.1 p.2.1) (tw_cons (t1_d (te_rd (i := 0) (a := v_reader_here) (w := Wv.obj) rfl)) (tw_cons (t1_d (te_kd (a := (5 : Int)) (e := eI))) tw_nil)) (fun (p : Nat × Int × Unit) => tf_dr _ _ _)) rfl) fun c1 =>
  (ts_seq (G := fun (c2 : (List Str)) => [some (.w (Wv.obj v_reader_here)), some (.w ((dW (eT (eP3 eS eS (eT (eT eS))))) v_roll)), some (.w ((dW eI) c1)), some (.ow ((oL eS) c2)), none]) (ts_as (s0 := (.F (oL eS))) (te_lc (e := eS) (e' := eS) (fun (x3 : Str) => [some (.w (Wv.obj v_reader_here)), some (.w ((dW (eT (eP3 eS eS (eT (eT eS))))) v_roll)), some (.w ((dW eI) c1)), none, some (.w ((dW eS) x3))]) rfl (by decide) (fun _ => rfl) (ti_wk (e := eS) (t1_l (te_ca (fun (p : (List (Str × Str × (List (List Str)))) × Unit) => p__law_deed_names p.1) (tw_cons (t1_d (te_rd (i := 1) (a := v_roll) (w := (dW (eT (eP3 eS eS (eT (eT eS)))))) rfl)) tw_nil) (fun (p : (List (Str × Str × (List (List Str)))) × Unit) => t__law_deed_names p.1))) (fun _ => ⟨_, rfl, rfl⟩)) (fun x3 => (tt_or (tt_b (te_eq (e := eI) (eqe_i) (by decide) (te_rd (i := 2) (a := c1) (w := (dW eI)) rfl) (te_kd (a := (0 : Int)) (e := eI)) dc_d dc_d)) (tt_and (tt_b (te_gtI (te_rd (i := 2) (a := c1) (w := (dW eI)) rfl) (te_kd (a := (1 : Int)) (e := eI)))) (tt_b (te_gtI (te_ca (fun (p : Nat × Int × Unit) => dr r__law_draw p.1 p.2.1) (tw_cons (t1_d (te_rd (i := 0) (a := v_reader_here) (w := Wv.obj) rfl)) (tw_cons (t1_d (te_rd (i := 2) (a := c1) (w := (dW eI)) rfl)) tw_nil)) (fun (p : Nat × Int × Unit) => tf_dr _ _ _)) (te_kd (a := (0 : Int)) (e := eI))))))) (fun x3 => (t1_d (te_rd (i := 4) (a := x3) (w := (dW eS)) rfl))) (fun _ => rfl)) rfl) fun c2 =>
  (ts_re (.D (dW (eT eS))) (te_tupQ (e := eS) (te_ro (i := 3) (a := c2) (o := (oL eS)) rfl) (.inr fun _ => rfl))))))
def p_needs_by (v_roll : (List (Str × Str × (List (List Str))))) : PM (List (Str × (List (List Str)))) := fnR (τ := Unit) (l := Unit) (
  (((pure v_roll) >>= fun xs => dp (fun (x1 : (Str × Str × (List (List Str)))) => (pure true)) (fun (x1 : (Str × Str × (List (List Str)))) => (pure x1.1)) (fun (x1 : (Str × Str × (List (List Str)))) => (pure x1.2.2)) xs) >>= fun b => pure (Fl.rt b)))
theorem t_needs_by (v_roll : (List (Str × Str × (List (List Str))))) : TF r_needs_by [(dW (eT (eP3 eS eS (eT (eT eS))))) v_roll] (p_needs_by v_roll) (.F (oD eS (eT (eT eS)))) := by
  unfold r_needs_by m_needs_by p_needs_by
  exact tf_R (τ := Unit) (l := Unit) (G := (fun _ => [none, none, none, none])) (L := fun _ => []) (Γ := [some (.w ((dW (eT (eP3 eS eS (eT (eT eS))))) v_roll)), none, none, none]) (we (wa (wa (wa wn)))) (
  (ts_re (.F (oD eS (eT (eT eS)))) (te_dc (e := (eP3 eS eS (eT (eT eS)))) (ek := eS) (ev := (eT (eT eS))) kye_s (fun (x1 : (Str × Str × (List (List Str)))) => [some (.w ((dW (eT (eP3 eS eS (eT (eT eS))))) v_roll)), some (.w ((dW eS) x1.1)), some (.w ((dW eS) x1.2.1)), some (.w ((dW (eT (eT eS))) x1.2.2))]) rfl (by decide) (fun _ => rfl) (ti_wk (e := (eP3 eS eS (eT (eT eS)))) (t1_d (te_rd (i := 0) (a := v_roll) (w := (dW (eT (eP3 eS eS (eT (eT eS)))))) rfl)) (fun _ => ⟨_, rfl, rfl⟩)) (fun x1 => tt_true) (fun x1 => (te_rd (i := 1) (a := x1.1) (w := (dW eS)) rfl)) (fun x1 => (t1_d (te_rd (i := 3) (a := x1.2.2) (w := (dW (eT (eT eS)))) rfl))) (fun _ => rfl))))
def p_need_names (v_roll : (List (Str × Str × (List (List Str))))) (v_names : (List Str)) : PM (List (Str × (List (List Str)))) := fnR (τ := Unit) (l := Unit) (
  (sq ((((pure v_roll) >>= fun a => (pure ()) >>= fun p => pure (a, p)) >>= fun (p : (List (Str × Str × (List (List Str)))) × Unit) => p_needs_by p.1) >>= fun a => pure (Fl.nx a)) fun (c1 : (List (Str × (List (List Str))))) =>
  (sq ((pure v_names) >>= fun xs => forF (fun (i3 : Str) (s4 : Unit) =>
  (pIf ((pure i3) >>= fun a => (pure c1) >>= fun b => pure (!(lk b a).isSome)) no (pure (Fl.nx ())))) xs ()) fun (c2 : Unit) =>
  ((pure c1) >>= fun b => pure (Fl.rt b)))))
theorem t_need_names (v_roll : (List (Str × Str × (List (List Str))))) (v_names : (List Str)) : TF r_need_names [(dW (eT (eP3 eS eS (eT (eT eS))))) v_roll, (dW (eT eS)) v_names] (p_need_names v_roll v_names) (.F (oD eS (eT (eT eS)))) := by
  unfold r_need_names m_need_names p_need_names
  exact tf_R (τ := Unit) (l := Unit) (G := (fun _ => [none, none, none, none])) (L := fun _ => []) (Γ := [some (.w ((dW (eT (eP3 eS eS (eT (eT eS))))) v_roll)), some (.w ((dW (eT eS)) v_names)), none, none]) (we (we (wa (wa wn)))) (
  (ts_seq (G := fun (c1 : (List (Str × (List (List Str))))) => [some (.w ((dW (eT (eP3 eS eS (eT (eT eS))))) v_roll)), some (.w ((dW (eT eS)) v_names)), some (.ow ((oD eS (eT (eT eS))) c1)), none]) (ts_as (s0 := (.F (oD eS (eT (eT eS))))) (te_ca (fun (p : (List (Str × Str × (List (List Str)))) × Unit) => p_needs_by p.1) (tw_cons (t1_d (te_rd (i := 0) (a := v_roll) (w := (dW (eT (eP3 eS eS (eT (eT eS)))))) rfl)) tw_nil) (fun (p : (List (Str × Str × (List (List Str)))) × Unit) => t_needs_by p.1)) rfl) fun c1 =>
  (ts_seq (G := fun (c2 : Unit) => [some (.w ((dW (eT (eP3 eS eS (eT (eT eS))))) v_roll)), some (.w ((dW (eT eS)) v_names)), some (.ow ((oD eS (eT (eT eS))) c1)), none]) (ts_for (e := eS) (G := (fun (s4 : Unit) => [some (.w ((dW (eT (eP3 eS eS (eT (eT eS))))) v_roll)), some (.w ((dW (eT eS)) v_names)), some (.ow ((oD eS (eT (eT eS))) c1)), none])) () (fun (i3 : Str) (s4 : Unit) => [some (.w ((dW (eT (eP3 eS eS (eT (eT eS))))) v_roll)), some (.w ((dW (eT eS)) v_names)), some (.ow ((oD eS (eT (eT eS))) c1)), some (.w ((dW eS) i3))]) (ti_wk (e := eS) (t1_d (te_rd (i := 1) (a := v_names) (w := (dW (eT eS))) rfl)) (fun _ => ⟨_, rfl, rfl⟩)) (we (we (we (wa wn)))) (fun _ _ => rfl) (fun i3 s4 =>
  (ts_if (tt_b (te_ninD (ek := eS) (ev := (eT (eT eS))) kye_s (te_rd (i := 3) (a := i3) (w := (dW eS)) rfl) (te_ro (i := 2) (a := c1) (o := (oD eS (eT (eT eS)))) rfl) dc_d (fun _ => rfl))) ts_no (ts_nw (a := ()) (we (we (we (wa wn)))))))) fun c2 =>
  (ts_re (.P 2 (oD eS (eT (eT eS)))) (te_ro (i := 2) (a := c1) (o := (oD eS (eT (eT eS)))) rfl)))))
def p_found_in (v_needs : (List (List Str))) (v_deeds : (List Str)) : PM Bool := fnR (τ := Unit) (l := Unit) (
  ((((pure v_needs) >>= fun xs => cp (fun (x1 : (List Str)) => (pure true)) (fun (x1 : (List Str)) => (((pure x1) >>= fun xs => cp (fun (x2 : Str) => (pure true)) (fun (x2 : Str) => ((pure x2) >>= fun a => (pure v_deeds) >>= fun b => pure (decide (a ∈ b)))) xs) >>= fun a => pure (a.all id))) xs) >>= fun a => pure (a.any id)) >>= fun b => pure (Fl.rt b)))
theorem t_found_in (v_needs : (List (List Str))) (v_deeds : (List Str)) : TF r_found_in [(dW (eT (eT eS))) v_needs, (dW (eT eS)) v_deeds] (p_found_in v_needs v_deeds) (.D (dW eB)) := by
  unfold r_found_in m_found_in p_found_in
  exact tf_R (τ := Unit) (l := Unit) (G := (fun _ => [none, none, none, none])) (L := fun _ => []) (Γ := [some (.w ((dW (eT (eT eS))) v_needs)), some (.w ((dW (eT eS)) v_deeds)), none, none]) (we (we (wa (wa wn)))) (
  (ts_re (.D (dW eB)) (te_qun (f := fun bs => bs.any id) (te_lc (e := (eT eS)) (e' := eB) (fun (x1 : (List Str)) => [some (.w ((dW (eT (eT eS))) v_needs)), some (.w ((dW (eT eS)) v_deeds)), some (.w ((dW (eT eS)) x1)), none]) rfl (by decide) (fun _ => rfl) (ti_wk (e := (eT eS)) (t1_d (te_rd (i := 0) (a := v_needs) (w := (dW (eT (eT eS)))) rfl)) (fun _ => ⟨_, rfl, rfl⟩)) (fun x1 => tt_true) (fun x1 => (t1_d (te_qun (f := fun bs => bs.all id) (te_lc (e := eS) (e' := eB) (fun (x2 : Str) => [some (.w ((dW (eT (eT eS))) v_needs)), some (.w ((dW (eT eS)) v_deeds)), some (.w ((dW (eT eS)) x1)), some (.w ((dW eS) x2))]) rfl (by decide) (fun _ => rfl) (ti_wk (e := eS) (t1_d (te_rd (i := 2) (a := x1) (w := (dW (eT eS))) rfl)) (fun _ => ⟨_, rfl, rfl⟩)) (fun x2 => tt_true) (fun x2 => (t1_d (te_in (e := eS) (eqe_s) (by decide) (te_rd (i := 3) (a := x2) (w := (dW eS)) rfl) (te_rd (i := 1) (a := v_deeds) (w := (dW (eT eS))) rfl) dc_d (.inl fun _ => rfl)))) (fun _ => rfl)) (fun _ => rfl)))) (fun _ => rfl)) (fun _ => rfl))))
def p_grown (v_known : (List (Str × (List (List Str))))) (v_deeds : (List Str)) : PM (List Str) := fnR (τ := Unit) (l := Unit) (
  (sq (((((pure ()) >>= fun p => pure ((fun (_ : Unit) => ([] : (List Str))) p)) >>= fun a => ((((pure none) >>= fun a => (pure ()) >>= fun p => pure (a, p)) >>= fun p => pure ((fun (p : (Option Str) × Unit) => [p.1]) p)) >>= fun a => (pure ()) >>= fun p => pure (a, p)) >>= fun p => pure (a, p)) >>= fun p => pure ((fun (p : (List Str) × (List (Option Str)) × Unit) => (p.1, p.2.1)) p)) >>= fun a => pure (Fl.nx a)) fun (c1 : ((List Str) × (List (Option Str)))) =>
  (sq (whF (fun (s3 : ((List Str) × (List (Option Str)))) => ((pure s3.2) >>= fun a => ((pure ()) >>= fun p => pure ((fun (_ : Unit) => ([] : (List (Option Str)))) p)) >>= fun b => pure (!decide (a = b)))) (fun (s3 : ((List Str) × (List (Option Str)))) =>
  (sq (((pure v_deeds) >>= fun xs => cp (fun (x8 : Str) => (bAnd ((pure x8) >>= fun a => (pure s3.1) >>= fun b => pure (!decide (a ∈ b))) ((((pure v_known) >>= fun a => (pure x8) >>= fun b => op (lk a b)) >>= fun a => ((pure s3.1) >>= fun a => (pure ()) >>= fun p => pure (a, p)) >>= fun p => pure (a, p)) >>= fun (p : (List (List Str)) × (List Str) × Unit) => p_found_in p.1 p.2.1))) (fun (x8 : Str) => (pure x8)) xs) >>= fun a => pure (Fl.nx a)) fun (c7 : (List Str)) =>
  (sq (((pure s3.1) >>= fun a => (pure c7) >>= fun b => gd (size (a.length + b.length)) (a ++ b)) >>= fun a => pure (Fl.nx a)) fun (c9 : (List Str)) => pure (Fl.nx (c9, ((List.map (some : Str → (Option Str))) c7)))))) 40 (c1.1, c1.2)) fun (c2 : ((List Str) × (List (Option Str)))) =>
  ((pure c2.1) >>= fun b => pure (Fl.rt b)))))
theorem t_grown (v_known : (List (Str × (List (List Str))))) (v_deeds : (List Str)) : TF r_grown [(cD eS (eT (eT eS))) v_known, (dW (eT eS)) v_deeds] (p_grown v_known v_deeds) (.D (dW (eT eS))) := by
  unfold r_grown m_grown p_grown
  exact tf_R (τ := Unit) (l := Unit) (G := (fun _ => [none, none, none, none, none])) (L := fun _ => []) (Γ := [some (.w ((cD eS (eT (eT eS))) v_known)), some (.w ((dW (eT eS)) v_deeds)), none, none, none]) (we (we (wa (wa (wa wn))))) (
  (ts_seq (G := fun (c1 : ((List Str) × (List (Option Str)))) => [some (.w ((cD eS (eT (eT eS))) v_known)), some (.w ((dW (eT eS)) v_deeds)), some (.w ((dW (eT eS)) c1.1)), some (.w ((dW (eT (eO eS))) c1.2)), none]) (ts_ta (e := (eP2 (eT eS) (eT (eO eS)))) (fun (c1 : ((List Str) × (List (Option Str)))) => [some (.w ((cD eS (eT (eT eS))) v_known)), some (.w ((dW (eT eS)) v_deeds)), some (.w ((dW (eT eS)) c1.1)), some (.w ((dW (eT (eO eS))) c1.2)), none]) (t1_d (te_tup (e := (eP2 (eT eS) (eT (eO eS)))) (fun (p : (List Str) × (List (Option Str)) × Unit) => (p.1, p.2.1)) (tw_cons (t1_d (te_tup (e := (eT eS)) (fun (_ : Unit) => ([] : (List Str))) tw_nil (fun _ => ⟨_, rfl, rfl, rfl⟩))) (tw_cons (t1_d (te_tup (e := (eT (eO eS))) (fun (p : (Option Str) × Unit) => [p.1]) (tw_cons (t1_d (te_kd (a := (none : (Option Str))) (e := (eO eS)))) tw_nil) (fun _ => ⟨_, rfl, rfl, rfl⟩))) tw_nil)) (fun _ => ⟨_, rfl, rfl, rfl⟩))) (fun _ => rfl) (fun _ => rfl)) fun c1 =>
  (ts_seq (G := fun (c2 : ((List Str) × (List (Option Str)))) => [some (.w ((cD eS (eT (eT eS))) v_known)), some (.w ((dW (eT eS)) v_deeds)), some (.w ((dW (eT eS)) c2.1)), some (.w ((dW (eT (eO eS))) c2.2)), none]) (ts_wh (G := (fun (s3 : ((List Str) × (List (Option Str)))) => [some (.w ((cD eS (eT (eT eS))) v_known)), some (.w ((dW (eT eS)) v_deeds)), some (.w ((dW (eT eS)) s3.1)), some (.w ((dW (eT (eO eS))) s3.2)), none])) (c1.1, c1.2) (we (we (we (we (wa wn))))) (fun s3 => (tt_b (te_ne (e := (eT (eO eS))) (((eqe_s).opt).tup) (by decide) (te_rd (i := 3) (a := s3.2) (w := (dW (eT (eO eS)))) rfl) (te_tup (e := (eT (eO eS))) (fun (_ : Unit) => ([] : (List (Option Str)))) tw_nil (fun _ => ⟨_, rfl, rfl, rfl⟩)) dc_d dc_d))) (fun s3 =>
  (ts_seq (G := fun (c7 : (List Str)) => [some (.w ((cD eS (eT (eT eS))) v_known)), some (.w ((dW (eT eS)) v_deeds)), some (.w ((dW (eT eS)) s3.1)), some (.w ((dW (eT eS)) c7)), none]) (ts_as (s0 := (.D (dW (eT eS)))) (te_tupQ (e := eS) (te_lc (e := eS) (e' := eS) (fun (x8 : Str) => [some (.w ((cD eS (eT (eT eS))) v_known)), some (.w ((dW (eT eS)) v_deeds)), some (.w ((dW (eT eS)) s3.1)), some (.w ((dW (eT (eO eS))) s3.2)), some (.w ((dW eS) x8))]) rfl (by decide) (fun _ => rfl) (ti_wk (e := eS) (t1_d (te_rd (i := 1) (a := v_deeds) (w := (dW (eT eS))) rfl)) (fun _ => ⟨_, rfl, rfl⟩)) (fun x8 => (tt_and (tt_b (te_nin (e := eS) (eqe_s) (by decide) (te_rd (i := 4) (a := x8) (w := (dW eS)) rfl) (te_rd (i := 2) (a := s3.1) (w := (dW (eT eS))) rfl) dc_d (.inl fun _ => rfl))) (tt_b (te_ca (fun (p : (List (List Str)) × (List Str) × Unit) => p_found_in p.1 p.2.1) (tw_cons (t1_d (te_dg (ek := eS) (ev := (eT (eT eS))) kye_s (te_rd (i := 0) (a := v_known) (w := (cD eS (eT (eT eS)))) rfl) (te_rd (i := 4) (a := x8) (w := (dW eS)) rfl) (fun _ => rfl) dc_d)) (tw_cons (t1_d (te_rd (i := 2) (a := s3.1) (w := (dW (eT eS))) rfl)) tw_nil)) (fun (p : (List (List Str)) × (List Str) × Unit) => t_found_in p.1 p.2.1))))) (fun x8 => (t1_d (te_rd (i := 4) (a := x8) (w := (dW eS)) rfl))) (fun _ => rfl)) (.inr fun _ => rfl)) rfl) fun c7 =>
  (ts_end (G := fun (c9 : (List Str)) => [some (.w ((cD eS (eT (eT eS))) v_known)), some (.w ((dW (eT eS)) v_deeds)), some (.w ((dW (eT eS)) c9)), some (.w ((dW (eT eS)) c7)), none]) (fun (c9 : (List Str)) => (c9, ((List.map (some : Str → (Option Str))) c7))) (ts_as (s0 := (.D (dW (eT eS)))) (te_addT (e := eS) (te_rd (i := 2) (a := s3.1) (w := (dW (eT eS))) rfl) (te_rd (i := 3) (a := c7) (w := (dW (eT eS))) rfl) (fun _ => rfl) (fun _ => rfl)) rfl) (fun c9 => (we (we (we (wq (congrArg (fun d => Sl.w (Wv.d d)) ((cast_T (e := eS) (e' := (eO eS)) (f := (some : Str → (Option Str))) (fun _ => rfl)) c7)) (wa wn)))))))))) fun c2 =>
  (ts_re (.D (dW (eT eS))) (te_rd (i := 2) (a := c2.1) (w := (dW (eT eS))) rfl)))))
def p_heart_of (v_roll : (List (Str × Str × (List (List Str))))) (v_deeds : (List Str)) : PM (List Str) := fnR (τ := Unit) (l := Unit) (
  (((((((pure v_roll) >>= fun a => ((pure v_deeds) >>= fun a => (pure ()) >>= fun p => pure (a, p)) >>= fun p => pure (a, p)) >>= fun (p : (List (Str × Str × (List (List Str)))) × (List Str) × Unit) => p_need_names p.1 p.2.1) >>= fun a => ((pure v_deeds) >>= fun a => (pure ()) >>= fun p => pure (a, p)) >>= fun p => pure (a, p)) >>= fun (p : (List (Str × (List (List Str)))) × (List Str) × Unit) => p_grown p.1 p.2.1) >>= fun a => gd (size a.length) (sr eS a)) >>= fun b => pure (Fl.rt b)))
theorem t_heart_of (v_roll : (List (Str × Str × (List (List Str))))) (v_deeds : (List Str)) : TF r_heart_of [(dW (eT (eP3 eS eS (eT (eT eS))))) v_roll, (dW (eT eS)) v_deeds] (p_heart_of v_roll v_deeds) (.D (dW (eT eS))) := by
  unfold r_heart_of m_heart_of p_heart_of
  exact tf_R (τ := Unit) (l := Unit) (G := (fun _ => [none, none])) (L := fun _ => []) (Γ := [some (.w ((dW (eT (eP3 eS eS (eT (eT eS))))) v_roll)), some (.w ((dW (eT eS)) v_deeds))]) (we (we wn)) (
  (ts_re (.D (dW (eT eS))) (te_tupQ (e := eS) (te_srt (e := eS) (lte_s) (by decide) (.inr fun _ => rfl) (te_ca (fun (p : (List (Str × (List (List Str)))) × (List Str) × Unit) => p_grown p.1 p.2.1) (tw_cons (t1_f (te_ca (fun (p : (List (Str × Str × (List (List Str)))) × (List Str) × Unit) => p_need_names p.1 p.2.1) (tw_cons (t1_d (te_rd (i := 0) (a := v_roll) (w := (dW (eT (eP3 eS eS (eT (eT eS)))))) rfl)) (tw_cons (t1_d (te_rd (i := 1) (a := v_deeds) (w := (dW (eT eS))) rfl)) tw_nil)) (fun (p : (List (Str × Str × (List (List Str)))) × (List Str) × Unit) => t_need_names p.1 p.2.1))) (tw_cons (t1_d (te_rd (i := 1) (a := v_deeds) (w := (dW (eT eS))) rfl)) tw_nil)) (fun (p : (List (Str × (List (List Str)))) × (List Str) × Unit) => t_grown p.1 p.2.1)) (.inl fun _ => rfl)) (.inr fun _ => rfl))))
def p_next_deeds (v_roll : (List (Str × Str × (List (List Str))))) (v_deeds : (List Str)) (v_ahead : (List Str)) : PM (List Str) := fnR (τ := Unit) (l := Unit) (
  (sq ((((pure v_roll) >>= fun a => (((pure v_deeds) >>= fun a => (pure v_ahead) >>= fun b => gd (size (a.length + b.length)) (a ++ b)) >>= fun a => (pure ()) >>= fun p => pure (a, p)) >>= fun p => pure (a, p)) >>= fun (p : (List (Str × Str × (List (List Str)))) × (List Str) × Unit) => p_need_names p.1 p.2.1) >>= fun a => pure (Fl.nx a)) fun (c1 : (List (Str × (List (List Str))))) =>
  (((pure v_deeds) >>= fun xs => cp (fun (x2 : Str) => (bAnd ((pure x2) >>= fun a => (pure v_ahead) >>= fun b => pure (!decide (a ∈ b))) ((((pure c1) >>= fun a => (pure x2) >>= fun b => op (lk a b)) >>= fun a => ((pure v_ahead) >>= fun a => (pure ()) >>= fun p => pure (a, p)) >>= fun p => pure (a, p)) >>= fun (p : (List (List Str)) × (List Str) × Unit) => p_found_in p.1 p.2.1))) (fun (x2 : Str) => (pure x2)) xs) >>= fun b => pure (Fl.rt b))))
theorem t_next_deeds (v_roll : (List (Str × Str × (List (List Str))))) (v_deeds : (List Str)) (v_ahead : (List Str)) : TF r_next_deeds [(dW (eT (eP3 eS eS (eT (eT eS))))) v_roll, (dW (eT eS)) v_deeds, (dW (eT eS)) v_ahead] (p_next_deeds v_roll v_deeds v_ahead) (.D (dW (eT eS))) := by
  unfold r_next_deeds m_next_deeds p_next_deeds
  exact tf_R (τ := Unit) (l := Unit) (G := (fun _ => [none, none, none, none, none])) (L := fun _ => []) (Γ := [some (.w ((dW (eT (eP3 eS eS (eT (eT eS))))) v_roll)), some (.w ((dW (eT eS)) v_deeds)), some (.w ((dW (eT eS)) v_ahead)), none, none]) (we (we (we (wa (wa wn))))) (
  (ts_seq (G := fun (c1 : (List (Str × (List (List Str))))) => [some (.w ((dW (eT (eP3 eS eS (eT (eT eS))))) v_roll)), some (.w ((dW (eT eS)) v_deeds)), some (.w ((dW (eT eS)) v_ahead)), some (.ow ((oD eS (eT (eT eS))) c1)), none]) (ts_as (s0 := (.F (oD eS (eT (eT eS))))) (te_ca (fun (p : (List (Str × Str × (List (List Str)))) × (List Str) × Unit) => p_need_names p.1 p.2.1) (tw_cons (t1_d (te_rd (i := 0) (a := v_roll) (w := (dW (eT (eP3 eS eS (eT (eT eS)))))) rfl)) (tw_cons (t1_d (te_addT (e := eS) (te_rd (i := 1) (a := v_deeds) (w := (dW (eT eS))) rfl) (te_rd (i := 2) (a := v_ahead) (w := (dW (eT eS))) rfl) (fun _ => rfl) (fun _ => rfl))) tw_nil)) (fun (p : (List (Str × Str × (List (List Str)))) × (List Str) × Unit) => t_need_names p.1 p.2.1)) rfl) fun c1 =>
  (ts_re (.D (dW (eT eS))) (te_tupQ (e := eS) (te_lc (e := eS) (e' := eS) (fun (x2 : Str) => [some (.w ((dW (eT (eP3 eS eS (eT (eT eS))))) v_roll)), some (.w ((dW (eT eS)) v_deeds)), some (.w ((dW (eT eS)) v_ahead)), some (.ow ((oD eS (eT (eT eS))) c1)), some (.w ((dW eS) x2))]) rfl (by decide) (fun _ => rfl) (ti_wk (e := eS) (t1_d (te_rd (i := 1) (a := v_deeds) (w := (dW (eT eS))) rfl)) (fun _ => ⟨_, rfl, rfl⟩)) (fun x2 => (tt_and (tt_b (te_nin (e := eS) (eqe_s) (by decide) (te_rd (i := 4) (a := x2) (w := (dW eS)) rfl) (te_rd (i := 2) (a := v_ahead) (w := (dW (eT eS))) rfl) dc_d (.inl fun _ => rfl))) (tt_b (te_ca (fun (p : (List (List Str)) × (List Str) × Unit) => p_found_in p.1 p.2.1) (tw_cons (t1_d (te_dg (ek := eS) (ev := (eT (eT eS))) kye_s (te_ro (i := 3) (a := c1) (o := (oD eS (eT (eT eS)))) rfl) (te_rd (i := 4) (a := x2) (w := (dW eS)) rfl) (fun _ => rfl) dc_d)) (tw_cons (t1_d (te_rd (i := 2) (a := v_ahead) (w := (dW (eT eS))) rfl)) tw_nil)) (fun (p : (List (List Str)) × (List Str) × Unit) => t_found_in p.1 p.2.1))))) (fun x2 => (t1_d (te_rd (i := 4) (a := x2) (w := (dW eS)) rfl))) (fun _ => rfl)) (.inr fun _ => rfl)))))
def p__law_grow (v_reader_here : Nat) (v_roll : (List (Str × Str × (List (List Str))))) (v_some : (List Str)) : PM (List Str) := fnR (τ := Unit) (l := Unit) (
  (sq (((pure ()) >>= fun p => pure ((fun (_ : Unit) => ([] : (List Str))) p)) >>= fun a => pure (Fl.nx a)) fun (c1 : (List Str)) =>
  (sq ((((pure v_some) >>= fun a => pure ((a.length : Nat) : Int)) >>= fun n => gd (decide (-(2 ^ 62) ≤ n ∧ n < 2 ^ 62)) (rgL n)) >>= fun xs => forF (fun (i3 : Int) (s4 : (List Str)) =>
  (sq ((((pure v_roll) >>= fun a => ((pure v_some) >>= fun a => (pure ()) >>= fun p => pure (a, p)) >>= fun p => pure (a, p)) >>= fun (p : (List (Str × Str × (List (List Str)))) × (List Str) × Unit) => ((pure s4) >>= fun a => (pure ()) >>= fun p => pure (a, p)) >>= fun (q : (List Str) × Unit) => p_next_deeds p.1 p.2.1 q.1) >>= fun a => pure (Fl.nx a)) fun (c8 : (List Str)) =>
  (pIf ((pure c8) >>= fun a => ((pure ()) >>= fun p => pure ((fun (_ : Unit) => ([] : (List Str))) p)) >>= fun b => pure (!decide (a = b))) (sq ((((pure s4) >>= fun a => ((((pure c8) >>= fun a => (((pure v_reader_here) >>= fun a => (((pure c8) >>= fun a => pure ((a.length : Nat) : Int)) >>= fun a => (pure ()) >>= fun p => pure (a, p)) >>= fun p => pure (a, p)) >>= fun (p : Nat × Int × Unit) => dr r__law_draw p.1 p.2.1) >>= fun b => op (L2.atI a b)) >>= fun a => (pure ()) >>= fun p => pure (a, p)) >>= fun p => pure ((fun (p : Str × Unit) => [p.1]) p)) >>= fun b => gd (size (a.length + b.length)) (a ++ b)) >>= fun a => gd (size a.length) (sr eS a)) >>= fun a => pure (Fl.nx a)) fun (c9 : (List Str)) => pure (Fl.nx c9)) (pure (Fl.nx s4))))) xs c1) fun (c2 : (List Str)) =>
  ((pure c2) >>= fun b => pure (Fl.rt b)))))
theorem t__law_grow (v_reader_here : Nat) (v_roll : (List (Str × Str × (List (List Str))))) (v_some : (List Str)) : TF r__law_grow [Wv.obj v_reader_here, (dW (eT (eP3 eS eS (eT (eT eS))))) v_roll, (dW (eT eS)) v_some] (p__law_grow v_reader_here v_roll v_some) (.D (dW (eT eS))) := by
  unfold r__law_grow m__law_grow p__law_grow
  exact tf_R (τ := Unit) (l := Unit) (G := (fun _ => [none, none, none, none, none, none])) (L := fun _ => []) (Γ := [some (.w (Wv.obj v_reader_here)), some (.w ((dW (eT (eP3 eS eS (eT (eT eS))))) v_roll)), some (.w ((dW (eT eS)) v_some)), none, none, none]) (we (we (we (wa (wa (wa wn)))))) (
  (ts_seq (G := fun (c1 : (List Str)) => [some (.w (Wv.obj v_reader_here)), some (.w ((dW (eT (eP3 eS eS (eT (eT eS))))) v_roll)), some (.w ((dW (eT eS)) v_some)), some (.w ((dW (eT eS)) c1)), none, none]) (ts_as (s0 := (.D (dW (eT eS)))) (te_tup (e := (eT eS)) (fun (_ : Unit) => ([] : (List Str))) tw_nil (fun _ => ⟨_, rfl, rfl, rfl⟩)) rfl) fun c1 =>
  (ts_seq (G := fun (c2 : (List Str)) => [some (.w (Wv.obj v_reader_here)), some (.w ((dW (eT (eP3 eS eS (eT (eT eS))))) v_roll)), some (.w ((dW (eT eS)) v_some)), some (.w ((dW (eT eS)) c2)), none, none]) (ts_for (e := eI) (G := (fun (s4 : (List Str)) => [some (.w (Wv.obj v_reader_here)), some (.w ((dW (eT (eP3 eS eS (eT (eT eS))))) v_roll)), some (.w ((dW (eT eS)) v_some)), some (.w ((dW (eT eS)) s4)), none, none])) c1 (fun (i3 : Int) (s4 : (List Str)) => [some (.w (Wv.obj v_reader_here)), some (.w ((dW (eT (eP3 eS eS (eT (eT eS))))) v_roll)), some (.w ((dW (eT eS)) v_some)), some (.w ((dW (eT eS)) s4)), some (.w ((dW eI) i3)), none]) (ti_rg (te_len (e := eS) (te_rd (i := 2) (a := v_some) (w := (dW (eT eS))) rfl) (.inl fun _ => rfl))) (we (we (we (we (wa (wa wn)))))) (fun _ _ => rfl) (fun i3 s4 =>
  (ts_seq (G := fun (c8 : (List Str)) => [some (.w (Wv.obj v_reader_here)), some (.w ((dW (eT (eP3 eS eS (eT (eT eS))))) v_roll)), some (.w ((dW (eT eS)) v_some)), some (.w ((dW (eT eS)) s4)), some (.w ((dW eI) i3)), some (.w ((dW (eT eS)) c8))]) (ts_as (s0 := (.D (dW (eT eS)))) (te_ck (fun (p : (List (Str × Str × (List (List Str)))) × (List Str) × Unit) (q : (List Str) × Unit) => p_next_deeds p.1 p.2.1 q.1) (tw_cons (t1_d (te_rd (i := 1) (a := v_roll) (w := (dW (eT (eP3 eS eS (eT (eT eS)))))) rfl)) (tw_cons (t1_d (te_rd (i := 2) (a := v_some) (w := (dW (eT eS))) rfl)) tw_nil)) (tw_cons (t1_d (te_rd (i := 3) (a := s4) (w := (dW (eT eS))) rfl)) tw_nil) (fun (p : (List (Str × Str × (List (List Str)))) × (List Str) × Unit) (q : (List Str) × Unit) => t_next_deeds p.1 p.2.1 q.1)) rfl) fun c8 =>
  (ts_if (tt_b (te_ne (e := (eT eS)) ((eqe_s).tup) (by decide) (te_rd (i := 5) (a := c8) (w := (dW (eT eS))) rfl) (te_tup (e := (eT eS)) (fun (_ : Unit) => ([] : (List Str))) tw_nil (fun _ => ⟨_, rfl, rfl, rfl⟩)) dc_d dc_d)) (ts_end (G := fun (c9 : (List Str)) => [some (.w (Wv.obj v_reader_here)), some (.w ((dW (eT (eP3 eS eS (eT (eT eS))))) v_roll)), some (.w ((dW (eT eS)) v_some)), some (.w ((dW (eT eS)) c9)), some (.w ((dW eI) i3)), some (.w ((dW (eT eS)) c8))]) (fun (c9 : (List Str)) => c9) (ts_as (s0 := (.D (dW (eT eS)))) (te_tupQ (e := eS) (te_srt (e := eS) (lte_s) (by decide) (.inr fun _ => rfl) (te_addT (e := eS) (te_rd (i := 3) (a := s4) (w := (dW (eT eS))) rfl) (te_tup (e := (eT eS)) (fun (p : Str × Unit) => [p.1]) (tw_cons (t1_d (te_ix (e := eS) (te_rd (i := 5) (a := c8) (w := (dW (eT eS))) rfl) (te_ca (fun (p : Nat × Int × Unit) => dr r__law_draw p.1 p.2.1) (tw_cons (t1_d (te_rd (i := 0) (a := v_reader_here) (w := Wv.obj) rfl)) (tw_cons (t1_d (te_len (e := eS) (te_rd (i := 5) (a := c8) (w := (dW (eT eS))) rfl) (.inl fun _ => rfl))) tw_nil)) (fun (p : Nat × Int × Unit) => tf_dr _ _ _)) (.inl fun _ => rfl))) tw_nil) (fun _ => ⟨_, rfl, rfl, rfl⟩)) (fun _ => rfl) (fun _ => rfl)) (.inl fun _ => rfl)) (.inr fun _ => rfl)) rfl) (fun c9 => (we (we (we (we (wa (wa wn)))))))) (ts_nw (a := s4) (we (we (we (we (wa (wa wn))))))))))) fun c2 =>
  (ts_re (.D (dW (eT eS))) (te_rd (i := 3) (a := c2) (w := (dW (eT eS))) rfl)))))
def p_is_meaning (v_roll : (List (Str × Str × (List (List Str))))) (v_deeds : (List Str)) : PM Bool := fnR (τ := Unit) (l := Unit) (
  ((((((pure v_roll) >>= fun a => ((pure v_deeds) >>= fun a => (pure ()) >>= fun p => pure (a, p)) >>= fun p => pure (a, p)) >>= fun (p : (List (Str × Str × (List (List Str)))) × (List Str) × Unit) => p_heart_of p.1 p.2.1) >>= fun a => pure ((a.length : Nat) : Int)) >>= fun a => ((pure v_deeds) >>= fun a => pure ((a.length : Nat) : Int)) >>= fun b => pure (decide (a = b))) >>= fun b => pure (Fl.rt b)))
theorem t_is_meaning (v_roll : (List (Str × Str × (List (List Str))))) (v_deeds : (List Str)) : TF r_is_meaning [(dW (eT (eP3 eS eS (eT (eT eS))))) v_roll, (dW (eT eS)) v_deeds] (p_is_meaning v_roll v_deeds) (.D (dW eB)) := by
  unfold r_is_meaning m_is_meaning p_is_meaning
  exact tf_R (τ := Unit) (l := Unit) (G := (fun _ => [none, none])) (L := fun _ => []) (Γ := [some (.w ((dW (eT (eP3 eS eS (eT (eT eS))))) v_roll)), some (.w ((dW (eT eS)) v_deeds))]) (we (we wn)) (
  (ts_re (.D (dW eB)) (te_eq (e := eI) (eqe_i) (by decide) (te_len (e := eS) (te_ca (fun (p : (List (Str × Str × (List (List Str)))) × (List Str) × Unit) => p_heart_of p.1 p.2.1) (tw_cons (t1_d (te_rd (i := 0) (a := v_roll) (w := (dW (eT (eP3 eS eS (eT (eT eS)))))) rfl)) (tw_cons (t1_d (te_rd (i := 1) (a := v_deeds) (w := (dW (eT eS))) rfl)) tw_nil)) (fun (p : (List (Str × Str × (List (List Str)))) × (List Str) × Unit) => t_heart_of p.1 p.2.1)) (.inl fun _ => rfl)) (te_len (e := eS) (te_rd (i := 1) (a := v_deeds) (w := (dW (eT eS))) rfl) (.inl fun _ => rfl)) dc_d dc_d)))
def p_finds_needs (v_roll : (List (Str × Str × (List (List Str))))) (v_deeds : (List Str)) (v_deed : Str) : PM Bool := fnR (τ := Unit) (l := Unit) (
  (sq ((((pure v_roll) >>= fun a => (((pure v_deeds) >>= fun a => (((pure v_deed) >>= fun a => (pure ()) >>= fun p => pure (a, p)) >>= fun p => pure ((fun (p : Str × Unit) => [p.1]) p)) >>= fun b => gd (size (a.length + b.length)) (a ++ b)) >>= fun a => (pure ()) >>= fun p => pure (a, p)) >>= fun p => pure (a, p)) >>= fun (p : (List (Str × Str × (List (List Str)))) × (List Str) × Unit) => p_need_names p.1 p.2.1) >>= fun a => pure (Fl.nx a)) fun (c1 : (List (Str × (List (List Str))))) =>
  (((((pure c1) >>= fun a => (pure v_deed) >>= fun b => op (lk a b)) >>= fun a => ((pure v_deeds) >>= fun a => (pure ()) >>= fun p => pure (a, p)) >>= fun p => pure (a, p)) >>= fun (p : (List (List Str)) × (List Str) × Unit) => p_found_in p.1 p.2.1) >>= fun b => pure (Fl.rt b))))
theorem t_finds_needs (v_roll : (List (Str × Str × (List (List Str))))) (v_deeds : (List Str)) (v_deed : Str) : TF r_finds_needs [(dW (eT (eP3 eS eS (eT (eT eS))))) v_roll, (dW (eT eS)) v_deeds, (dW eS) v_deed] (p_finds_needs v_roll v_deeds v_deed) (.D (dW eB)) := by
  unfold r_finds_needs m_finds_needs p_finds_needs
  exact tf_R (τ := Unit) (l := Unit) (G := (fun _ => [none, none, none, none])) (L := fun _ => []) (Γ := [some (.w ((dW (eT (eP3 eS eS (eT (eT eS))))) v_roll)), some (.w ((dW (eT eS)) v_deeds)), some (.w ((dW eS) v_deed)), none]) (we (we (we (wa wn)))) (
  (ts_seq (G := fun (c1 : (List (Str × (List (List Str))))) => [some (.w ((dW (eT (eP3 eS eS (eT (eT eS))))) v_roll)), some (.w ((dW (eT eS)) v_deeds)), some (.w ((dW eS) v_deed)), some (.ow ((oD eS (eT (eT eS))) c1))]) (ts_as (s0 := (.F (oD eS (eT (eT eS))))) (te_ca (fun (p : (List (Str × Str × (List (List Str)))) × (List Str) × Unit) => p_need_names p.1 p.2.1) (tw_cons (t1_d (te_rd (i := 0) (a := v_roll) (w := (dW (eT (eP3 eS eS (eT (eT eS)))))) rfl)) (tw_cons (t1_d (te_addT (e := eS) (te_rd (i := 1) (a := v_deeds) (w := (dW (eT eS))) rfl) (te_tup (e := (eT eS)) (fun (p : Str × Unit) => [p.1]) (tw_cons (t1_d (te_rd (i := 2) (a := v_deed) (w := (dW eS)) rfl)) tw_nil) (fun _ => ⟨_, rfl, rfl, rfl⟩)) (fun _ => rfl) (fun _ => rfl))) tw_nil)) (fun (p : (List (Str × Str × (List (List Str)))) × (List Str) × Unit) => t_need_names p.1 p.2.1)) rfl) fun c1 =>
  (ts_re (.D (dW eB)) (te_ca (fun (p : (List (List Str)) × (List Str) × Unit) => p_found_in p.1 p.2.1) (tw_cons (t1_d (te_dg (ek := eS) (ev := (eT (eT eS))) kye_s (te_ro (i := 3) (a := c1) (o := (oD eS (eT (eT eS)))) rfl) (te_rd (i := 2) (a := v_deed) (w := (dW eS)) rfl) (fun _ => rfl) dc_d)) (tw_cons (t1_d (te_rd (i := 1) (a := v_deeds) (w := (dW (eT eS))) rfl)) tw_nil)) (fun (p : (List (List Str)) × (List Str) × Unit) => t_found_in p.1 p.2.1)))))
def p__law_check_heart (v_reader_here : Nat) (v_roll : (List (Str × Str × (List (List Str))))) (v_some : (List Str)) : PM Bool := fnR (τ := Unit) (l := Unit) (
  (sq ((((pure v_roll) >>= fun a => ((pure v_some) >>= fun a => (pure ()) >>= fun p => pure (a, p)) >>= fun p => pure (a, p)) >>= fun (p : (List (Str × Str × (List (List Str)))) × (List Str) × Unit) => p_heart_of p.1 p.2.1) >>= fun a => pure (Fl.nx a)) fun (c1 : (List Str)) =>
  (sq (pIf (bOr ((((pure v_reader_here) >>= fun a => ((pure v_roll) >>= fun a => ((pure v_some) >>= fun a => (pure ()) >>= fun p => pure (a, p)) >>= fun p => pure (a, p)) >>= fun p => pure (a, p)) >>= fun (p : Nat × (List (Str × Str × (List (List Str)))) × (List Str) × Unit) => p__law_grow p.1 p.2.1 p.2.2.1) >>= fun a => (pure c1) >>= fun b => pure (!decide (a = b))) (bOr ((((pure v_roll) >>= fun a => ((pure c1) >>= fun a => (pure ()) >>= fun p => pure (a, p)) >>= fun p => pure (a, p)) >>= fun (p : (List (Str × Str × (List (List Str)))) × (List Str) × Unit) => p_is_meaning p.1 p.2.1) >>= fun a => (pure true) >>= fun b => pure (!decide (a = b))) ((((pure v_roll) >>= fun a => ((pure c1) >>= fun a => (pure ()) >>= fun p => pure (a, p)) >>= fun p => pure (a, p)) >>= fun (p : (List (Str × Str × (List (List Str)))) × (List Str) × Unit) => p_heart_of p.1 p.2.1) >>= fun a => (pure c1) >>= fun b => pure (!decide (a = b))))) ((pure false) >>= fun b => pure (Fl.rt b)) (pure (Fl.nx ()))) fun (c2 : Unit) =>
  (sq (pIf (((pure c1) >>= fun xs => cp (fun (x4 : Str) => (bOr ((pure x4) >>= fun a => (pure v_some) >>= fun b => pure (!decide (a ∈ b))) (bNot (((pure v_roll) >>= fun a => ((pure c1) >>= fun a => ((pure x4) >>= fun a => (pure ()) >>= fun p => pure (a, p)) >>= fun p => pure (a, p)) >>= fun p => pure (a, p)) >>= fun (p : (List (Str × Str × (List (List Str)))) × (List Str) × Str × Unit) => p_finds_needs p.1 p.2.1 p.2.2.1)))) (fun (x4 : Str) => (pure x4)) xs) >>= fun a => ((pure ()) >>= fun p => pure ((fun (_ : Unit) => ([] : (List Str))) p)) >>= fun b => pure (!decide (a = b))) ((pure false) >>= fun b => pure (Fl.rt b)) (pure (Fl.nx ()))) fun (c3 : Unit) =>
  ((bAnd ((((pure v_roll) >>= fun a => ((pure v_some) >>= fun a => (pure ()) >>= fun p => pure (a, p)) >>= fun p => pure (a, p)) >>= fun (p : (List (Str × Str × (List (List Str)))) × (List Str) × Unit) => p_is_meaning p.1 p.2.1) >>= fun a => ((pure c1) >>= fun a => (pure v_some) >>= fun b => pure (decide (a = b))) >>= fun b => pure (decide (a = b))) ((((pure v_roll) >>= fun a => ((pure v_some) >>= fun a => (pure ()) >>= fun p => pure (a, p)) >>= fun p => pure (a, p)) >>= fun (p : (List (Str × Str × (List (List Str)))) × (List Str) × Unit) => ((pure c1) >>= fun a => (pure ()) >>= fun p => pure (a, p)) >>= fun (q : (List Str) × Unit) => p_next_deeds p.1 p.2.1 q.1) >>= fun a => ((pure ()) >>= fun p => pure ((fun (_ : Unit) => ([] : (List Str))) p)) >>= fun b => pure (decide (a = b)))) >>= fun b => pure (Fl.rt b))))))
theorem t__law_check_heart (v_reader_here : Nat) (v_roll : (List (Str × Str × (List (List Str))))) (v_some : (List Str)) : TF r__law_check_heart [Wv.obj v_reader_here, (dW (eT (eP3 eS eS (eT (eT eS))))) v_roll, (dW (eT eS)) v_some] (p__law_check_heart v_reader_here v_roll v_some) (.D (dW eB)) := by
  unfold r__law_check_heart m__law_check_heart p__law_check_heart
  exact tf_R (τ := Unit) (l := Unit) (G := (fun _ => [none, none, none, none, none])) (L := fun _ => []) (Γ := [some (.w (Wv.obj v_reader_here)), some (.w ((dW (eT (eP3 eS eS (eT (eT eS))))) v_roll)), some (.w ((dW (eT eS)) v_some)), none, none]) (we (we (we (wa (wa wn))))) (
  (ts_seq (G := fun (c1 : (List Str)) => [some (.w (Wv.obj v_reader_here)), some (.w ((dW (eT (eP3 eS eS (eT (eT eS))))) v_roll)), some (.w ((dW (eT eS)) v_some)), some (.w ((dW (eT eS)) c1)), none]) (ts_as (s0 := (.D (dW (eT eS)))) (te_ca (fun (p : (List (Str × Str × (List (List Str)))) × (List Str) × Unit) => p_heart_of p.1 p.2.1) (tw_cons (t1_d (te_rd (i := 1) (a := v_roll) (w := (dW (eT (eP3 eS eS (eT (eT eS)))))) rfl)) (tw_cons (t1_d (te_rd (i := 2) (a := v_some) (w := (dW (eT eS))) rfl)) tw_nil)) (fun (p : (List (Str × Str × (List (List Str)))) × (List Str) × Unit) => t_heart_of p.1 p.2.1)) rfl) fun c1 =>
  (ts_seq (G := fun (c2 : Unit) => [some (.w (Wv.obj v_reader_here)), some (.w ((dW (eT (eP3 eS eS (eT (eT eS))))) v_roll)), some (.w ((dW (eT eS)) v_some)), some (.w ((dW (eT eS)) c1)), none]) (ts_if (G := (fun (c2 : Unit) => [some (.w (Wv.obj v_reader_here)), some (.w ((dW (eT (eP3 eS eS (eT (eT eS))))) v_roll)), some (.w ((dW (eT eS)) v_some)), some (.w ((dW (eT eS)) c1)), none])) (tt_or (tt_b (te_ne (e := (eT eS)) ((eqe_s).tup) (by decide) (te_ca (fun (p : Nat × (List (Str × Str × (List (List Str)))) × (List Str) × Unit) => p__law_grow p.1 p.2.1 p.2.2.1) (tw_cons (t1_d (te_rd (i := 0) (a := v_reader_here) (w := Wv.obj) rfl)) (tw_cons (t1_d (te_rd (i := 1) (a := v_roll) (w := (dW (eT (eP3 eS eS (eT (eT eS)))))) rfl)) (tw_cons (t1_d (te_rd (i := 2) (a := v_some) (w := (dW (eT eS))) rfl)) tw_nil))) (fun (p : Nat × (List (Str × Str × (List (List Str)))) × (List Str) × Unit) => t__law_grow p.1 p.2.1 p.2.2.1)) (te_rd (i := 3) (a := c1) (w := (dW (eT eS))) rfl) dc_d dc_d)) (tt_or (tt_b (te_nisB (te_ca (fun (p : (List (Str × Str × (List (List Str)))) × (List Str) × Unit) => p_is_meaning p.1 p.2.1) (tw_cons (t1_d (te_rd (i := 1) (a := v_roll) (w := (dW (eT (eP3 eS eS (eT (eT eS)))))) rfl)) (tw_cons (t1_d (te_rd (i := 3) (a := c1) (w := (dW (eT eS))) rfl)) tw_nil)) (fun (p : (List (Str × Str × (List (List Str)))) × (List Str) × Unit) => t_is_meaning p.1 p.2.1)) (te_kd (a := true) (e := eB)))) (tt_b (te_ne (e := (eT eS)) ((eqe_s).tup) (by decide) (te_ca (fun (p : (List (Str × Str × (List (List Str)))) × (List Str) × Unit) => p_heart_of p.1 p.2.1) (tw_cons (t1_d (te_rd (i := 1) (a := v_roll) (w := (dW (eT (eP3 eS eS (eT (eT eS)))))) rfl)) (tw_cons (t1_d (te_rd (i := 3) (a := c1) (w := (dW (eT eS))) rfl)) tw_nil)) (fun (p : (List (Str × Str × (List (List Str)))) × (List Str) × Unit) => t_heart_of p.1 p.2.1)) (te_rd (i := 3) (a := c1) (w := (dW (eT eS))) rfl) dc_d dc_d)))) (ts_re (.D (dW eB)) (te_kd (a := false) (e := eB))) (ts_nw (a := ()) (we (we (we (we (wa wn))))))) fun c2 =>
  (ts_seq (G := fun (c3 : Unit) => [some (.w (Wv.obj v_reader_here)), some (.w ((dW (eT (eP3 eS eS (eT (eT eS))))) v_roll)), some (.w ((dW (eT eS)) v_some)), some (.w ((dW (eT eS)) c1)), none]) (ts_if (G := (fun (c3 : Unit) => [some (.w (Wv.obj v_reader_here)), some (.w ((dW (eT (eP3 eS eS (eT (eT eS))))) v_roll)), some (.w ((dW (eT eS)) v_some)), some (.w ((dW (eT eS)) c1)), none])) (tt_b (te_ne (e := (eL eS)) ((eqe_s).lst) (by decide) (te_lc (e := eS) (e' := eS) (fun (x4 : Str) => [some (.w (Wv.obj v_reader_here)), some (.w ((dW (eT (eP3 eS eS (eT (eT eS))))) v_roll)), some (.w ((dW (eT eS)) v_some)), some (.w ((dW (eT eS)) c1)), some (.w ((dW eS) x4))]) rfl (by decide) (fun _ => rfl) (ti_wk (e := eS) (t1_d (te_rd (i := 3) (a := c1) (w := (dW (eT eS))) rfl)) (fun _ => ⟨_, rfl, rfl⟩)) (fun x4 => (tt_or (tt_b (te_nin (e := eS) (eqe_s) (by decide) (te_rd (i := 4) (a := x4) (w := (dW eS)) rfl) (te_rd (i := 2) (a := v_some) (w := (dW (eT eS))) rfl) dc_d (.inl fun _ => rfl))) (tt_not (tt_b (te_ca (fun (p : (List (Str × Str × (List (List Str)))) × (List Str) × Str × Unit) => p_finds_needs p.1 p.2.1 p.2.2.1) (tw_cons (t1_d (te_rd (i := 1) (a := v_roll) (w := (dW (eT (eP3 eS eS (eT (eT eS)))))) rfl)) (tw_cons (t1_d (te_rd (i := 3) (a := c1) (w := (dW (eT eS))) rfl)) (tw_cons (t1_d (te_rd (i := 4) (a := x4) (w := (dW eS)) rfl)) tw_nil))) (fun (p : (List (Str × Str × (List (List Str)))) × (List Str) × Str × Unit) => t_finds_needs p.1 p.2.1 p.2.2.1)))))) (fun x4 => (t1_d (te_rd (i := 4) (a := x4) (w := (dW eS)) rfl))) (fun _ => rfl)) (te_lst (e := eS) (fun (_ : Unit) => ([] : (List Str))) tw_nil (fun _ => ⟨rfl, rfl⟩)) dc_f dc_f)) (ts_re (.D (dW eB)) (te_kd (a := false) (e := eB))) (ts_nw (a := ()) (we (we (we (we (wa wn))))))) fun c3 =>
  (ts_re (.D (dW eB)) (te_andB (te_eq (e := eB) (eqe_b) (by decide) (te_ca (fun (p : (List (Str × Str × (List (List Str)))) × (List Str) × Unit) => p_is_meaning p.1 p.2.1) (tw_cons (t1_d (te_rd (i := 1) (a := v_roll) (w := (dW (eT (eP3 eS eS (eT (eT eS)))))) rfl)) (tw_cons (t1_d (te_rd (i := 2) (a := v_some) (w := (dW (eT eS))) rfl)) tw_nil)) (fun (p : (List (Str × Str × (List (List Str)))) × (List Str) × Unit) => t_is_meaning p.1 p.2.1)) (te_eq (e := (eT eS)) ((eqe_s).tup) (by decide) (te_rd (i := 3) (a := c1) (w := (dW (eT eS))) rfl) (te_rd (i := 2) (a := v_some) (w := (dW (eT eS))) rfl) dc_d dc_d) dc_d dc_d) (te_eq (e := (eT eS)) ((eqe_s).tup) (by decide) (te_ck (fun (p : (List (Str × Str × (List (List Str)))) × (List Str) × Unit) (q : (List Str) × Unit) => p_next_deeds p.1 p.2.1 q.1) (tw_cons (t1_d (te_rd (i := 1) (a := v_roll) (w := (dW (eT (eP3 eS eS (eT (eT eS)))))) rfl)) (tw_cons (t1_d (te_rd (i := 2) (a := v_some) (w := (dW (eT eS))) rfl)) tw_nil)) (tw_cons (t1_d (te_rd (i := 3) (a := c1) (w := (dW (eT eS))) rfl)) tw_nil) (fun (p : (List (Str × Str × (List (List Str)))) × (List Str) × Unit) (q : (List Str) × Unit) => t_next_deeds p.1 p.2.1 q.1)) (te_tup (e := (eT eS)) (fun (_ : Unit) => ([] : (List Str))) tw_nil (fun _ => ⟨_, rfl, rfl, rfl⟩)) dc_d dc_d)))))))
def p__law_check_pair (v_roll : (List (Str × Str × (List (List Str))))) (v_one : (List Str)) (v_other : (List Str)) : PM Bool := fnR (τ := Unit) (l := Unit) (
  (sq ((((pure v_one) >>= fun a => (pure v_other) >>= fun b => gd (size (a.length + b.length)) (a ++ b)) >>= fun a => gd (decide (a.length ≤ 4000)) (sr eS (dd a))) >>= fun a => pure (Fl.nx a)) fun (c1 : (List Str)) =>
  (sq (((pure v_one) >>= fun xs => cp (fun (x3 : Str) => ((pure x3) >>= fun a => (pure v_other) >>= fun b => pure (decide (a ∈ b)))) (fun (x3 : Str) => (pure x3)) xs) >>= fun a => pure (Fl.nx a)) fun (c2 : (List Str)) =>
  (sq ((((((pure v_roll) >>= fun a => ((pure v_one) >>= fun a => (pure ()) >>= fun p => pure (a, p)) >>= fun p => pure (a, p)) >>= fun (p : (List (Str × Str × (List (List Str)))) × (List Str) × Unit) => p_heart_of p.1 p.2.1) >>= fun a => ((((pure v_roll) >>= fun a => ((pure v_other) >>= fun a => (pure ()) >>= fun p => pure (a, p)) >>= fun p => pure (a, p)) >>= fun (p : (List (Str × Str × (List (List Str)))) × (List Str) × Unit) => p_heart_of p.1 p.2.1) >>= fun a => (pure ()) >>= fun p => pure (a, p)) >>= fun p => pure (a, p)) >>= fun p => pure ((fun (p : (List Str) × (List Str) × Unit) => [p.1, p.2.1]) p)) >>= fun a => pure (Fl.nx a)) fun (c4 : (List (List Str))) =>
  (sq ((((pure v_roll) >>= fun a => ((pure c1) >>= fun a => (pure ()) >>= fun p => pure (a, p)) >>= fun p => pure (a, p)) >>= fun (p : (List (Str × Str × (List (List Str)))) × (List Str) × Unit) => p_heart_of p.1 p.2.1) >>= fun a => pure (Fl.nx a)) fun (c5 : (List Str)) =>
  (sq (pIf (((((pure c4) >>= fun a => (pure (0 : Int)) >>= fun b => op (L2.atI a b)) >>= fun a => ((pure c4) >>= fun a => (pure (1 : Int)) >>= fun b => op (L2.atI a b)) >>= fun b => gd (size (a.length + b.length)) (a ++ b)) >>= fun xs => cp (fun (x7 : Str) => ((pure x7) >>= fun a => (pure c5) >>= fun b => pure (!decide (a ∈ b)))) (fun (x7 : Str) => (pure x7)) xs) >>= fun a => ((pure ()) >>= fun p => pure ((fun (_ : Unit) => ([] : (List Str))) p)) >>= fun b => pure (!decide (a = b))) ((pure false) >>= fun b => pure (Fl.rt b)) (pure (Fl.nx ()))) fun (c6 : Unit) =>
  (sq (pIf ((((pure v_roll) >>= fun a => (((((pure c4) >>= fun a => (pure (0 : Int)) >>= fun b => op (L2.atI a b)) >>= fun a => ((pure c4) >>= fun a => (pure (1 : Int)) >>= fun b => op (L2.atI a b)) >>= fun b => gd (size (a.length + b.length)) (a ++ b)) >>= fun a => gd (decide (a.length ≤ 4000)) (sr eS (dd a))) >>= fun a => (pure ()) >>= fun p => pure (a, p)) >>= fun p => pure (a, p)) >>= fun (p : (List (Str × Str × (List (List Str)))) × (List Str) × Unit) => p_is_meaning p.1 p.2.1) >>= fun a => (pure true) >>= fun b => pure (!decide (a = b))) ((pure false) >>= fun b => pure (Fl.rt b)) (pure (Fl.nx ()))) fun (c8 : Unit) =>
  (((((pure v_roll) >>= fun a => ((((pure c4) >>= fun a => (pure (0 : Int)) >>= fun b => op (L2.atI a b)) >>= fun xs => cp (fun (x9 : Str) => ((pure x9) >>= fun a => ((pure c4) >>= fun a => (pure (1 : Int)) >>= fun b => op (L2.atI a b)) >>= fun b => pure (decide (a ∈ b)))) (fun (x9 : Str) => (pure x9)) xs) >>= fun a => (pure ()) >>= fun p => pure (a, p)) >>= fun p => pure (a, p)) >>= fun (p : (List (Str × Str × (List (List Str)))) × (List Str) × Unit) => p_heart_of p.1 p.2.1) >>= fun a => (((pure v_roll) >>= fun a => ((pure c2) >>= fun a => (pure ()) >>= fun p => pure (a, p)) >>= fun p => pure (a, p)) >>= fun (p : (List (Str × Str × (List (List Str)))) × (List Str) × Unit) => p_heart_of p.1 p.2.1) >>= fun b => pure (decide (a = b))) >>= fun b => pure (Fl.rt b)))))))))
theorem t__law_check_pair (v_roll : (List (Str × Str × (List (List Str))))) (v_one : (List Str)) (v_other : (List Str)) : TF r__law_check_pair [(dW (eT (eP3 eS eS (eT (eT eS))))) v_roll, (dW (eT eS)) v_one, (dW (eT eS)) v_other] (p__law_check_pair v_roll v_one v_other) (.D (dW eB)) := by
  unfold r__law_check_pair m__law_check_pair p__law_check_pair
  exact tf_R (τ := Unit) (l := Unit) (G := (fun _ => [none, none, none, none, none, none, none, none])) (L := fun _ => []) (Γ := [some (.w ((dW (eT (eP3 eS eS (eT (eT eS))))) v_roll)), some (.w ((dW (eT eS)) v_one)), some (.w ((dW (eT eS)) v_other)), none, none, none, none, none]) (we (we (we (wa (wa (wa (wa (wa wn)))))))) (
  (ts_seq (G := fun (c1 : (List Str)) => [some (.w ((dW (eT (eP3 eS eS (eT (eT eS))))) v_roll)), some (.w ((dW (eT eS)) v_one)), some (.w ((dW (eT eS)) v_other)), some (.w ((dW (eT eS)) c1)), none, none, none, none]) (ts_as (s0 := (.D (dW (eT eS)))) (te_tupQ (e := eS) (te_srtSetS (te_addT (e := eS) (te_rd (i := 1) (a := v_one) (w := (dW (eT eS))) rfl) (te_rd (i := 2) (a := v_other) (w := (dW (eT eS))) rfl) (fun _ => rfl) (fun _ => rfl)) (.inl fun _ => rfl)) (.inr fun _ => rfl)) rfl) fun c1 =>
  (ts_seq (G := fun (c2 : (List Str)) => [some (.w ((dW (eT (eP3 eS eS (eT (eT eS))))) v_roll)), some (.w ((dW (eT eS)) v_one)), some (.w ((dW (eT eS)) v_other)), some (.w ((dW (eT eS)) c1)), some (.w ((dW (eT eS)) c2)), none, none, none]) (ts_as (s0 := (.D (dW (eT eS)))) (te_tupQ (e := eS) (te_lc (e := eS) (e' := eS) (fun (x3 : Str) => [some (.w ((dW (eT (eP3 eS eS (eT (eT eS))))) v_roll)), some (.w ((dW (eT eS)) v_one)), some (.w ((dW (eT eS)) v_other)), some (.w ((dW (eT eS)) c1)), none, none, none, some (.w ((dW eS) x3))]) rfl (by decide) (fun _ => rfl) (ti_wk (e := eS) (t1_d (te_rd (i := 1) (a := v_one) (w := (dW (eT eS))) rfl)) (fun _ => ⟨_, rfl, rfl⟩)) (fun x3 => (tt_b (te_in (e := eS) (eqe_s) (by decide) (te_rd (i := 7) (a := x3) (w := (dW eS)) rfl) (te_rd (i := 2) (a := v_other) (w := (dW (eT eS))) rfl) dc_d (.inl fun _ => rfl)))) (fun x3 => (t1_d (te_rd (i := 7) (a := x3) (w := (dW eS)) rfl))) (fun _ => rfl)) (.inr fun _ => rfl)) rfl) fun c2 =>
  (ts_seq (G := fun (c4 : (List (List Str))) => [some (.w ((dW (eT (eP3 eS eS (eT (eT eS))))) v_roll)), some (.w ((dW (eT eS)) v_one)), some (.w ((dW (eT eS)) v_other)), some (.w ((dW (eT eS)) c1)), some (.w ((dW (eT eS)) c2)), some (.ow ((oL (eT eS)) c4)), none, none]) (ts_as (s0 := (.F (oL (eT eS)))) (te_lst (e := (eT eS)) (fun (p : (List Str) × (List Str) × Unit) => [p.1, p.2.1]) (tw_cons (t1_d (te_ca (fun (p : (List (Str × Str × (List (List Str)))) × (List Str) × Unit) => p_heart_of p.1 p.2.1) (tw_cons (t1_d (te_rd (i := 0) (a := v_roll) (w := (dW (eT (eP3 eS eS (eT (eT eS)))))) rfl)) (tw_cons (t1_d (te_rd (i := 1) (a := v_one) (w := (dW (eT eS))) rfl)) tw_nil)) (fun (p : (List (Str × Str × (List (List Str)))) × (List Str) × Unit) => t_heart_of p.1 p.2.1))) (tw_cons (t1_d (te_ca (fun (p : (List (Str × Str × (List (List Str)))) × (List Str) × Unit) => p_heart_of p.1 p.2.1) (tw_cons (t1_d (te_rd (i := 0) (a := v_roll) (w := (dW (eT (eP3 eS eS (eT (eT eS)))))) rfl)) (tw_cons (t1_d (te_rd (i := 2) (a := v_other) (w := (dW (eT eS))) rfl)) tw_nil)) (fun (p : (List (Str × Str × (List (List Str)))) × (List Str) × Unit) => t_heart_of p.1 p.2.1))) tw_nil)) (fun _ => ⟨rfl, rfl⟩)) rfl) fun c4 =>
  (ts_seq (G := fun (c5 : (List Str)) => [some (.w ((dW (eT (eP3 eS eS (eT (eT eS))))) v_roll)), some (.w ((dW (eT eS)) v_one)), some (.w ((dW (eT eS)) v_other)), some (.w ((dW (eT eS)) c1)), some (.w ((dW (eT eS)) c2)), some (.ow ((oL (eT eS)) c4)), some (.w ((dW (eT eS)) c5)), none]) (ts_as (s0 := (.D (dW (eT eS)))) (te_ca (fun (p : (List (Str × Str × (List (List Str)))) × (List Str) × Unit) => p_heart_of p.1 p.2.1) (tw_cons (t1_d (te_rd (i := 0) (a := v_roll) (w := (dW (eT (eP3 eS eS (eT (eT eS)))))) rfl)) (tw_cons (t1_d (te_rd (i := 3) (a := c1) (w := (dW (eT eS))) rfl)) tw_nil)) (fun (p : (List (Str × Str × (List (List Str)))) × (List Str) × Unit) => t_heart_of p.1 p.2.1)) rfl) fun c5 =>
  (ts_seq (G := fun (c6 : Unit) => [some (.w ((dW (eT (eP3 eS eS (eT (eT eS))))) v_roll)), some (.w ((dW (eT eS)) v_one)), some (.w ((dW (eT eS)) v_other)), some (.w ((dW (eT eS)) c1)), some (.w ((dW (eT eS)) c2)), some (.ow ((oL (eT eS)) c4)), some (.w ((dW (eT eS)) c5)), none]) (ts_if (G := (fun (c6 : Unit) => [some (.w ((dW (eT (eP3 eS eS (eT (eT eS))))) v_roll)), some (.w ((dW (eT eS)) v_one)), some (.w ((dW (eT eS)) v_other)), some (.w ((dW (eT eS)) c1)), some (.w ((dW (eT eS)) c2)), some (.ow ((oL (eT eS)) c4)), some (.w ((dW (eT eS)) c5)), none])) (tt_b (te_ne (e := (eL eS)) ((eqe_s).lst) (by decide) (te_lc (e := eS) (e' := eS) (fun (x7 : Str) => [some (.w ((dW (eT (eP3 eS eS (eT (eT eS))))) v_roll)), some (.w ((dW (eT eS)) v_one)), some (.w ((dW (eT eS)) v_other)), some (.w ((dW (eT eS)) c1)), some (.w ((dW (eT eS)) c2)), some (.ow ((oL (eT eS)) c4)), some (.w ((dW (eT eS)) c5)), some (.w ((dW eS) x7))]) rfl (by decide) (fun _ => rfl) (ti_wk (e := eS) (t1_d (te_addT (e := eS) (te_ix (e := (eT eS)) (te_ro (i := 5) (a := c4) (o := (oL (eT eS))) rfl) (te_kd (a := (0 : Int)) (e := eI)) (.inr fun _ => rfl)) (te_ix (e := (eT eS)) (te_ro (i := 5) (a := c4) (o := (oL (eT eS))) rfl) (te_kd (a := (1 : Int)) (e := eI)) (.inr fun _ => rfl)) (fun _ => rfl) (fun _ => rfl))) (fun _ => ⟨_, rfl, rfl⟩)) (fun x7 => (tt_b (te_nin (e := eS) (eqe_s) (by decide) (te_rd (i := 7) (a := x7) (w := (dW eS)) rfl) (te_rd (i := 6) (a := c5) (w := (dW (eT eS))) rfl) dc_d (.inl fun _ => rfl)))) (fun x7 => (t1_d (te_rd (i := 7) (a := x7) (w := (dW eS)) rfl))) (fun _ => rfl)) (te_lst (e := eS) (fun (_ : Unit) => ([] : (List Str))) tw_nil (fun _ => ⟨rfl, rfl⟩)) dc_f dc_f)) (ts_re (.D (dW eB)) (te_kd (a := false) (e := eB))) (ts_nw (a := ()) (we (we (we (we (we (we (we (wa wn)))))))))) fun c6 =>
  (ts_seq (G := fun (c8 : Unit) => [some (.w ((dW (eT (eP3 eS eS (eT (eT eS))))) v_roll)), some (.w ((dW (eT eS)) v_one)), some (.w ((dW (eT eS)) v_other)), some (.w ((dW (eT eS)) c1)), some (.w ((dW (eT eS)) c2)), some (.ow ((oL (eT eS)) c4)), some (.w ((dW (eT eS)) c5)), none]) (ts_if (G := (fun (c8 : Unit) => [some (.w ((dW (eT (eP3 eS eS (eT (eT eS))))) v_roll)), some (.w ((dW (eT eS)) v_one)), some (.w ((dW (eT eS)) v_other)), some (.w ((dW (eT eS)) c1)), some (.w ((dW (eT eS)) c2)), some (.ow ((oL (eT eS)) c4)), some (.w ((dW (eT eS)) c5)), none])) (tt_b (te_nisB (te_ca (fun (p : (List (Str × Str × (List (List Str)))) × (List Str) × Unit) => p_is_meaning p.1 p.2.1) (tw_cons (t1_d (te_rd (i := 0) (a := v_roll) (w := (dW (eT (eP3 eS eS (eT (eT eS)))))) rfl)) (tw_cons (t1_d (te_tupQ (e := eS) (te_srtSetS (te_addT (e := eS) (te_ix (e := (eT eS)) (te_ro (i := 5) (a := c4) (o := (oL (eT eS))) rfl) (te_kd (a := (0 : Int)) (e := eI)) (.inr fun _ => rfl)) (te_ix (e := (eT eS)) (te_ro (i := 5) (a := c4) (o := (oL (eT eS))) rfl) (te_kd (a := (1 : Int)) (e := eI)) (.inr fun _ => rfl)) (fun _ => rfl) (fun _ => rfl)) (.inl fun _ => rfl)) (.inr fun _ => rfl))) tw_nil)) (fun (p : (List (Str × Str × (List (List Str)))) × (List Str) × Unit) => t_is_meaning p.1 p.2.1)) (te_kd (a := true) (e := eB)))) (ts_re (.D (dW eB)) (te_kd (a := false) (e := eB))) (ts_nw (a := ()) (we (we (we (we (we (we (we (wa wn)))))))))) fun c8 =>
  (ts_re (.D (dW eB)) (te_eq (e := (eT eS)) ((eqe_s).tup) (by decide) (te_ca (fun (p : (List (Str × Str × (List (List Str)))) × (List Str) × Unit) => p_heart_of p.1 p.2.1) (tw_cons (t1_d (te_rd (i := 0) (a := v_roll) (w := (dW (eT (eP3 eS eS (eT (eT eS)))))) rfl)) (tw_cons (t1_d (te_tupQ (e := eS) (te_lc (e := eS) (e' := eS) (fun (x9 : Str) => [some (.w ((dW (eT (eP3 eS eS (eT (eT eS))))) v_roll)), some (.w ((dW (eT eS)) v_one)), some (.w ((dW (eT eS)) v_other)), some (.w ((dW (eT eS)) c1)), some (.w ((dW (eT eS)) c2)), some (.ow ((oL (eT eS)) c4)), some (.w ((dW (eT eS)) c5)), some (.w ((dW eS) x9))]) rfl (by decide) (fun _ => rfl) (ti_wk (e := eS) (t1_d (te_ix (e := (eT eS)) (te_ro (i := 5) (a := c4) (o := (oL (eT eS))) rfl) (te_kd (a := (0 : Int)) (e := eI)) (.inr fun _ => rfl))) (fun _ => ⟨_, rfl, rfl⟩)) (fun x9 => (tt_b (te_in (e := eS) (eqe_s) (by decide) (te_rd (i := 7) (a := x9) (w := (dW eS)) rfl) (te_ix (e := (eT eS)) (te_ro (i := 5) (a := c4) (o := (oL (eT eS))) rfl) (te_kd (a := (1 : Int)) (e := eI)) (.inr fun _ => rfl)) dc_d (.inl fun _ => rfl)))) (fun x9 => (t1_d (te_rd (i := 7) (a := x9) (w := (dW eS)) rfl))) (fun _ => rfl)) (.inr fun _ => rfl))) tw_nil)) (fun (p : (List (Str × Str × (List (List Str)))) × (List Str) × Unit) => t_heart_of p.1 p.2.1)) (te_ca (fun (p : (List (Str × Str × (List (List Str)))) × (List Str) × Unit) => p_heart_of p.1 p.2.1) (tw_cons (t1_d (te_rd (i := 0) (a := v_roll) (w := (dW (eT (eP3 eS eS (eT (eT eS)))))) rfl)) (tw_cons (t1_d (te_rd (i := 4) (a := c2) (w := (dW (eT eS))) rfl)) tw_nil)) (fun (p : (List (Str × Str × (List (List Str)))) × (List Str) × Unit) => t_heart_of p.1 p.2.1)) dc_d dc_d)))))))))
def p__law_relax (v_reader_here : Nat) (v_roll : (List (Str × Str × (List (List Str))))) : PM (List (Str × Str × (List (List Str)))) := fnR (τ := Unit) (l := Unit) (
  (sq ((((pure v_reader_here) >>= fun a => (((pure v_roll) >>= fun a => pure ((a.length : Nat) : Int)) >>= fun a => (pure ()) >>= fun p => pure (a, p)) >>= fun p => pure (a, p)) >>= fun (p : Nat × Int × Unit) => dr r__law_draw p.1 p.2.1) >>= fun a => pure (Fl.nx a)) fun (c1 : Int) =>
  (sq (((pure v_roll) >>= fun a => (pure c1) >>= fun b => op (L2.atI a b)) >>= fun a => pure (Fl.nx a)) fun (c2 : (Str × Str × (List (List Str)))) =>
  (sq ((((pure v_roll) >>= fun a => (pure ()) >>= fun p => pure (a, p)) >>= fun (p : (List (Str × Str × (List (List Str)))) × Unit) => p__law_deed_names p.1) >>= fun a => pure (Fl.nx a)) fun (c3 : (List Str)) =>
  (sq ((((pure c2.2.2) >>= fun a => (pure none) >>= fun x => (((pure (1 : Int)) >>= fun a => pure (-a)) >>= fun i => pure (some i)) >>= fun y => pure (cutD a x y)) >>= fun a => (((((pure c2.2.2) >>= fun a => ((pure (1 : Int)) >>= fun a => pure (-a)) >>= fun b => op (L2.atI a b)) >>= fun a => ((pure (1 : Int)) >>= fun i => pure (some i)) >>= fun x => (pure none) >>= fun y => pure (cutD a x y)) >>= fun a => (pure ()) >>= fun p => pure (a, p)) >>= fun p => pure ((fun (p : (List Str) × Unit) => [p.1]) p)) >>= fun b => gd (size (a.length + b.length)) (a ++ b)) >>= fun a => pure (Fl.nx a)) fun (c4 : (List (List Str))) =>
  (sq (pIf (bAnd (((pure c2.2.2) >>= fun a => pure ((a.length : Nat) : Int)) >>= fun a => (pure (1 : Int)) >>= fun b => pure (decide (a = b))) ((((pure v_reader_here) >>= fun a => ((pure (2 : Int)) >>= fun a => (pure ()) >>= fun p => pure (a, p)) >>= fun p => pure (a, p)) >>= fun (p : Nat × Int × Unit) => dr r__law_draw p.1 p.2.1) >>= fun a => (pure (0 : Int)) >>= fun b => pure (decide (a = b)))) (sq (((pure c2.2.2) >>= fun a => ((((((pure (2 : Int)) >>= fun n => gd (decide (-(2 ^ 62) ≤ n ∧ n < 2 ^ 62)) (rgL n)) >>= fun xs => cp (fun (x9 : Int) => (pure true)) (fun (x9 : Int) => ((pure c3) >>= fun a => (((pure v_reader_here) >>= fun a => (((pure c3) >>= fun a => pure ((a.length : Nat) : Int)) >>= fun a => (pure ()) >>= fun p => pure (a, p)) >>= fun p => pure (a, p)) >>= fun (p : Nat × Int × Unit) => dr r__law_draw p.1 p.2.1) >>= fun b => op (L2.atI a b))) xs) >>= fun a => gd (decide (a.length ≤ 4000)) (sr eS (dd a))) >>= fun a => (pure ()) >>= fun p => pure (a, p)) >>= fun p => pure ((fun (p : (List Str) × Unit) => [p.1]) p)) >>= fun b => gd (size (a.length + b.length)) (a ++ b)) >>= fun a => pure (Fl.nx a)) fun (c8 : (List (List Str))) => pure (Fl.nx c8)) (pure (Fl.nx c4))) fun (c5 : (List (List Str))) =>
  (((((pure v_roll) >>= fun a => (pure none) >>= fun x => ((pure c1) >>= fun i => pure (some i)) >>= fun y => pure (cutD a x y)) >>= fun a => (((((pure c2.1) >>= fun a => ((pure c2.2.1) >>= fun a => (((pure c5) >>= fun a => gd (decide (a.length ≤ 4)) (sr (eT eS) (dd a))) >>= fun a => (pure ()) >>= fun p => pure (a, p)) >>= fun p => pure (a, p)) >>= fun p => pure (a, p)) >>= fun p => pure ((fun (p : Str × Str × (List (List Str)) × Unit) => (p.1, p.2.1, p.2.2.1)) p)) >>= fun a => (pure ()) >>= fun p => pure (a, p)) >>= fun p => pure ((fun (p : (Str × Str × (List (List Str))) × Unit) => [p.1]) p)) >>= fun b => gd (size (a.length + b.length)) (a ++ b)) >>= fun a => ((pure v_roll) >>= fun a => (((pure c1) >>= fun a => (pure (1 : Int)) >>= fun b => pure (a + b)) >>= fun i => pure (some i)) >>= fun x => (pure none) >>= fun y => pure (cutD a x y)) >>= fun b => gd (size (a.length + b.length)) (a ++ b)) >>= fun b => pure (Fl.rt b))))))))
theorem t__law_relax (v_reader_here : Nat) (v_roll : (List (Str × Str × (List (List Str))))) : TF r__law_relax [Wv.obj v_reader_here, (dW (eT (eP3 eS eS (eT (eT eS))))) v_roll] (p__law_relax v_reader_here v_roll) (.D (dW (eT (eP3 eS eS (eT (eT eS)))))) := by
  unfold r__law_relax m__law_relax p__law_relax
  exact tf_R (τ := Unit) (l := Unit) (G := (fun _ => [none, none, none, none, none, none, none, none, none])) (L := fun _ => []) (Γ := [some (.w (Wv.obj v_reader_here)), some (.w ((dW (eT (eP3 eS eS (eT (eT eS))))) v_roll)), none, none, none, none, none, none, none]) (we (we (wa (wa (wa (wa (wa (wa (wa wn))))))))) (
  (ts_seq (G := fun (c1 : Int) => [some (.w (Wv.obj v_reader_here)), some (.w ((dW (eT (eP3 eS eS (eT (eT eS))))) v_roll)), some (.w ((dW eI) c1)), none, none, none, none, none, none]) (ts_as (s0 := (.D (dW eI))) (te_ca (fun (p : Nat × Int × Unit) => dr r__law_draw p.1 p.2.1) (tw_cons (t1_d (te_rd (i := 0) (a := v_reader_here) (w := Wv.obj) rfl)) (tw_cons (t1_d (te_len (e := (eP3 eS eS (eT (eT eS)))) (te_rd (i := 1) (a := v_roll) (w := (dW (eT (eP3 eS eS (eT (eT eS)))))) rfl) (.inl fun _ => rfl))) tw_nil)) (fun (p : Nat × Int × Unit) => tf_dr _ _ _)) rfl) fun c1 =>
  (ts_seq (G := fun (c2 : (Str × Str × (List (List Str)))) => [some (.w (Wv.obj v_reader_here)), some (.w ((dW (eT (eP3 eS eS (eT (eT eS))))) v_roll)), some (.w ((dW eI) c1)), some (.w ((dW eS) c2.1)), some (.w ((dW eS) c2.2.1)), some (.w ((dW (eT (eT eS))) c2.2.2)), none, none, none]) (ts_ta (e := (eP3 eS eS (eT (eT eS)))) (fun (c2 : (Str × Str × (List (List Str)))) => [some (.w (Wv.obj v_reader_here)), some (.w ((dW (eT (eP3 eS eS (eT (eT eS))))) v_roll)), some (.w ((dW eI) c1)), some (.w ((dW eS) c2.1)), some (.w ((dW eS) c2.2.1)), some (.w ((dW (eT (eT eS))) c2.2.2)), none, none, none]) (t1_d (te_ix (e := (eP3 eS eS (eT (eT eS)))) (te_rd (i := 1) (a := v_roll) (w := (dW (eT (eP3 eS eS (eT (eT eS)))))) rfl) (te_rd (i := 2) (a := c1) (w := (dW eI)) rfl) (.inl fun _ => rfl))) (fun _ => rfl) (fun _ => rfl)) fun c2 =>
  (ts_seq (G := fun (c3 : (List Str)) => [some (.w (Wv.obj v_reader_here)), some (.w ((dW (eT (eP3 eS eS (eT (eT eS))))) v_roll)), some (.w ((dW eI) c1)), some (.w ((dW eS) c2.1)), some (.w ((dW eS) c2.2.1)), some (.w ((dW (eT (eT eS))) c2.2.2)), some (.ow ((oL eS) c3)), none, none]) (ts_as (s0 := (.F (oL eS))) (te_ca (fun (p : (List (Str × Str × (List (List Str)))) × Unit) => p__law_deed_names p.1) (tw_cons (t1_d (te_rd (i := 1) (a := v_roll) (w := (dW (eT (eP3 eS eS (eT (eT eS)))))) rfl)) tw_nil) (fun (p : (List (Str × Str × (List (List Str)))) × Unit) => t__law_deed_names p.1)) rfl) fun c3 =>
  (ts_seq (G := fun (c4 : (List (List Str))) => [some (.w (Wv.obj v_reader_here)), some (.w ((dW (eT (eP3 eS eS (eT (eT eS))))) v_roll)), some (.w ((dW eI) c1)), some (.w ((dW eS) c2.1)), some (.w ((dW eS) c2.2.1)), some (.w ((dW (eT (eT eS))) c2.2.2)), some (.ow ((oL eS) c3)), some (.ow ((oL (eT eS)) c4)), none]) (ts_as (s0 := (.F (oL (eT eS)))) (te_addL (e := (eT eS)) (te_lstQ (e := (eT eS)) (te_slT (e := (eT eS)) (te_rd (i := 5) (a := c2.2.2) (w := (dW (eT (eT eS)))) rfl) to_n (to_s (te_neg (te_kd (a := (1 : Int)) (e := eI)))) (fun _ => rfl)) (.inl fun _ => rfl)) (te_lst (e := (eT eS)) (fun (p : (List Str) × Unit) => [p.1]) (tw_cons (t1_d (te_slT (e := eS) (te_ix (e := (eT eS)) (te_rd (i := 5) (a := c2.2.2) (w := (dW (eT (eT eS)))) rfl) (te_neg (te_kd (a := (1 : Int)) (e := eI))) (.inl fun _ => rfl)) (to_s (te_kd (a := (1 : Int)) (e := eI))) to_n (fun _ => rfl))) tw_nil) (fun _ => ⟨rfl, rfl⟩)) (fun _ => rfl) (fun _ => rfl)) rfl) fun c4 =>
  (ts_seq (G := fun (c5 : (List (List Str))) => [some (.w (Wv.obj v_reader_here)), some (.w ((dW (eT (eP3 eS eS (eT (eT eS))))) v_roll)), some (.w ((dW eI) c1)), some (.w ((dW eS) c2.1)), some (.w ((dW eS) c2.2.1)), some (.w ((dW (eT (eT eS))) c2.2.2)), some (.ow ((oL eS) c3)), some (.ow ((oL (eT eS)) c5)), none]) (ts_if (G := (fun (c5 : (List (List Str))) => [some (.w (Wv.obj v_reader_here)), some (.w ((dW (eT (eP3 eS eS (eT (eT eS))))) v_roll)), some (.w ((dW eI) c1)), some (.w ((dW eS) c2.1)), some (.w ((dW eS) c2.2.1)), some (.w ((dW (eT (eT eS))) c2.2.2)), some (.ow ((oL eS) c3)), some (.ow ((oL (eT eS)) c5)), none])) (tt_and (tt_b (te_eq (e := eI) (eqe_i) (by decide) (te_len (e := (eT eS)) (te_rd (i := 5) (a := c2.2.2) (w := (dW (eT (eT eS)))) rfl) (.inl fun _ => rfl)) (te_kd (a := (1 : Int)) (e := eI)) dc_d dc_d)) (tt_b (te_eq (e := eI) (eqe_i) (by decide) (te_ca (fun (p : Nat × Int × Unit) => dr r__law_draw p.1 p.2.1) (tw_cons (t1_d (te_rd (i := 0) (a := v_reader_here) (w := Wv.obj) rfl)) (tw_cons (t1_d (te_kd (a := (2 : Int)) (e := eI))) tw_nil)) (fun (p : Nat × Int × Unit) => tf_dr _ _ _)) (te_kd (a := (0 : Int)) (e := eI)) dc_d dc_d))) (ts_end (G := fun (c8 : (List (List Str))) => [some (.w (Wv.obj v_reader_here)), some (.w ((dW (eT (eP3 eS eS (eT (eT eS))))) v_roll)), some (.w ((dW eI) c1)), some (.w ((dW eS) c2.1)), some (.w ((dW eS) c2.2.1)), some (.w ((dW (eT (eT eS))) c2.2.2)), some (.ow ((oL eS) c3)), some (.ow ((oL (eT eS)) c8)), none]) (fun (c8 : (List (List Str))) => c8) (ts_as (s0 := (.F (oL (eT eS)))) (te_addL (e := (eT eS)) (te_lstQ (e := (eT eS)) (te_rd (i := 5) (a := c2.2.2) (w := (dW (eT (eT eS)))) rfl) (.inl fun _ => rfl)) (te_lst (e := (eT eS)) (fun (p : (List Str) × Unit) => [p.1]) (tw_cons (t1_d (te_tupQ (e := eS) (te_srtSetS (te_lc (e := eI) (e' := eS) (fun (x9 : Int) => [some (.w (Wv.obj v_reader_here)), some (.w ((dW (eT (eP3 eS eS (eT (eT eS))))) v_roll)), some (.w ((dW eI) c1)), some (.w ((dW eS) c2.1)), some (.w ((dW eS) c2.2.1)), some (.w ((dW (eT (eT eS))) c2.2.2)), some (.ow ((oL eS) c3)), some (.ow ((oL (eT eS)) c4)), some (.w ((dW eI) x9))]) rfl (by decide) (fun _ => rfl) (ti_rg (te_kd (a := (2 : Int)) (e := eI))) (fun x9 => tt_true) (fun x9 => (t1_d (te_ix (e := eS) (te_ro (i := 6) (a := c3) (o := (oL eS)) rfl) (te_ca (fun (p : Nat × Int × Unit) => dr r__law_draw p.1 p.2.1) (tw_cons (t1_d (te_rd (i := 0) (a := v_reader_here) (w := Wv.obj) rfl)) (tw_cons (t1_d (te_len (e := eS) (te_ro (i := 6) (a := c3) (o := (oL eS)) rfl) (.inr fun _ => rfl))) tw_nil)) (fun (p : Nat × Int × Unit) => tf_dr _ _ _)) (.inr fun _ => rfl)))) (fun _ => rfl)) (.inr fun _ => rfl)) (.inr fun _ => rfl))) tw_nil) (fun _ => ⟨rfl, rfl⟩)) (fun _ => rfl) (fun _ => rfl)) rfl) (fun c8 => (we (we (we (we (we (we (we (we (wa wn))))))))))) (ts_nw (a := c4) (we (we (we (we (we (we (we (we (wa wn))))))))))) fun c5 =>
  (ts_re (.D (dW (eT (eP3 eS eS (eT (eT eS)))))) (te_addT (e := (eP3 eS eS (eT (eT eS)))) (te_addT (e := (eP3 eS eS (eT (eT eS)))) (te_slT (e := (eP3 eS eS (eT (eT eS)))) (te_rd (i := 1) (a := v_roll) (w := (dW (eT (eP3 eS eS (eT (eT eS)))))) rfl) to_n (to_s (te_rd (i := 2) (a := c1) (w := (dW eI)) rfl)) (fun _ => rfl)) (te_tup (e := (eT (eP3 eS eS (eT (eT eS))))) (fun (p : (Str × Str × (List (List Str))) × Unit) => [p.1]) (tw_cons (t1_d (te_tup (e := (eP3 eS eS (eT (eT eS)))) (fun (p : Str × Str × (List (List Str)) × Unit) => (p.1, p.2.1, p.2.2.1)) (tw_cons (t1_d (te_rd (i := 3) (a := c2.1) (w := (dW eS)) rfl)) (tw_cons (t1_d (te_rd (i := 4) (a := c2.2.1) (w := (dW eS)) rfl)) (tw_cons (t1_d (te_tupQ (e := (eT eS)) (te_srtSetT (te_ro (i := 7) (a := c5) (o := (oL (eT eS))) rfl) (.inr fun _ => rfl)) (.inr fun _ => rfl))) tw_nil))) (fun _ => ⟨_, rfl, rfl, rfl⟩))) tw_nil) (fun _ => ⟨_, rfl, rfl, rfl⟩)) (fun _ => rfl) (fun _ => rfl)) (te_slT (e := (eP3 eS eS (eT (eT eS)))) (te_rd (i := 1) (a := v_roll) (w := (dW (eT (eP3 eS eS (eT (eT eS)))))) rfl) (to_s (te_add (te_rd (i := 2) (a := c1) (w := (dW eI)) rfl) (te_kd (a := (1 : Int)) (e := eI)))) to_n (fun _ => rfl)) (fun _ => rfl) (fun _ => rfl)))))))))
def p_is_lettered (v_thing : Str) (v_most : Int) : PM Bool := fnR (τ := Unit) (l := Unit) (
  (sq (pIf (bOr (bNot ((pure v_thing) >>= fun _ => pure true)) (bNot ((pure (1 : Int)) >>= fun a => ((pure v_thing) >>= fun a => gd (size a.length) ((a.length : Nat) : Int)) >>= fun b => if cmI .le a b = true then (pure v_most) >>= fun c => pure (cmI .le b c) else pure false))) ((pure false) >>= fun b => pure (Fl.rt b)) (pure (Fl.nx ()))) fun (c1 : Unit) =>
  (((((pure v_thing) >>= fun x => pure (chs x)) >>= fun xs => cp (fun (x2 : Str) => (pure true)) (fun (x2 : Str) => ((pure x2) >>= fun a => (pure (PySem.Str.ofString "abcdefghijklmnopqrstuvwxyz")) >>= fun b => pure (inS a b))) xs) >>= fun a => pure (a.all id)) >>= fun b => pure (Fl.rt b))))
theorem t_is_lettered (v_thing : Str) (v_most : Int) : TF r_is_lettered [(dW eS) v_thing, (dW eI) v_most] (p_is_lettered v_thing v_most) (.D (dW eB)) := by
  unfold r_is_lettered m_is_lettered p_is_lettered
  exact tf_R (τ := Unit) (l := Unit) (G := (fun _ => [none, none, none])) (L := fun _ => []) (Γ := [some (.w ((dW eS) v_thing)), some (.w ((dW eI) v_most)), none]) (we (we (wa wn))) (
  (ts_seq (G := fun (c1 : Unit) => [some (.w ((dW eS) v_thing)), some (.w ((dW eI) v_most)), none]) (ts_if (G := (fun (c1 : Unit) => [some (.w ((dW eS) v_thing)), some (.w ((dW eI) v_most)), none])) (tt_or (tt_not (tt_b (te_isi true (te_rd (i := 0) (a := v_thing) (w := (dW eS)) rfl) (fun a => ⟨_, rfl, rfl⟩)))) (tt_not (tt_b (te_chI rfl rfl (te_kd (a := (1 : Int)) (e := eI)) (te_lenS (te_rd (i := 0) (a := v_thing) (w := (dW eS)) rfl)) (te_rd (i := 1) (a := v_most) (w := (dW eI)) rfl))))) (ts_re (.D (dW eB)) (te_kd (a := false) (e := eB))) (ts_nw (a := ()) (we (we (wa wn))))) fun c1 =>
  (ts_re (.D (dW eB)) (te_qun (f := fun bs => bs.all id) (te_lc (e := eS) (e' := eB) (fun (x2 : Str) => [some (.w ((dW eS) v_thing)), some (.w ((dW eI) v_most)), some (.w ((dW eS) x2))]) rfl (by decide) (fun _ => rfl) (ti_wkS (te_rd (i := 0) (a := v_thing) (w := (dW eS)) rfl)) (fun x2 => tt_true) (fun x2 => (t1_d (te_inS (te_rd (i := 2) (a := x2) (w := (dW eS)) rfl) (te_kd (a := (PySem.Str.ofString "abcdefghijklmnopqrstuvwxyz")) (e := eS))))) (fun _ => rfl)) (fun _ => rfl)))))
def p_is_name (v_thing : Str) : PM Bool := fnR (τ := Unit) (l := Unit) (
  ((((pure v_thing) >>= fun a => ((pure (8 : Int)) >>= fun a => (pure ()) >>= fun p => pure (a, p)) >>= fun p => pure (a, p)) >>= fun (p : Str × Int × Unit) => p_is_lettered p.1 p.2.1) >>= fun b => pure (Fl.rt b)))
theorem t_is_name (v_thing : Str) : TF r_is_name [(dW eS) v_thing] (p_is_name v_thing) (.D (dW eB)) := by
  unfold r_is_name m_is_name p_is_name
  exact tf_R (τ := Unit) (l := Unit) (G := (fun _ => [none])) (L := fun _ => []) (Γ := [some (.w ((dW eS) v_thing))]) (we wn) (
  (ts_re (.D (dW eB)) (te_ca (fun (p : Str × Int × Unit) => p_is_lettered p.1 p.2.1) (tw_cons (t1_d (te_rd (i := 0) (a := v_thing) (w := (dW eS)) rfl)) (tw_cons (t1_d (te_kd (a := (8 : Int)) (e := eI))) tw_nil)) (fun (p : Str × Int × Unit) => t_is_lettered p.1 p.2.1))))
def p_are_all_3 (v_thing : (List Str)) : PM Bool := fnR (τ := Unit) (l := Unit) (
  ((bAnd ((pure v_thing) >>= fun _ => pure true) (((pure v_thing) >>= fun xs => cp (fun (x1 : Str) => (pure true)) (fun (x1 : Str) => (((pure x1) >>= fun a => (pure ()) >>= fun p => pure (a, p)) >>= fun (p : Str × Unit) => p_is_name p.1)) xs) >>= fun a => pure (a.all id))) >>= fun b => pure (Fl.rt b)))
theorem t_are_all_3 (D : Ds K mg) (v_thing : (List Str)) : TF (r_are_all (.ref D.a_is_name) r_is_name) [(dW (eT eS)) v_thing, (rawW (.ref D.a_is_name)) ()] (p_are_all_3 v_thing) (.D (dW eB)) := by
  unfold r_are_all m_are_all p_are_all_3
  exact tf_R (τ := Unit) (l := Unit) (G := (fun _ => [none, none, none])) (L := fun _ => []) (Γ := [some (.w ((dW (eT eS)) v_thing)), some (.w ((rawW (.ref D.a_is_name)) ())), none]) (we (we (wa wn))) (
  (ts_re (.D (dW eB)) (te_andB (te_isi true (te_rd (i := 0) (a := v_thing) (w := (dW (eT eS))) rfl) (fun a => ⟨_, rfl, isi_T rfl a⟩)) (te_qun (f := fun bs => bs.all id) (te_lc (e := eS) (e' := eB) (fun (x1 : Str) => [some (.w ((dW (eT eS)) v_thing)), some (.w ((rawW (.ref D.a_is_name)) ())), some (.w ((dW eS) x1))]) rfl (by decide) (fun _ => rfl) (ti_wk (e := eS) (t1_d (te_rd (i := 0) (a := v_thing) (w := (dW (eT eS))) rfl)) (fun _ => ⟨_, rfl, rfl⟩)) (fun x1 => tt_true) (fun x1 => (t1_d (te_cl (fun (p : Str × Unit) => p_is_name p.1) rfl (tw_cons (t1_d (te_rd (i := 2) (a := x1) (w := (dW eS)) rfl)) tw_nil) (fun (p : Str × Unit) => t_is_name p.1)))) (fun _ => rfl)) (fun _ => rfl)))))
def p_rise_1 (v_things : (List Str)) : PM Bool := fnR (τ := Unit) (l := Unit) (
  (((((pure v_things) >>= fun a => ((pure v_things) >>= fun a => ((pure (1 : Int)) >>= fun i => pure (some i)) >>= fun x => (pure none) >>= fun y => pure (cutD a x y)) >>= fun b => pure (a.zip b)) >>= fun xs => cp (fun (x1 : (Str × Str)) => (pure true)) (fun (x1 : (Str × Str)) => ((pure x1.1) >>= fun a => (pure x1.2) >>= fun b => pure (W.dataLt (eS a) (eS b)))) xs) >>= fun a => pure (a.all id)) >>= fun b => pure (Fl.rt b)))
theorem t_rise_1 (v_things : (List Str)) : TF r_rise [(dW (eT eS)) v_things] (p_rise_1 v_things) (.D (dW eB)) := by
  unfold r_rise m_rise p_rise_1
  exact tf_R (τ := Unit) (l := Unit) (G := (fun _ => [none, none, none])) (L := fun _ => []) (Γ := [some (.w ((dW (eT eS)) v_things)), none, none]) (we (wa (wa wn))) (
  (ts_re (.D (dW eB)) (te_qun (f := fun bs => bs.all id) (te_lc (e := (eP2 eS eS)) (e' := eB) (fun (x1 : (Str × Str)) => [some (.w ((dW (eT eS)) v_things)), some (.w ((dW eS) x1.1)), some (.w ((dW eS) x1.2))]) rfl (by decide) (fun _ => rfl) (ti_zip (e1 := eS) (e2 := eS) (t1_d (te_rd (i := 0) (a := v_things) (w := (dW (eT eS))) rfl)) (t1_d (te_slT (e := eS) (te_rd (i := 0) (a := v_things) (w := (dW (eT eS))) rfl) (to_s (te_kd (a := (1 : Int)) (e := eI))) to_n (fun _ => rfl))) (.inl ⟨fun _ => rfl, fun _ => rfl⟩)) (fun x1 => tt_true) (fun x1 => (t1_d (te_lt (e := eS) (lte_s) (by decide) (te_rd (i := 1) (a := x1.1) (w := (dW eS)) rfl) (te_rd (i := 2) (a := x1.2) (w := (dW eS)) rfl) dc_d dc_d))) (fun _ => rfl)) (fun _ => rfl))))
def p_is_set (v_thing : (List Str)) : PM Bool := fnR (τ := Unit) (l := Unit) (
  ((bAnd (((pure v_thing) >>= fun a => ((pure ()) >>= fun a => (pure ()) >>= fun p => pure (a, p)) >>= fun p => pure (a, p)) >>= fun (p : (List Str) × Unit × Unit) => p_are_all_3 p.1) (((pure v_thing) >>= fun a => (pure ()) >>= fun p => pure (a, p)) >>= fun (p : (List Str) × Unit) => p_rise_1 p.1)) >>= fun b => pure (Fl.rt b)))
theorem t_is_set (D : Ds K mg) (v_thing : (List Str)) : TF (r_is_set D) [(dW (eT eS)) v_thing] (p_is_set v_thing) (.D (dW eB)) := by
  unfold r_is_set m_is_set p_is_set
  exact tf_R (τ := Unit) (l := Unit) (G := (fun _ => [none])) (L := fun _ => []) (Γ := [some (.w ((dW (eT eS)) v_thing))]) (we wn) (
  (ts_re (.D (dW eB)) (te_andB (te_ca (fun (p : (List Str) × Unit × Unit) => p_are_all_3 p.1) (tw_cons (t1_d (te_rd (i := 0) (a := v_thing) (w := (dW (eT eS))) rfl)) (tw_cons (t1_d (te_rw (v := .ref D.a_is_name))) tw_nil)) (fun (p : (List Str) × Unit × Unit) => t_are_all_3 D p.1)) (te_ca (fun (p : (List Str) × Unit) => p_rise_1 p.1) (tw_cons (t1_d (te_rd (i := 0) (a := v_thing) (w := (dW (eT eS))) rfl)) tw_nil) (fun (p : (List Str) × Unit) => t_rise_1 p.1)))))
def p_are_all_2 (v_thing : (List (List Str))) : PM Bool := fnR (τ := Unit) (l := Unit) (
  ((bAnd ((pure v_thing) >>= fun _ => pure true) (((pure v_thing) >>= fun xs => cp (fun (x1 : (List Str)) => (pure true)) (fun (x1 : (List Str)) => (((pure x1) >>= fun a => (pure ()) >>= fun p => pure (a, p)) >>= fun (p : (List Str) × Unit) => p_is_set p.1)) xs) >>= fun a => pure (a.all id))) >>= fun b => pure (Fl.rt b)))
theorem t_are_all_2 (D : Ds K mg) (v_thing : (List (List Str))) : TF (r_are_all (.ref D.a_is_set) (r_is_set D)) [(dW (eT (eT eS))) v_thing, (rawW (.ref D.a_is_set)) ()] (p_are_all_2 v_thing) (.D (dW eB)) := by
  unfold r_are_all m_are_all p_are_all_2
  exact tf_R (τ := Unit) (l := Unit) (G := (fun _ => [none, none, none])) (L := fun _ => []) (Γ := [some (.w ((dW (eT (eT eS))) v_thing)), some (.w ((rawW (.ref D.a_is_set)) ())), none]) (we (we (wa wn))) (
  (ts_re (.D (dW eB)) (te_andB (te_isi true (te_rd (i := 0) (a := v_thing) (w := (dW (eT (eT eS)))) rfl) (fun a => ⟨_, rfl, isi_T rfl a⟩)) (te_qun (f := fun bs => bs.all id) (te_lc (e := (eT eS)) (e' := eB) (fun (x1 : (List Str)) => [some (.w ((dW (eT (eT eS))) v_thing)), some (.w ((rawW (.ref D.a_is_set)) ())), some (.w ((dW (eT eS)) x1))]) rfl (by decide) (fun _ => rfl) (ti_wk (e := (eT eS)) (t1_d (te_rd (i := 0) (a := v_thing) (w := (dW (eT (eT eS)))) rfl)) (fun _ => ⟨_, rfl, rfl⟩)) (fun x1 => tt_true) (fun x1 => (t1_d (te_cl (fun (p : (List Str) × Unit) => p_is_set p.1) rfl (tw_cons (t1_d (te_rd (i := 2) (a := x1) (w := (dW (eT eS))) rfl)) tw_nil) (fun (p : (List Str) × Unit) => t_is_set D p.1)))) (fun _ => rfl)) (fun _ => rfl)))))
def p_rise_2 (v_things : (List (List Str))) : PM Bool := fnR (τ := Unit) (l := Unit) (
  (((((pure v_things) >>= fun a => ((pure v_things) >>= fun a => ((pure (1 : Int)) >>= fun i => pure (some i)) >>= fun x => (pure none) >>= fun y => pure (cutD a x y)) >>= fun b => pure (a.zip b)) >>= fun xs => cp (fun (x1 : ((List Str) × (List Str))) => (pure true)) (fun (x1 : ((List Str) × (List Str))) => ((pure x1.1) >>= fun a => (pure x1.2) >>= fun b => pure (W.dataLt ((eT eS) a) ((eT eS) b)))) xs) >>= fun a => pure (a.all id)) >>= fun b => pure (Fl.rt b)))
theorem t_rise_2 (v_things : (List (List Str))) : TF r_rise [(dW (eT (eT eS))) v_things] (p_rise_2 v_things) (.D (dW eB)) := by
  unfold r_rise m_rise p_rise_2
  exact tf_R (τ := Unit) (l := Unit) (G := (fun _ => [none, none, none])) (L := fun _ => []) (Γ := [some (.w ((dW (eT (eT eS))) v_things)), none, none]) (we (wa (wa wn))) (
  (ts_re (.D (dW eB)) (te_qun (f := fun bs => bs.all id) (te_lc (e := (eP2 (eT eS) (eT eS))) (e' := eB) (fun (x1 : ((List Str) × (List Str))) => [some (.w ((dW (eT (eT eS))) v_things)), some (.w ((dW (eT eS)) x1.1)), some (.w ((dW (eT eS)) x1.2))]) rfl (by decide) (fun _ => rfl) (ti_zip (e1 := (eT eS)) (e2 := (eT eS)) (t1_d (te_rd (i := 0) (a := v_things) (w := (dW (eT (eT eS)))) rfl)) (t1_d (te_slT (e := (eT eS)) (te_rd (i := 0) (a := v_things) (w := (dW (eT (eT eS)))) rfl) (to_s (te_kd (a := (1 : Int)) (e := eI))) to_n (fun _ => rfl))) (.inl ⟨fun _ => rfl, fun _ => rfl⟩)) (fun x1 => tt_true) (fun x1 => (t1_d (te_lt (e := (eT eS)) ((lte_s).tup) (by decide) (te_rd (i := 1) (a := x1.1) (w := (dW (eT eS))) rfl) (te_rd (i := 2) (a := x1.2) (w := (dW (eT eS))) rfl) dc_d dc_d))) (fun _ => rfl)) (fun _ => rfl))))
def p_are_needs (v_thing : (List (List Str))) : PM Bool := fnR (τ := Unit) (l := Unit) (
  ((bAnd (((pure v_thing) >>= fun a => ((pure ()) >>= fun a => (pure ()) >>= fun p => pure (a, p)) >>= fun p => pure (a, p)) >>= fun (p : (List (List Str)) × Unit × Unit) => p_are_all_2 p.1) (bAnd ((pure v_thing) >>= fun a => ((pure ()) >>= fun p => pure ((fun (_ : Unit) => ([] : (List (List Str)))) p)) >>= fun b => pure (!decide (a = b))) (((pure v_thing) >>= fun a => (pure ()) >>= fun p => pure (a, p)) >>= fun (p : (List (List Str)) × Unit) => p_rise_2 p.1))) >>= fun b => pure (Fl.rt b)))
theorem t_are_needs (D : Ds K mg) (v_thing : (List (List Str))) : TF (r_are_needs D) [(dW (eT (eT eS))) v_thing] (p_are_needs v_thing) (.D (dW eB)) := by
  unfold r_are_needs m_are_needs p_are_needs
  exact tf_R (τ := Unit) (l := Unit) (G := (fun _ => [none])) (L := fun _ => []) (Γ := [some (.w ((dW (eT (eT eS))) v_thing))]) (we wn) (
  (ts_re (.D (dW eB)) (te_andB (te_ca (fun (p : (List (List Str)) × Unit × Unit) => p_are_all_2 p.1) (tw_cons (t1_d (te_rd (i := 0) (a := v_thing) (w := (dW (eT (eT eS)))) rfl)) (tw_cons (t1_d (te_rw (v := .ref D.a_is_set))) tw_nil)) (fun (p : (List (List Str)) × Unit × Unit) => t_are_all_2 D p.1)) (te_andB (te_ne (e := (eT (eT eS))) (((eqe_s).tup).tup) (by decide) (te_rd (i := 0) (a := v_thing) (w := (dW (eT (eT eS)))) rfl) (te_tup (e := (eT (eT eS))) (fun (_ : Unit) => ([] : (List (List Str)))) tw_nil (fun _ => ⟨_, rfl, rfl, rfl⟩)) dc_d dc_d) (te_ca (fun (p : (List (List Str)) × Unit) => p_rise_2 p.1) (tw_cons (t1_d (te_rd (i := 0) (a := v_thing) (w := (dW (eT (eT eS)))) rfl)) tw_nil) (fun (p : (List (List Str)) × Unit) => t_rise_2 p.1))))))
def p_is_deed_row (v_thing : (Str × Str × (List (List Str)))) : PM Bool := fnR (τ := Unit) (l := Unit) (
  (sq (pIf (bOr (bNot ((pure v_thing) >>= fun _ => pure true)) (((pure v_thing) >>= fun _ => pure (((3 : Nat)) : Int)) >>= fun a => (pure (3 : Int)) >>= fun b => pure (!decide (a = b)))) ((pure false) >>= fun b => pure (Fl.rt b)) (pure (Fl.nx ()))) fun (c1 : Unit) =>
  (sq ((pure v_thing) >>= fun a => pure (Fl.nx a)) fun (c2 : (Str × Str × (List (List Str)))) =>
  ((bAnd (((pure c2.1) >>= fun a => (pure ()) >>= fun p => pure (a, p)) >>= fun (p : Str × Unit) => p_is_name p.1) (bAnd (((pure c2.2.1) >>= fun a => (pure ()) >>= fun p => pure (a, p)) >>= fun (p : Str × Unit) => p_is_name p.1) (((pure c2.2.2) >>= fun a => (pure ()) >>= fun p => pure (a, p)) >>= fun (p : (List (List Str)) × Unit) => p_are_needs p.1))) >>= fun b => pure (Fl.rt b)))))
theorem t_is_deed_row (D : Ds K mg) (v_thing : (Str × Str × (List (List Str)))) : TF (r_is_deed_row D) [(dW (eP3 eS eS (eT (eT eS)))) v_thing] (p_is_deed_row v_thing) (.D (dW eB)) := by
  unfold r_is_deed_row m_is_deed_row p_is_deed_row
  exact tf_R (τ := Unit) (l := Unit) (G := (fun _ => [none, none, none, none])) (L := fun _ => []) (Γ := [some (.w ((dW (eP3 eS eS (eT (eT eS)))) v_thing)), none, none, none]) (we (wa (wa (wa wn)))) (
  (ts_seq (G := fun (c1 : Unit) => [some (.w ((dW (eP3 eS eS (eT (eT eS)))) v_thing)), none, none, none]) (ts_if (G := (fun (c1 : Unit) => [some (.w ((dW (eP3 eS eS (eT (eT eS)))) v_thing)), none, none, none])) (tt_or (tt_not (tt_b (te_isi true (te_rd (i := 0) (a := v_thing) (w := (dW (eP3 eS eS (eT (eT eS))))) rfl) (fun a => ⟨_, rfl, rfl⟩)))) (tt_b (te_ne (e := eI) (eqe_i) (by decide) (te_lenK 3 (te_rd (i := 0) (a := v_thing) (w := (dW (eP3 eS eS (eT (eT eS))))) rfl) (fun _ => ⟨_, rfl, rfl⟩)) (te_kd (a := (3 : Int)) (e := eI)) dc_d dc_d))) (ts_re (.D (dW eB)) (te_kd (a := false) (e := eB))) (ts_nw (a := ()) (we (wa (wa (wa wn)))))) fun c1 =>
  (ts_seq (G := fun (c2 : (Str × Str × (List (List Str)))) => [some (.w ((dW (eP3 eS eS (eT (eT eS)))) v_thing)), some (.w ((dW eS) c2.1)), some (.w ((dW eS) c2.2.1)), some (.w ((dW (eT (eT eS))) c2.2.2))]) (ts_ta (e := (eP3 eS eS (eT (eT eS)))) (fun (c2 : (Str × Str × (List (List Str)))) => [some (.w ((dW (eP3 eS eS (eT (eT eS)))) v_thing)), some (.w ((dW eS) c2.1)), some (.w ((dW eS) c2.2.1)), some (.w ((dW (eT (eT eS))) c2.2.2))]) (t1_d (te_rd (i := 0) (a := v_thing) (w := (dW (eP3 eS eS (eT (eT eS))))) rfl)) (fun _ => rfl) (fun _ => rfl)) fun c2 =>
  (ts_re (.D (dW eB)) (te_andB (te_ca (fun (p : Str × Unit) => p_is_name p.1) (tw_cons (t1_d (te_rd (i := 1) (a := c2.1) (w := (dW eS)) rfl)) tw_nil) (fun (p : Str × Unit) => t_is_name p.1)) (te_andB (te_ca (fun (p : Str × Unit) => p_is_name p.1) (tw_cons (t1_d (te_rd (i := 2) (a := c2.2.1) (w := (dW eS)) rfl)) tw_nil) (fun (p : Str × Unit) => t_is_name p.1)) (te_ca (fun (p : (List (List Str)) × Unit) => p_are_needs p.1) (tw_cons (t1_d (te_rd (i := 3) (a := c2.2.2) (w := (dW (eT (eT eS)))) rfl)) tw_nil) (fun (p : (List (List Str)) × Unit) => t_are_needs D p.1))))))))
def p_are_all_1 (v_thing : (List (Str × Str × (List (List Str))))) : PM Bool := fnR (τ := Unit) (l := Unit) (
  ((bAnd ((pure v_thing) >>= fun _ => pure true) (((pure v_thing) >>= fun xs => cp (fun (x1 : (Str × Str × (List (List Str)))) => (pure true)) (fun (x1 : (Str × Str × (List (List Str)))) => (((pure x1) >>= fun a => (pure ()) >>= fun p => pure (a, p)) >>= fun (p : (Str × Str × (List (List Str))) × Unit) => p_is_deed_row p.1)) xs) >>= fun a => pure (a.all id))) >>= fun b => pure (Fl.rt b)))
theorem t_are_all_1 (D : Ds K mg) (v_thing : (List (Str × Str × (List (List Str))))) : TF (r_are_all (.ref D.a_is_deed_row) (r_is_deed_row D)) [(dW (eT (eP3 eS eS (eT (eT eS))))) v_thing, (rawW (.ref D.a_is_deed_row)) ()] (p_are_all_1 v_thing) (.D (dW eB)) := by
  unfold r_are_all m_are_all p_are_all_1
  exact tf_R (τ := Unit) (l := Unit) (G := (fun _ => [none, none, none])) (L := fun _ => []) (Γ := [some (.w ((dW (eT (eP3 eS eS (eT (eT eS))))) v_thing)), some (.w ((rawW (.ref D.a_is_deed_row)) ())), none]) (we (we (wa wn))) (
  (ts_re (.D (dW eB)) (te_andB (te_isi true (te_rd (i := 0) (a := v_thing) (w := (dW (eT (eP3 eS eS (eT (eT eS)))))) rfl) (fun a => ⟨_, rfl, isi_T rfl a⟩)) (te_qun (f := fun bs => bs.all id) (te_lc (e := (eP3 eS eS (eT (eT eS)))) (e' := eB) (fun (x1 : (Str × Str × (List (List Str)))) => [some (.w ((dW (eT (eP3 eS eS (eT (eT eS))))) v_thing)), some (.w ((rawW (.ref D.a_is_deed_row)) ())), some (.w ((dW (eP3 eS eS (eT (eT eS)))) x1))]) rfl (by decide) (fun _ => rfl) (ti_wk (e := (eP3 eS eS (eT (eT eS)))) (t1_d (te_rd (i := 0) (a := v_thing) (w := (dW (eT (eP3 eS eS (eT (eT eS)))))) rfl)) (fun _ => ⟨_, rfl, rfl⟩)) (fun x1 => tt_true) (fun x1 => (t1_d (te_cl (fun (p : (Str × Str × (List (List Str))) × Unit) => p_is_deed_row p.1) rfl (tw_cons (t1_d (te_rd (i := 2) (a := x1) (w := (dW (eP3 eS eS (eT (eT eS))))) rfl)) tw_nil) (fun (p : (Str × Str × (List (List Str))) × Unit) => t_is_deed_row D p.1)))) (fun _ => rfl)) (fun _ => rfl)))))
def p_need_so_1 (v_truth : Bool) (v_word : Str) (v_at : Int) : PM Unit := fnN (τ := Unit) (l := Unit) (
  (pIf (bNot (pure v_truth)) no (pure (Fl.nx ()))))
theorem t_need_so_1 (v_truth : Bool) (v_word : Str) (v_at : Int) : TF r_need_so [(dW eB) v_truth, (dW eS) v_word, (dW eI) v_at] (p_need_so_1 v_truth v_word v_at) (.D (dW eN)) := by
  unfold r_need_so m_need_so p_need_so_1
  exact tf_N (τ := Unit) (l := Unit) (G := (fun _ => [none, none, none])) (L := fun _ => []) (sh := (.D (dW eN))) (Γ := [some (.w ((dW eB) v_truth)), some (.w ((dW eS) v_word)), some (.w ((dW eI) v_at))]) (we (we (we wn))) (
  (ts_if (tt_not (tt_b (te_rd (i := 0) (a := v_truth) (w := (dW eB)) rfl))) ts_no (ts_nw (a := ()) (wa (wa (wa wn))))))
def p_need_so_2 (v_truth : Bool) (v_word : Str) (v_at : (List Int)) : PM Unit := fnN (τ := Unit) (l := Unit) (
  (pIf (bNot (pure v_truth)) no (pure (Fl.nx ()))))
theorem t_need_so_2 (v_truth : Bool) (v_word : Str) (v_at : (List Int)) : TF r_need_so [(dW eB) v_truth, (dW eS) v_word, (dW (eT eI)) v_at] (p_need_so_2 v_truth v_word v_at) (.D (dW eN)) := by
  unfold r_need_so m_need_so p_need_so_2
  exact tf_N (τ := Unit) (l := Unit) (G := (fun _ => [none, none, none])) (L := fun _ => []) (sh := (.D (dW eN))) (Γ := [some (.w ((dW eB) v_truth)), some (.w ((dW eS) v_word)), some (.w ((dW (eT eI)) v_at))]) (we (we (we wn))) (
  (ts_if (tt_not (tt_b (te_rd (i := 0) (a := v_truth) (w := (dW eB)) rfl))) ts_no (ts_nw (a := ()) (wa (wa (wa wn))))))
def p_lets_roll (v_thing : (List (Str × Str × (List (List Str))))) : PM Int := fnR (τ := Unit) (l := Unit) (
  (sq ((((((pure v_thing) >>= fun a => ((pure ()) >>= fun a => (pure ()) >>= fun p => pure (a, p)) >>= fun p => pure (a, p)) >>= fun (p : (List (Str × Str × (List (List Str)))) × Unit × Unit) => p_are_all_1 p.1) >>= fun a => ((pure (PySem.Str.ofString "shape")) >>= fun a => (((pure (1 : Int)) >>= fun a => pure (-a)) >>= fun a => (pure ()) >>= fun p => pure (a, p)) >>= fun p => pure (a, p)) >>= fun p => pure (a, p)) >>= fun (p : Bool × Str × Int × Unit) => p_need_so_1 p.1 p.2.1 p.2.2.1) >>= fun a => pure (Fl.nx a)) fun (c1 : Unit) =>
  (sq (((pure v_thing) >>= fun xs => cp (fun (x3 : (Str × Str × (List (List Str)))) => (pure true)) (fun (x3 : (Str × Str × (List (List Str)))) => (pure x3.1)) xs) >>= fun a => pure (Fl.nx a)) fun (c2 : (List Str)) =>
  (sq (((pure v_thing) >>= fun xs => pure (enL xs)) >>= fun xs => forF (fun (i5 : (Int × (Str × Str × (List (List Str))))) (s6 : Unit) =>
  (sq ((((bOr ((pure i5.1) >>= fun a => (pure (0 : Int)) >>= fun b => pure (decide (a = b))) (((pure c2) >>= fun a => ((pure i5.1) >>= fun a => (pure (1 : Int)) >>= fun b => pure (a - b)) >>= fun b => op (L2.atI a b)) >>= fun a => (pure i5.2.1) >>= fun b => pure (W.dataLt (eS a) (eS b)))) >>= fun a => ((pure (PySem.Str.ofString "rise")) >>= fun a => ((pure i5.1) >>= fun a => (pure ()) >>= fun p => pure (a, p)) >>= fun p => pure (a, p)) >>= fun p => pure (a, p)) >>= fun (p : Bool × Str × Int × Unit) => p_need_so_1 p.1 p.2.1 p.2.2.1) >>= fun a => pure (Fl.nx a)) fun (c21 : Unit) =>
  (sq (((pure i5.2.2.2) >>= fun xs => pure (enL xs)) >>= fun xs => forF (fun (i23 : (Int × (List Str))) (s24 : Unit) =>
  (sq (((pure i23.2) >>= fun xs => pure (enL xs)) >>= fun xs => forF (fun (i31 : (Int × Str)) (s32 : Unit) =>
  (sq (((((pure i31.2) >>= fun a => (pure c2) >>= fun b => pure (decide (a ∈ b))) >>= fun a => ((pure (PySem.Str.ofString "needs")) >>= fun a => ((((pure i5.1) >>= fun a => ((pure i23.1) >>= fun a => ((pure i31.1) >>= fun a => (pure ()) >>= fun p => pure (a, p)) >>= fun p => pure (a, p)) >>= fun p => pure (a, p)) >>= fun p => pure ((fun (p : Int × Int × Int × Unit) => [p.1, p.2.1, p.2.2.1]) p)) >>= fun a => (pure ()) >>= fun p => pure (a, p)) >>= fun p => pure (a, p)) >>= fun p => pure (a, p)) >>= fun (p : Bool × Str × (List Int) × Unit) => p_need_so_2 p.1 p.2.1 p.2.2.1) >>= fun a => pure (Fl.nx a)) fun (c34 : Unit) => pure (Fl.nx ()))) xs ()) fun (c30 : Unit) => pure (Fl.nx ()))) xs ()) fun (c22 : Unit) => pure (Fl.nx ())))) xs ()) fun (c4 : Unit) =>
  (((pure v_thing) >>= fun a => pure ((a.length : Nat) : Int)) >>= fun b => pure (Fl.rt b))))))
theorem t_lets_roll (D : Ds K mg) (v_thing : (List (Str × Str × (List (List Str))))) : TF (r_lets_roll D) [(dW (eT (eP3 eS eS (eT (eT eS))))) v_thing] (p_lets_roll v_thing) (.D (dW eI)) := by
  unfold r_lets_roll m_lets_roll p_lets_roll
  exact tf_R (τ := Unit) (l := Unit) (G := (fun _ => [none, none, none, none, none, none, none, none, none, none])) (L := fun _ => []) (Γ := [some (.w ((dW (eT (eP3 eS eS (eT (eT eS))))) v_thing)), none, none, none, none, none, none, none, none, none]) (we (wa (wa (wa (wa (wa (wa (wa (wa (wa wn)))))))))) (
  (ts_seq (G := fun (c1 : Unit) => [some (.w ((dW (eT (eP3 eS eS (eT (eT eS))))) v_thing)), none, none, none, none, none, none, none, none, none]) (ts_ex (te_ca (fun (p : Bool × Str × Int × Unit) => p_need_so_1 p.1 p.2.1 p.2.2.1) (tw_cons (t1_d (te_ca (fun (p : (List (Str × Str × (List (List Str)))) × Unit × Unit) => p_are_all_1 p.1) (tw_cons (t1_d (te_rd (i := 0) (a := v_thing) (w := (dW (eT (eP3 eS eS (eT (eT eS)))))) rfl)) (tw_cons (t1_d (te_rw (v := .ref D.a_is_deed_row))) tw_nil)) (fun (p : (List (Str × Str × (List (List Str)))) × Unit × Unit) => t_are_all_1 D p.1))) (tw_cons (t1_d (te_kd (a := (PySem.Str.ofString "shape")) (e := eS))) (tw_cons (t1_d (te_neg (te_kd (a := (1 : Int)) (e := eI)))) tw_nil))) (fun (p : Bool × Str × Int × Unit) => t_need_so_1 p.1 p.2.1 p.2.2.1))) fun c1 =>
  (ts_seq (G := fun (c2 : (List Str)) => [some (.w ((dW (eT (eP3 eS eS (eT (eT eS))))) v_thing)), none, none, none, some (.ow ((oL eS) c2)), none, none, none, none, none]) (ts_as (s0 := (.F (oL eS))) (te_lc (e := (eP3 eS eS (eT (eT eS)))) (e' := eS) (fun (x3 : (Str × Str × (List (List Str)))) => [some (.w ((dW (eT (eP3 eS eS (eT (eT eS))))) v_thing)), some (.w ((dW eS) x3.1)), some (.w ((dW eS) x3.2.1)), some (.w ((dW (eT (eT eS))) x3.2.2)), none, none, none, none, none, none]) rfl (by decide) (fun _ => rfl) (ti_wk (e := (eP3 eS eS (eT (eT eS)))) (t1_d (te_rd (i := 0) (a := v_thing) (w := (dW (eT (eP3 eS eS (eT (eT eS)))))) rfl)) (fun _ => ⟨_, rfl, rfl⟩)) (fun x3 => tt_true) (fun x3 => (t1_d (te_rd (i := 1) (a := x3.1) (w := (dW eS)) rfl))) (fun _ => rfl)) rfl) fun c2 =>
  (ts_seq (G := fun (c4 : Unit) => [some (.w ((dW (eT (eP3 eS eS (eT (eT eS))))) v_thing)), none, none, none, some (.ow ((oL eS) c2)), none, none, none, none, none]) (ts_for (e := (eP2 eI (eP3 eS eS (eT (eT eS))))) (G := (fun (s6 : Unit) => [some (.w ((dW (eT (eP3 eS eS (eT (eT eS))))) v_thing)), none, none, none, some (.ow ((oL eS) c2)), none, none, none, none, none])) () (fun (i5 : (Int × (Str × Str × (List (List Str))))) (s6 : Unit) => [some (.w ((dW (eT (eP3 eS eS (eT (eT eS))))) v_thing)), some (.w ((dW eS) i5.2.1)), some (.w ((dW eS) i5.2.2.1)), some (.w ((dW (eT (eT eS))) i5.2.2.2)), some (.ow ((oL eS) c2)), some (.w ((dW eI) i5.1)), none, none, none, none]) (ti_en (e := (eP3 eS eS (eT (eT eS)))) (t1_d (te_rd (i := 0) (a := v_thing) (w := (dW (eT (eP3 eS eS (eT (eT eS)))))) rfl)) (fun _ => ⟨_, rfl, rfl⟩)) (we (wa (wa (wa (we (wa (wa (wa (wa (wa wn)))))))))) (fun _ _ => rfl) (fun i5 s6 =>
  (ts_seq (G := fun (c21 : Unit) => [some (.w ((dW (eT (eP3 eS eS (eT (eT eS))))) v_thing)), some (.w ((dW eS) i5.2.1)), some (.w ((dW eS) i5.2.2.1)), some (.w ((dW (eT (eT eS))) i5.2.2.2)), some (.ow ((oL eS) c2)), some (.w ((dW eI) i5.1)), none, none, none, none]) (ts_ex (te_ca (fun (p : Bool × Str × Int × Unit) => p_need_so_1 p.1 p.2.1 p.2.2.1) (tw_cons (t1_d (te_orB (te_eq (e := eI) (eqe_i) (by decide) (te_rd (i := 5) (a := i5.1) (w := (dW eI)) rfl) (te_kd (a := (0 : Int)) (e := eI)) dc_d dc_d) (te_lt (e := eS) (lte_s) (by decide) (te_ix (e := eS) (te_ro (i := 4) (a := c2) (o := (oL eS)) rfl) (te_sub (te_rd (i := 5) (a := i5.1) (w := (dW eI)) rfl) (te_kd (a := (1 : Int)) (e := eI))) (.inr fun _ => rfl)) (te_rd (i := 1) (a := i5.2.1) (w := (dW eS)) rfl) dc_d dc_d))) (tw_cons (t1_d (te_kd (a := (PySem.Str.ofString "rise")) (e := eS))) (tw_cons (t1_d (te_rd (i := 5) (a := i5.1) (w := (dW eI)) rfl)) tw_nil))) (fun (p : Bool × Str × Int × Unit) => t_need_so_1 p.1 p.2.1 p.2.2.1))) fun c21 =>
  (ts_end (G := fun (c22 : Unit) => [some (.w ((dW (eT (eP3 eS eS (eT (eT eS))))) v_thing)), some (.w ((dW eS) i5.2.1)), some (.w ((dW eS) i5.2.2.1)), some (.w ((dW (eT (eT eS))) i5.2.2.2)), some (.ow ((oL eS) c2)), some (.w ((dW eI) i5.1)), none, none, none, none]) (fun (c22 : Unit) => ()) (ts_for (e := (eP2 eI (eT eS))) (G := (fun (s24 : Unit) => [some (.w ((dW (eT (eP3 eS eS (eT (eT eS))))) v_thing)), some (.w ((dW eS) i5.2.1)), some (.w ((dW eS) i5.2.2.1)), some (.w ((dW (eT (eT eS))) i5.2.2.2)), some (.ow ((oL eS) c2)), some (.w ((dW eI) i5.1)), none, none, none, none])) () (fun (i23 : (Int × (List Str))) (s24 : Unit) => [some (.w ((dW (eT (eP3 eS eS (eT (eT eS))))) v_thing)), some (.w ((dW eS) i5.2.1)), some (.w ((dW eS) i5.2.2.1)), some (.w ((dW (eT (eT eS))) i5.2.2.2)), some (.ow ((oL eS) c2)), some (.w ((dW eI) i5.1)), some (.w ((dW eI) i23.1)), some (.w ((dW (eT eS)) i23.2)), none, none]) (ti_en (e := (eT eS)) (t1_d (te_rd (i := 3) (a := i5.2.2.2) (w := (dW (eT (eT eS)))) rfl)) (fun _ => ⟨_, rfl, rfl⟩)) (we (we (we (we (we (we (wa (wa (wa (wa wn)))))))))) (fun _ _ => rfl) (fun i23 s24 =>
  (ts_end (G := fun (c30 : Unit) => [some (.w ((dW (eT (eP3 eS eS (eT (eT eS))))) v_thing)), some (.w ((dW eS) i5.2.1)), some (.w ((dW eS) i5.2.2.1)), some (.w ((dW (eT (eT eS))) i5.2.2.2)), some (.ow ((oL eS) c2)), some (.w ((dW eI) i5.1)), some (.w ((dW eI) i23.1)), some (.w ((dW (eT eS)) i23.2)), none, none]) (fun (c30 : Unit) => ()) (ts_for (e := (eP2 eI eS)) (G := (fun (s32 : Unit) => [some (.w ((dW (eT (eP3 eS eS (eT (eT eS))))) v_thing)), some (.w ((dW eS) i5.2.1)), some (.w ((dW eS) i5.2.2.1)), some (.w ((dW (eT (eT eS))) i5.2.2.2)), some (.ow ((oL eS) c2)), some (.w ((dW eI) i5.1)), some (.w ((dW eI) i23.1)), some (.w ((dW (eT eS)) i23.2)), none, none])) () (fun (i31 : (Int × Str)) (s32 : Unit) => [some (.w ((dW (eT (eP3 eS eS (eT (eT eS))))) v_thing)), some (.w ((dW eS) i5.2.1)), some (.w ((dW eS) i5.2.2.1)), some (.w ((dW (eT (eT eS))) i5.2.2.2)), some (.ow ((oL eS) c2)), some (.w ((dW eI) i5.1)), some (.w ((dW eI) i23.1)), some (.w ((dW (eT eS)) i23.2)), some (.w ((dW eI) i31.1)), some (.w ((dW eS) i31.2))]) (ti_en (e := eS) (t1_d (te_rd (i := 7) (a := i23.2) (w := (dW (eT eS))) rfl)) (fun _ => ⟨_, rfl, rfl⟩)) (we (we (we (we (we (we (we (we (wa (wa wn)))))))))) (fun _ _ => rfl) (fun i31 s32 =>
  (ts_end (G := fun (c34 : Unit) => [some (.w ((dW (eT (eP3 eS eS (eT (eT eS))))) v_thing)), some (.w ((dW eS) i5.2.1)), some (.w ((dW eS) i5.2.2.1)), some (.w ((dW (eT (eT eS))) i5.2.2.2)), some (.ow ((oL eS) c2)), some (.w ((dW eI) i5.1)), some (.w ((dW eI) i23.1)), some (.w ((dW (eT eS)) i23.2)), some (.w ((dW eI) i31.1)), some (.w ((dW eS) i31.2))]) (fun (c34 : Unit) => ()) (ts_ex (te_ca (fun (p : Bool × Str × (List Int) × Unit) => p_need_so_2 p.1 p.2.1 p.2.2.1) (tw_cons (t1_d (te_in (e := eS) (eqe_s) (by decide) (te_rd (i := 9) (a := i31.2) (w := (dW eS)) rfl) (te_ro (i := 4) (a := c2) (o := (oL eS)) rfl) dc_d (.inr fun _ => rfl))) (tw_cons (t1_d (te_kd (a := (PySem.Str.ofString "needs")) (e := eS))) (tw_cons (t1_d (te_tup (e := (eT eI)) (fun (p : Int × Int × Int × Unit) => [p.1, p.2.1, p.2.2.1]) (tw_cons (t1_d (te_rd (i := 5) (a := i5.1) (w := (dW eI)) rfl)) (tw_cons (t1_d (te_rd (i := 6) (a := i23.1) (w := (dW eI)) rfl)) (tw_cons (t1_d (te_rd (i := 8) (a := i31.1) (w := (dW eI)) rfl)) tw_nil))) (fun _ => ⟨_, rfl, rfl, rfl⟩))) tw_nil))) (fun (p : Bool × Str × (List Int) × Unit) => t_need_so_2 p.1 p.2.1 p.2.2.1))) (fun c34 => (we (we (we (we (we (we (we (we (wa (wa wn)))))))))))))) (fun c30 => (we (we (we (we (we (we (wa (wa (wa (wa wn)))))))))))))) (fun c22 => (we (wa (wa (wa (we (wa (wa (wa (wa (wa wn))))))))))))))) fun c4 =>
  (ts_re (.D (dW eI)) (te_len (e := (eP3 eS eS (eT (eT eS)))) (te_rd (i := 0) (a := v_thing) (w := (dW (eT (eP3 eS eS (eT (eT eS)))))) rfl) (.inl fun _ => rfl)))))))
def p_law (v_script : (List Int)) : PM Bool := fnR (τ := Unit) (l := Unit) (
  (sq ((((pure v_script) >>= fun a => (pure ()) >>= fun p => pure (a, p)) >>= fun (p : (List Int) × Unit) => p__law_reader p.1) >>= fun a => shr (oR a) >>= fun n => pure (Fl.nx n)) fun (c1 : Nat) =>
  (sq ((((pure ()) >>= fun (p : Unit) => p__law_fixed_rolls ) >>= fun a => ((pure (1 : Int)) >>= fun i => pure (some i)) >>= fun x => (pure none) >>= fun y => pure (cutD a x y)) >>= fun a => pure (Fl.nx a)) fun (c2 : (List (List (Str × Str × (List (List Str)))))) =>
  (sq (((pure (5 : Int)) >>= fun n => gd (decide (-(2 ^ 62) ≤ n ∧ n < 2 ^ 62)) (rgL n)) >>= fun xs => forF (fun (i4 : Int) (s5 : (List (List (Str × Str × (List (List Str)))))) =>
  (sq ((((pure c1) >>= fun a => ((pure (10 : Int)) >>= fun a => (pure ()) >>= fun p => pure (a, p)) >>= fun p => pure (a, p)) >>= fun (p : Nat × Int × Unit) => p__law_random_roll p.1 p.2.1) >>= fun a => gd (decide ((s5).length < sizeLine)) a >>= fun a => pure (Fl.nx a)) fun (c7 : (List (Str × Str × (List (List Str))))) => pure (Fl.nx (s5 ++ [c7])))) xs c2) fun (c3 : (List (List (Str × Str × (List (List Str)))))) =>
  (sq (((pure ()) >>= fun (p : Unit) => p__law_wide_roll ) >>= fun a => gd (decide ((c3).length < sizeLine)) a >>= fun a => pure (Fl.nx a)) fun (c8 : (List (Str × Str × (List (List Str))))) =>
  (sq (pure (Fl.nx ())) fun (c9 : Unit) =>
  (sq (pure (Fl.nx ())) fun (c10 : Unit) =>
  (sq (pure (Fl.nx ())) fun (c11 : Unit) =>
  (sq ((pure (c3 ++ [c8])) >>= fun xs => forF (fun (i13 : (List (Str × Str × (List (List Str))))) (s14 : Unit) =>
  (sq (((((((pure i13) >>= fun a => (pure ()) >>= fun p => pure (a, p)) >>= fun (p : (List (Str × Str × (List (List Str)))) × Unit) => p__law_deed_names p.1) >>= fun a => (pure ()) >>= fun p => pure (a, p)) >>= fun p => pure ((fun (p : (List Str) × Unit) => [p.1]) p)) >>= fun a => (((pure (3 : Int)) >>= fun n => gd (decide (-(2 ^ 62) ≤ n ∧ n < 2 ^ 62)) (rgL n)) >>= fun xs => cp (fun (x37 : Int) => (pure true)) (fun (x37 : Int) => (((pure c1) >>= fun a => ((pure i13) >>= fun a => (pure ()) >>= fun p => pure (a, p)) >>= fun p => pure (a, p)) >>= fun (p : Nat × (List (Str × Str × (List (List Str)))) × Unit) => p__law_random_subset p.1 p.2.1)) xs) >>= fun b => gd (size (a.length + b.length)) (a ++ b)) >>= fun a => pure (Fl.nx a)) fun (c36 : (List (List Str))) =>
  (sq (((pure (4 : Int)) >>= fun n => gd (decide (-(2 ^ 62) ≤ n ∧ n < 2 ^ 62)) (rgL n)) >>= fun xs => forF (fun (i39 : Int) (s40 : Unit) =>
  (pIf (bOr (bNot (((pure c1) >>= fun a => ((pure i13) >>= fun a => (((pure c36) >>= fun a => (pure i39) >>= fun b => op (L2.atI a b)) >>= fun a => (pure ()) >>= fun p => pure (a, p)) >>= fun p => pure (a, p)) >>= fun p => pure (a, p)) >>= fun (p : Nat × (List (Str × Str × (List (List Str)))) × (List Str) × Unit) => p__law_check_heart p.1 p.2.1 p.2.2.1)) (bNot (((pure i13) >>= fun a => (((pure c36) >>= fun a => (pure i39) >>= fun b => op (L2.atI a b)) >>= fun a => (((pure c36) >>= fun a => ((pure i39) >>= fun a => (pure (1 : Int)) >>= fun b => pure (a - b)) >>= fun b => op (L2.atI a b)) >>= fun a => (pure ()) >>= fun p => pure (a, p)) >>= fun p => pure (a, p)) >>= fun p => pure (a, p)) >>= fun (p : (List (Str × Str × (List (List Str)))) × (List Str) × (List Str) × Unit) => p__law_check_pair p.1 p.2.1 p.2.2.1))) ((pure false) >>= fun b => pure (Fl.rt b)) (pure (Fl.nx ())))) xs ()) fun (c38 : Unit) =>
  (sq (pure (Fl.nx ())) fun (c41 : Unit) =>
  (sq (pure (Fl.nx ())) fun (c42 : Unit) =>
  (pIf ((pure i13) >>= fun a => ((pure ()) >>= fun p => pure ((fun (_ : Unit) => ([] : (List (Str × Str × (List (List Str)))))) p)) >>= fun b => pure (!decide (a = b))) (sq ((((pure c1) >>= fun a => ((pure i13) >>= fun a => (pure ()) >>= fun p => pure (a, p)) >>= fun p => pure (a, p)) >>= fun (p : Nat × (List (Str × Str × (List (List Str)))) × Unit) => p__law_relax p.1 p.2.1) >>= fun a => pure (Fl.nx a)) fun (c43 : (List (Str × Str × (List (List Str))))) =>
  (sq (pure (Fl.nx ())) fun (c44 : Unit) =>
  (sq (pIf ((((pure c43) >>= fun a => (pure ()) >>= fun p => pure (a, p)) >>= fun (p : (List (Str × Str × (List (List Str)))) × Unit) => p_lets_roll p.1) >>= fun a => ((pure i13) >>= fun a => pure ((a.length : Nat) : Int)) >>= fun b => pure (!decide (a = b))) ((pure false) >>= fun b => pure (Fl.rt b)) (pure (Fl.nx ()))) fun (c45 : Unit) =>
  (sq (pure (Fl.nx ())) fun (c46 : Unit) =>
  (sq (pure (Fl.nx ())) fun (c47 : Unit) =>
  (sq ((pure c36) >>= fun xs => forF (fun (i49 : (List Str)) (s50 : Unit) =>
  (sq (pure (Fl.nx ())) fun (c54 : Unit) =>
  (sq ((((pure c43) >>= fun a => ((pure i49) >>= fun a => (pure ()) >>= fun p => pure (a, p)) >>= fun p => pure (a, p)) >>= fun (p : (List (Str × Str × (List (List Str)))) × (List Str) × Unit) => p_heart_of p.1 p.2.1) >>= fun a => pure (Fl.nx a)) fun (c55 : (List Str)) =>
  (pIf (((((pure i13) >>= fun a => ((pure i49) >>= fun a => (pure ()) >>= fun p => pure (a, p)) >>= fun p => pure (a, p)) >>= fun (p : (List (Str × Str × (List (List Str)))) × (List Str) × Unit) => p_heart_of p.1 p.2.1) >>= fun xs => cp (fun (x56 : Str) => ((pure x56) >>= fun a => (pure c55) >>= fun b => pure (!decide (a ∈ b)))) (fun (x56 : Str) => (pure x56)) xs) >>= fun a => ((pure ()) >>= fun p => pure ((fun (_ : Unit) => ([] : (List Str))) p)) >>= fun b => pure (!decide (a = b))) ((pure false) >>= fun b => pure (Fl.rt b)) (pure (Fl.nx ())))))) xs ()) fun (c48 : Unit) => pure (Fl.nx ()))))))) (pure (Fl.nx ())))))))) xs ()) fun (c12 : Unit) =>
  ((pure true) >>= fun b => pure (Fl.rt b)))))))))))
theorem t_law (D : Ds K mg) (v_script : (List Int)) : TF (r_law D) [roI v_script] (p_law v_script) (.D (dW eB)) := by
  unfold r_law m_law p_law
  exact tf_R (τ := Unit) (l := Unit) (G := (fun _ => [none, none, none, none, none, none, none, none, none, none])) (L := fun _ => []) (Γ := [some (.w (roI v_script)), none, none, none, none, none, none, none, none, none]) (we (wa (wa (wa (wa (wa (wa (wa (wa (wa wn)))))))))) (
  (ts_seq (G := fun (c1 : Nat) => [some (.w (roI v_script)), some (.w (Wv.obj c1)), none, none, none, none, none, none, none, none]) (ts_sh (te_ca (fun (p : (List Int) × Unit) => p__law_reader p.1) (tw_cons (t1_d (te_rd (i := 0) (a := v_script) (w := roI) rfl)) tw_nil) (fun (p : (List Int) × Unit) => t__law_reader p.1))) fun c1 =>
  (ts_seq (G := fun (c2 : (List (List (Str × Str × (List (List Str)))))) => [some (.w (roI v_script)), some (.w (Wv.obj c1)), some (.ow ((oL (eT (eP3 eS eS (eT (eT eS))))) c2)), none, none, none, none, none, none, none]) (ts_as (s0 := (.F (oL (eT (eP3 eS eS (eT (eT eS))))))) (te_slL (e := (eT (eP3 eS eS (eT (eT eS))))) (te_ca (fun (p : Unit) => p__law_fixed_rolls ) tw_nil (fun (p : Unit) => t__law_fixed_rolls )) (to_s (te_kd (a := (1 : Int)) (e := eI))) to_n (fun _ => rfl)) rfl) fun c2 =>
  (ts_seq (G := fun (c3 : (List (List (Str × Str × (List (List Str)))))) => [some (.w (roI v_script)), some (.w (Wv.obj c1)), some (.ow ((oL (eT (eP3 eS eS (eT (eT eS))))) c3)), none, none, none, none, none, none, none]) (ts_for (e := eI) (G := (fun (s5 : (List (List (Str × Str × (List (List Str)))))) => [some (.w (roI v_script)), some (.w (Wv.obj c1)), some (.ow ((oL (eT (eP3 eS eS (eT (eT eS))))) s5)), none, none, none, none, none, none, none])) c2 (fun (i4 : Int) (s5 : (List (List (Str × Str × (List (List Str)))))) => [some (.w (roI v_script)), some (.w (Wv.obj c1)), some (.ow ((oL (eT (eP3 eS eS (eT (eT eS))))) s5)), some (.w ((dW eI) i4)), none, none, none, none, none, none]) (ti_rg (te_kd (a := (5 : Int)) (e := eI))) (we (we (we (wa (wa (wa (wa (wa (wa (wa wn)))))))))) (fun _ _ => rfl) (fun i4 s5 =>
  (ts_end (G := fun (c7 : (List (Str × Str × (List (List Str))))) => [some (.w (roI v_script)), some (.w (Wv.obj c1)), some (.ow ((oL (eT (eP3 eS eS (eT (eT eS))))) (s5 ++ [c7]))), some (.w ((dW eI) i4)), none, none, none, none, none, none]) (fun (c7 : (List (Str × Str × (List (List Str))))) => (s5 ++ [c7])) (ts_app (e := (eT (eP3 eS eS (eT (eT eS))))) (xs := s5) (fun a => a) rfl (tx_of (e := (eT (eP3 eS eS (eT (eT eS))))) (t1_d (te_ca (fun (p : Nat × Int × Unit) => p__law_random_roll p.1 p.2.1) (tw_cons (t1_d (te_rd (i := 1) (a := c1) (w := Wv.obj) rfl)) (tw_cons (t1_d (te_kd (a := (10 : Int)) (e := eI))) tw_nil)) (fun (p : Nat × Int × Unit) => t__law_random_roll p.1 p.2.1))) (fun _ => rfl)) (fun _ => rfl) (fun _ => rfl)) (fun c7 => (we (we (we (wa (wa (wa (wa (wa (wa (wa wn)))))))))))))) fun c3 =>
  (ts_seq (G := fun (c8 : (List (Str × Str × (List (List Str))))) => [some (.w (roI v_script)), some (.w (Wv.obj c1)), some (.ow ((oL (eT (eP3 eS eS (eT (eT eS))))) (c3 ++ [c8]))), none, none, none, none, none, none, none]) (ts_app (e := (eT (eP3 eS eS (eT (eT eS))))) (xs := c3) (fun a => a) rfl (tx_of (e := (eT (eP3 eS eS (eT (eT eS))))) (t1_d (te_ca (fun (p : Unit) => p__law_wide_roll ) tw_nil (fun (p : Unit) => t__law_wide_roll ))) (fun _ => rfl)) (fun _ => rfl) (fun _ => rfl)) fun c8 =>
  (ts_seq (G := fun (c9 : Unit) => [some (.w (roI v_script)), some (.w (Wv.obj c1)), some (.w ((dW (eL (eT (eP3 eS eS (eT (eT eS)))))) (c3 ++ [c8]))), none, none, none, none, none, none, none]) (ts_fr1 (i := 2) (o := (oL (eT (eP3 eS eS (eT (eT eS))))) (c3 ++ [c8])) rfl) fun c9 =>
  (ts_seq (G := fun (c10 : Unit) => [some (.w (roI v_script)), some (.w (Wv.obj c1)), some (.w ((dW (eL (eT (eP3 eS eS (eT (eT eS)))))) (c3 ++ [c8]))), none, none, none, none, none, none, none]) (ts_frn (i := 6) rfl) fun c10 =>
  (ts_seq (G := fun (c11 : Unit) => [some (.w (roI v_script)), some (.w (Wv.obj c1)), some (.w ((dW (eL (eT (eP3 eS eS (eT (eT eS)))))) (c3 ++ [c8]))), none, none, none, none, none, none, none]) (ts_frn (i := 5) rfl) fun c11 =>
  (ts_seq (G := fun (c12 : Unit) => [some (.w (roI v_script)), some (.w (Wv.obj c1)), some (.w ((dW (eL (eT (eP3 eS eS (eT (eT eS)))))) (c3 ++ [c8]))), none, none, none, none, none, none, none]) (ts_for (e := (eT (eP3 eS eS (eT (eT eS))))) (G := (fun (s14 : Unit) => [some (.w (roI v_script)), some (.w (Wv.obj c1)), some (.w ((dW (eL (eT (eP3 eS eS (eT (eT eS)))))) (c3 ++ [c8]))), none, none, none, none, none, none, none])) () (fun (i13 : (List (Str × Str × (List (List Str))))) (s14 : Unit) => [some (.w (roI v_script)), some (.w (Wv.obj c1)), some (.w ((dW (eL (eT (eP3 eS eS (eT (eT eS)))))) (c3 ++ [c8]))), none, some (.w ((dW (eT (eP3 eS eS (eT (eT eS))))) i13)), none, none, none, none, none]) (ti_wk (e := (eT (eP3 eS eS (eT (eT eS))))) (t1_d (te_rd (i := 2) (a := (c3 ++ [c8])) (w := (dW (eL (eT (eP3 eS eS (eT (eT eS))))))) rfl)) (fun _ => ⟨_, rfl, rfl⟩)) (we (we (we (wa (wa (wa (wa (wa (wa (wa wn)))))))))) (fun _ _ => rfl) (fun i13 s14 =>
  (ts_seq (G := fun (c36 : (List (List Str))) => [some (.w (roI v_script)), some (.w (Wv.obj c1)), some (.w ((dW (eL (eT (eP3 eS eS (eT (eT eS)))))) (c3 ++ [c8]))), none, some (.w ((dW (eT (eP3 eS eS (eT (eT eS))))) i13)), some (.ow ((oL (eT eS)) c36)), none, none, none, none]) (ts_as (s0 := (.F (oL (eT eS)))) (te_addL (e := (eT eS)) (te_lst (e := (eT eS)) (fun (p : (List Str) × Unit) => [p.1]) (tw_cons (t1_d (te_tupQ (e := eS) (te_ca (fun (p : (List (Str × Str × (List (List Str)))) × Unit) => p__law_deed_names p.1) (tw_cons (t1_d (te_rd (i := 4) (a := i13) (w := (dW (eT (eP3 eS eS (eT (eT eS)))))) rfl)) tw_nil) (fun (p : (List (Str × Str × (List (List Str)))) × Unit) => t__law_deed_names p.1)) (.inr fun _ => rfl))) tw_nil) (fun _ => ⟨rfl, rfl⟩)) (te_lc (e := eI) (e' := (eT eS)) (fun (x37 : Int) => [some (.w (roI v_script)), some (.w (Wv.obj c1)), some (.w ((dW (eL (eT (eP3 eS eS (eT (eT eS)))))) (c3 ++ [c8]))), some (.w ((dW eI) x37)), some (.w ((dW (eT (eP3 eS eS (eT (eT eS))))) i13)), none, none, none, none, none]) rfl (by decide) (fun _ => rfl) (ti_rg (te_kd (a := (3 : Int)) (e := eI))) (fun x37 => tt_true) (fun x37 => (t1_d (te_ca (fun (p : Nat × (List (Str × Str × (List (List Str)))) × Unit) => p__law_random_subset p.1 p.2.1) (tw_cons (t1_d (te_rd (i := 1) (a := c1) (w := Wv.obj) rfl)) (tw_cons (t1_d (te_rd (i := 4) (a := i13) (w := (dW (eT (eP3 eS eS (eT (eT eS)))))) rfl)) tw_nil)) (fun (p : Nat × (List (Str × Str × (List (List Str)))) × Unit) => t__law_random_subset p.1 p.2.1)))) (fun _ => rfl)) (fun _ => rfl) (fun _ => rfl)) rfl) fun c36 =>
  (ts_seq (G := fun (c38 : Unit) => [some (.w (roI v_script)), some (.w (Wv.obj c1)), some (.w ((dW (eL (eT (eP3 eS eS (eT (eT eS)))))) (c3 ++ [c8]))), none, some (.w ((dW (eT (eP3 eS eS (eT (eT eS))))) i13)), some (.ow ((oL (eT eS)) c36)), none, none, none, none]) (ts_for (e := eI) (G := (fun (s40 : Unit) => [some (.w (roI v_script)), some (.w (Wv.obj c1)), some (.w ((dW (eL (eT (eP3 eS eS (eT (eT eS)))))) (c3 ++ [c8]))), none, some (.w ((dW (eT (eP3 eS eS (eT (eT eS))))) i13)), some (.ow ((oL (eT eS)) c36)), none, none, none, none])) () (fun (i39 : Int) (s40 : Unit) => [some (.w (roI v_script)), some (.w (Wv.obj c1)), some (.w ((dW (eL (eT (eP3 eS eS (eT (eT eS)))))) (c3 ++ [c8]))), some (.w ((dW eI) i39)), some (.w ((dW (eT (eP3 eS eS (eT (eT eS))))) i13)), some (.ow ((oL (eT eS)) c36)), none, none, none, none]) (ti_rg (te_kd (a := (4 : Int)) (e := eI))) (we (we (we (wa (we (we (wa (wa (wa (wa wn)))))))))) (fun _ _ => rfl) (fun i39 s40 =>
  (ts_if (tt_or (tt_not (tt_b (te_ca (fun (p : Nat × (List (Str × Str × (List (List Str)))) × (List Str) × Unit) => p__law_check_heart p.1 p.2.1 p.2.2.1) (tw_cons (t1_d (te_rd (i := 1) (a := c1) (w := Wv.obj) rfl)) (tw_cons (t1_d (te_rd (i := 4) (a := i13) (w := (dW (eT (eP3 eS eS (eT (eT eS)))))) rfl)) (tw_cons (t1_d (te_ix (e := (eT eS)) (te_ro (i := 5) (a := c36) (o := (oL (eT eS))) rfl) (te_rd (i := 3) (a := i39) (w := (dW eI)) rfl) (.inr fun _ => rfl))) tw_nil))) (fun (p : Nat × (List (Str × Str × (List (List Str)))) × (List Str) × Unit) => t__law_check_heart p.1 p.2.1 p.2.2.1)))) (tt_not (tt_b (te_ca (fun (p : (List (Str × Str × (List (List Str)))) × (List Str) × (List Str) × Unit) => p__law_check_pair p.1 p.2.1 p.2.2.1) (tw_cons (t1_d (te_rd (i := 4) (a := i13) (w := (dW (eT (eP3 eS eS (eT (eT eS)))))) rfl)) (tw_cons (t1_d (te_ix (e := (eT eS)) (te_ro (i := 5) (a := c36) (o := (oL (eT eS))) rfl) (te_rd (i := 3) (a := i39) (w := (dW eI)) rfl) (.inr fun _ => rfl))) (tw_cons (t1_d (te_ix (e := (eT eS)) (te_ro (i := 5) (a := c36) (o := (oL (eT eS))) rfl) (te_sub (te_rd (i := 3) (a := i39) (w := (dW eI)) rfl) (te_kd (a := (1 : Int)) (e := eI))) (.inr fun _ => rfl))) tw_nil))) (fun (p : (List (Str × Str × (List (List Str)))) × (List Str) × (List Str) × Unit) => t__law_check_pair p.1 p.2.1 p.2.2.1))))) (ts_re (.D (dW eB)) (te_kd (a := false) (e := eB))) (ts_nw (a := ()) (we (we (we (wa (we (we (wa (wa (wa (wa wn)))))))))))))) fun c38 =>
  (ts_seq (G := fun (c41 : Unit) => [some (.w (roI v_script)), some (.w (Wv.obj c1)), some (.w ((dW (eL (eT (eP3 eS eS (eT (eT eS)))))) (c3 ++ [c8]))), none, some (.w ((dW (eT (eP3 eS eS (eT (eT eS))))) i13)), some (.ow ((oL (eT eS)) c36)), none, none, none, none]) (ts_frn (i := 6) rfl) fun c41 =>
  (ts_seq (G := fun (c42 : Unit) => [some (.w (roI v_script)), some (.w (Wv.obj c1)), some (.w ((dW (eL (eT (eP3 eS eS (eT (eT eS)))))) (c3 ++ [c8]))), none, some (.w ((dW (eT (eP3 eS eS (eT (eT eS))))) i13)), some (.w ((dW (eL (eT eS))) c36)), none, none, none, none]) (ts_fr1 (i := 5) (o := (oL (eT eS)) c36) rfl) fun c42 =>
  (ts_if (tt_b (te_ne (e := (eT (eP3 eS eS (eT (eT eS))))) (((EqE.p3 (eqe_s) (eqe_s) (((eqe_s).tup).tup))).tup) (by decide) (te_rd (i := 4) (a := i13) (w := (dW (eT (eP3 eS eS (eT (eT eS)))))) rfl) (te_tup (e := (eT (eP3 eS eS (eT (eT eS))))) (fun (_ : Unit) => ([] : (List (Str × Str × (List (List Str)))))) tw_nil (fun _ => ⟨_, rfl, rfl, rfl⟩)) dc_d dc_d)) (ts_seq (G := fun (c43 : (List (Str × Str × (List (List Str))))) => [some (.w (roI v_script)), some (.w (Wv.obj c1)), some (.w ((dW (eL (eT (eP3 eS eS (eT (eT eS)))))) (c3 ++ [c8]))), none, some (.w ((dW (eT (eP3 eS eS (eT (eT eS))))) i13)), some (.w ((dW (eL (eT eS))) c36)), some (.w ((dW (eT (eP3 eS eS (eT (eT eS))))) c43)), none, none, none]) (ts_as (s0 := (.D (dW (eT (eP3 eS eS (eT (eT eS))))))) (te_ca (fun (p : Nat × (List (Str × Str × (List (List Str)))) × Unit) => p__law_relax p.1 p.2.1) (tw_cons (t1_d (te_rd (i := 1) (a := c1) (w := Wv.obj) rfl)) (tw_cons (t1_d (te_rd (i := 4) (a := i13) (w := (dW (eT (eP3 eS eS (eT (eT eS)))))) rfl)) tw_nil)) (fun (p : Nat × (List (Str × Str × (List (List Str)))) × Unit) => t__law_relax p.1 p.2.1)) rfl) fun c43 =>
  (ts_seq (G := fun (c44 : Unit) => [some (.w (roI v_script)), some (.w (Wv.obj c1)), some (.w ((dW (eL (eT (eP3 eS eS (eT (eT eS)))))) (c3 ++ [c8]))), none, some (.w ((dW (eT (eP3 eS eS (eT (eT eS))))) i13)), some (.w ((dW (eL (eT eS))) c36)), some (.w ((dW (eT (eP3 eS eS (eT (eT eS))))) c43)), none, none, none]) (ts_fr0 (i := 6) (w := (dW (eT (eP3 eS eS (eT (eT eS))))) c43) rfl) fun c44 =>
  (ts_seq (G := fun (c45 : Unit) => [some (.w (roI v_script)), some (.w (Wv.obj c1)), some (.w ((dW (eL (eT (eP3 eS eS (eT (eT eS)))))) (c3 ++ [c8]))), none, some (.w ((dW (eT (eP3 eS eS (eT (eT eS))))) i13)), some (.w ((dW (eL (eT eS))) c36)), some (.w ((dW (eT (eP3 eS eS (eT (eT eS))))) c43)), none, none, none]) (ts_if (G := (fun (c45 : Unit) => [some (.w (roI v_script)), some (.w (Wv.obj c1)), some (.w ((dW (eL (eT (eP3 eS eS (eT (eT eS)))))) (c3 ++ [c8]))), none, some (.w ((dW (eT (eP3 eS eS (eT (eT eS))))) i13)), some (.w ((dW (eL (eT eS))) c36)), some (.w ((dW (eT (eP3 eS eS (eT (eT eS))))) c43)), none, none, none])) (tt_b (te_ne (e := eI) (eqe_i) (by decide) (te_ca (fun (p : (List (Str × Str × (List (List Str)))) × Unit) => p_lets_roll p.1) (tw_cons (t1_d (te_rd (i := 6) (a := c43) (w := (dW (eT (eP3 eS eS (eT (eT eS)))))) rfl)) tw_nil) (fun (p : (List (Str × Str × (List (List Str)))) × Unit) => t_lets_roll D p.1)) (te_len (e := (eP3 eS eS (eT (eT eS)))) (te_rd (i := 4) (a := i13) (w := (dW (eT (eP3 eS eS (eT (eT eS)))))) rfl) (.inl fun _ => rfl)) dc_d dc_d)) (ts_re (.D (dW eB)) (te_kd (a := false) (e := eB))) (ts_nw (a := ()) (we (we (we (wa (we (we (we (wa (wa (wa wn)))))))))))) fun c45 =>
  (ts_seq (G := fun (c46 : Unit) => [some (.w (roI v_script)), some (.w (Wv.obj c1)), some (.w ((dW (eL (eT (eP3 eS eS (eT (eT eS)))))) (c3 ++ [c8]))), none, some (.w ((dW (eT (eP3 eS eS (eT (eT eS))))) i13)), some (.w ((dW (eL (eT eS))) c36)), some (.w ((dW (eT (eP3 eS eS (eT (eT eS))))) c43)), none, none, none]) (ts_fr0 (i := 5) (w := (dW (eL (eT eS))) c36) rfl) fun c46 =>
  (ts_seq (G := fun (c47 : Unit) => [some (.w (roI v_script)), some (.w (Wv.obj c1)), some (.w ((dW (eL (eT (eP3 eS eS (eT (eT eS)))))) (c3 ++ [c8]))), none, some (.w ((dW (eT (eP3 eS eS (eT (eT eS))))) i13)), some (.w ((dW (eL (eT eS))) c36)), some (.w ((dW (eT (eP3 eS eS (eT (eT eS))))) c43)), none, none, none]) (ts_fr0 (i := 6) (w := (dW (eT (eP3 eS eS (eT (eT eS))))) c43) rfl) fun c47 =>
  (ts_end (G := fun (c48 : Unit) => [some (.w (roI v_script)), some (.w (Wv.obj c1)), some (.w ((dW (eL (eT (eP3 eS eS (eT (eT eS)))))) (c3 ++ [c8]))), none, some (.w ((dW (eT (eP3 eS eS (eT (eT eS))))) i13)), some (.w ((dW (eL (eT eS))) c36)), some (.w ((dW (eT (eP3 eS eS (eT (eT eS))))) c43)), none, none, none]) (fun (c48 : Unit) => ()) (ts_for (e := (eT eS)) (G := (fun (s50 : Unit) => [some (.w (roI v_script)), some (.w (Wv.obj c1)), some (.w ((dW (eL (eT (eP3 eS eS (eT (eT eS)))))) (c3 ++ [c8]))), none, some (.w ((dW (eT (eP3 eS eS (eT (eT eS))))) i13)), some (.w ((dW (eL (eT eS))) c36)), some (.w ((dW (eT (eP3 eS eS (eT (eT eS))))) c43)), none, none, none])) () (fun (i49 : (List Str)) (s50 : Unit) => [some (.w (roI v_script)), some (.w (Wv.obj c1)), some (.w ((dW (eL (eT (eP3 eS eS (eT (eT eS)))))) (c3 ++ [c8]))), none, some (.w ((dW (eT (eP3 eS eS (eT (eT eS))))) i13)), some (.w ((dW (eL (eT eS))) c36)), some (.w ((dW (eT (eP3 eS eS (eT (eT eS))))) c43)), some (.w ((dW (eT eS)) i49)), none, none]) (ti_wk (e := (eT eS)) (t1_d (te_rd (i := 5) (a := c36) (w := (dW (eL (eT eS)))) rfl)) (fun _ => ⟨_, rfl, rfl⟩)) (we (we (we (wa (we (we (we (wa (wa (wa wn)))))))))) (fun _ _ => rfl) (fun i49 s50 =>
  (ts_seq (G := fun (c54 : Unit) => [some (.w (roI v_script)), some (.w (Wv.obj c1)), some (.w ((dW (eL (eT (eP3 eS eS (eT (eT eS)))))) (c3 ++ [c8]))), none, some (.w ((dW (eT (eP3 eS eS (eT (eT eS))))) i13)), some (.w ((dW (eL (eT eS))) c36)), some (.w ((dW (eT (eP3 eS eS (eT (eT eS))))) c43)), some (.w ((dW (eT eS)) i49)), none, none]) (ts_fr0 (i := 6) (w := (dW (eT (eP3 eS eS (eT (eT eS))))) c43) rfl) fun c54 =>
  (ts_seq (G := fun (c55 : (List Str)) => [some (.w (roI v_script)), some (.w (Wv.obj c1)), some (.w ((dW (eL (eT (eP3 eS eS (eT (eT eS)))))) (c3 ++ [c8]))), none, some (.w ((dW (eT (eP3 eS eS (eT (eT eS))))) i13)), some (.w ((dW (eL (eT eS))) c36)), some (.w ((dW (eT (eP3 eS eS (eT (eT eS))))) c43)), some (.w ((dW (eT eS)) i49)), some (.w ((dW (eT eS)) c55)), none]) (ts_as (s0 := (.D (dW (eT eS)))) (te_ca (fun (p : (List (Str × Str × (List (List Str)))) × (List Str) × Unit) => p_heart_of p.1 p.2.1) (tw_cons (t1_d (te_rd (i := 6) (a := c43) (w := (dW (eT (eP3 eS eS (eT (eT eS)))))) rfl)) (tw_cons (t1_d (te_rd (i := 7) (a := i49) (w := (dW (eT eS))) rfl)) tw_nil)) (fun (p : (List (Str × Str × (List (List Str)))) × (List Str) × Unit) => t_heart_of p.1 p.2.1)) rfl) fun c55 =>
  (ts_if (tt_b (te_ne (e := (eL eS)) ((eqe_s).lst) (by decide) (te_lc (e := eS) (e' := eS) (fun (x56 : Str) => [some (.w (roI v_script)), some (.w (Wv.obj c1)), some (.w ((dW (eL (eT (eP3 eS eS (eT (eT eS)))))) (c3 ++ [c8]))), none, some (.w ((dW (eT (eP3 eS eS (eT (eT eS))))) i13)), some (.w ((dW (eL (eT eS))) c36)), some (.w ((dW (eT (eP3 eS eS (eT (eT eS))))) c43)), some (.w ((dW (eT eS)) i49)), some (.w ((dW (eT eS)) c55)), some (.w ((dW eS) x56))]) rfl (by decide) (fun _ => rfl) (ti_wk (e := eS) (t1_d (te_ca (fun (p : (List (Str × Str × (List (List Str)))) × (List Str) × Unit) => p_heart_of p.1 p.2.1) (tw_cons (t1_d (te_rd (i := 4) (a := i13) (w := (dW (eT (eP3 eS eS (eT (eT eS)))))) rfl)) (tw_cons (t1_d (te_rd (i := 7) (a := i49) (w := (dW (eT eS))) rfl)) tw_nil)) (fun (p : (List (Str × Str × (List (List Str)))) × (List Str) × Unit) => t_heart_of p.1 p.2.1))) (fun _ => ⟨_, rfl, rfl⟩)) (fun x56 => (tt_b (te_nin (e := eS) (eqe_s) (by decide) (te_rd (i := 9) (a := x56) (w := (dW eS)) rfl) (te_rd (i := 8) (a := c55) (w := (dW (eT eS))) rfl) dc_d (.inl fun _ => rfl)))) (fun x56 => (t1_d (te_rd (i := 9) (a := x56) (w := (dW eS)) rfl))) (fun _ => rfl)) (te_lst (e := eS) (fun (_ : Unit) => ([] : (List Str))) tw_nil (fun _ => ⟨rfl, rfl⟩)) dc_f dc_f)) (ts_re (.D (dW eB)) (te_kd (a := false) (e := eB))) (ts_nw (a := ()) (we (we (we (wa (we (we (we (wa (wa (wa wn)))))))))))))))) (fun c48 => (we (we (we (wa (wa (wa (wa (wa (wa (wa wn))))))))))))))))) (ts_nw (a := ()) (we (we (we (wa (wa (wa (wa (wa (wa (wa wn)))))))))))))))))) fun c12 =>
  (ts_re (.D (dW eB)) (te_kd (a := true) (e := eB))))))))))))
end
end Lw
set_option Elab.async false
set_option linter.all false
set_option maxRecDepth 100000
namespace Lw
open PySem Mi Tz
theorem seq_nx {m1 m2 : M Out} {r r' : Rho} {s s' : Sto} (h : m1 r s = .ok .nx r' s') : seqM m1 m2 r s = m2 r' s' := by
  unfold seqM
  rw [b_ok h]
theorem seq_rt {m1 m2 : M Out} {r r' : Rho} {s s' : Sto} {v : Rv} (h : m1 r s = .ok (.rt v) r' s') : seqM m1 m2 r s = .ok (.rt v) r' s' := by
  unfold seqM
  rw [b_ok h]
  rfl
theorem if_t {c : M Bool} {a b : M Out} {r r' : Rho} {s s' : Sto} (h : c r s = .ok true r' s') : ifS c a b r s = a r' s' := by
  unfold ifS
  rw [b_ok h]
  rfl
theorem if_f {c : M Bool} {a b : M Out} {r r' : Rho} {s s' : Sto} (h : c r s = .ok false r' s') : ifS c a b r s = b r' s' := by
  unfold ifS
  rw [b_ok h]
  rfl
theorem draw1 (many : Int) (cs : List Int) (sp re c : Int) : asM 2 (gM (gBin .add) [(gM gIx [(rd 0), (kd (.str (PySem.Str.ofString "calls")))]), (kd (.int (1)))]) [.w (.obj 0), .w (.d (.int many)), .un, .un, .un, .un, .un, .un] [rdO cs sp re c]
    = .ok .nx [.w (.obj 0), .w (.d (.int many)), .w (.d (.int (c + 1))), .un, .un, .un, .un, .un] [rdO cs sp re c] := by rfl
theorem draw2 (many : Int) (cs : List Int) (sp re c : Int) : dpM (rd 2) (rd 0) (kd (.str (PySem.Str.ofString "calls"))) [.w (.obj 0), .w (.d (.int many)), .w (.d (.int (c + 1))), .un, .un, .un, .un, .un] [rdO cs sp re c]
    = .ok .nx [.w (.obj 0), .w (.d (.int many)), .w (.d (.int (c + 1))), .un, .un, .un, .un, .un] [rdO cs sp re (c + 1)] := by rfl
theorem draw3 (many : Int) (cs : List Int) (sp re c : Int) : (truM (gM (gCmp .gt) [(gM gIx [(rd 0), (kd (.str (PySem.Str.ofString "rest")))]), (kd (.int (0)))])) [.w (.obj 0), .w (.d (.int many)), .w (.d (.int c)), .un, .un, .un, .un, .un] [rdO cs sp re c]
    = .ok (decide (0 < re)) [.w (.obj 0), .w (.d (.int many)), .w (.d (.int c)), .un, .un, .un, .un, .un] [rdO cs sp re c] := by rfl
theorem ev_bin {o : BinO} {m1 m2 : M Rv} {r : Rho} {s : Sto} {i j : Int} {v : Rv} (h1 : m1 r s = .ok (ad (.int i)) r s) (h2 : m2 r s = .ok (ad (.int j)) r s) (h3 : binC o (.d (.int i)) (.d (.int j)) = some v) : gM (gBin o) [m1, m2] r s = .ok v r s := by
  unfold gM evs
  rw [b_ok (show M.bind m1 _ r s = .ok [ad (.int i), ad (.int j)] r s by
    rw [b_ok h1]
    unfold evs
    rw [b_ok (show M.bind m2 _ r s = .ok [ad (.int j)] r s by rw [b_ok h2]; rfl)]
    rfl)]
  show ofOpt (binC o (.d (.int i)) (.d (.int j))) r s = _
  rw [h3]
  rfl
theorem bin_mod {i j : Int} (h : 0 < j) : binC .mod (.d (.int i)) (.d (.int j)) = some (ad (.int (i.fmod j))) := by
  show (modI i j).map (fun k => ad (.int k)) = _
  unfold modI
  rw [if_pos (decide_eq_true (by omega))]
  rfl
theorem bin_fdiv {i j : Int} (h : 0 < j) (h2 : j.natAbs < 1073741824) : binC .fdiv (.d (.int i)) (.d (.int j)) = some (ad (.int (i.fdiv j))) := by
  show (fdivI i j).map (fun k => ad (.int k)) = _
  unfold fdivI
  rw [if_pos (decide_eq_true ⟨by omega, h2⟩)]
  rfl
theorem bin_pow {i : Int} {k : Nat} (h : i.natAbs < 2 ^ 64) (h2 : k ≤ 1000000) : binC .pow (.d (.int i)) (.d (.int k)) = some (ad (.int (i ^ k))) := by
  show (powI i k).map (fun k => ad (.int k)) = _
  unfold powI
  rw [if_pos (decide_eq_true ⟨by omega, by omega, h⟩)]
  rfl
theorem bin_mul {i j : Int} (h : -(2 ^ 64) < j ∧ j < 2 ^ 64) : binC .mul (.d (.int i)) (.d (.int j)) = some (ad (.int (i * j))) := by
  show (mulI i j).map (fun k => ad (.int k)) = _
  unfold mulI cmul
  rw [if_pos (by rw [Bool.or_eq_true]; exact .inr (decide_eq_true h))]
  rfl
theorem fmod_rng {i j : Int} (h : 0 < j) : 0 ≤ i.fmod j ∧ i.fmod j < j := ⟨Int.fmod_nonneg_of_pos i h, Int.fmod_lt_of_pos i h⟩
theorem fdiv_nn {i j : Int} (h : 0 ≤ i) (h2 : 0 < j) : 0 ≤ i.fdiv j := Int.fdiv_nonneg h (Int.le_of_lt h2)
theorem as_eq {i : Nat} {m : M Rv} {d : PyData} {r : Rho} {s : Sto} (h : m r s = .ok (ad d) r s) : asM i m r s = .ok .nx (r.set i (.w (.d d))) s := by
  unfold asM
  rw [b_ok h]
  rfl
abbrev rdn (many c : Int) (x3 x4 x5 x6 x7 : Sl) : Rho := [.w (.obj 0), .w (.d (.int many)), .w (.d (.int c)), x3, x4, x5, x6, x7]
theorem dp_rest {many c : Int} {x3 x4 x5 x6 x7 : Sl} {cs : List Int} {sp re d c' : Int} {mv : M Rv} (h : mv (rdn many c x3 x4 x5 x6 x7) [rdO cs sp re c'] = .ok (ad (.int d)) (rdn many c x3 x4 x5 x6 x7) [rdO cs sp re c']) :
    dpM mv (rd 0) (kd (.str (PySem.Str.ofString "rest"))) (rdn many c x3 x4 x5 x6 x7) [rdO cs sp re c'] = .ok .nx (rdn many c x3 x4 x5 x6 x7) [rdO cs sp d c'] := by
  unfold dpM
  rw [b_ok h]
  rfl
theorem ev_cmp {o : CmpO} {m1 m2 : M Rv} {r : Rho} {s : Sto} {i j : Int} {k : Bool} (h1 : m1 r s = .ok (ad (.int i)) r s) (h2 : m2 r s = .ok (ad (.int j)) r s) (h3 : cmpC o (.d (.int i)) (.d (.int j)) = some (bl k)) : truM (gM (gCmp o) [m1, m2]) r s = .ok k r s := by
  have e : gM (gCmp o) [m1, m2] r s = .ok (bl k) r s := by
    unfold gM evs
    rw [b_ok (show M.bind m1 _ r s = .ok [ad (.int i), ad (.int j)] r s by
      rw [b_ok h1]
      unfold evs
      rw [b_ok (show M.bind m2 _ r s = .ok [ad (.int j)] r s by rw [b_ok h2]; rfl)]
      rfl)]
    show ofOpt (cmpC o (.d (.int i)) (.d (.int j))) r s = _
    rw [h3]
    rfl
  unfold truM
  rw [b_ok e]
  rfl
theorem dr_lt (i j : Int) : cmpC .lt (.d (.int i)) (.d (.int j)) = some (bl (decide (i < j))) := by
  have e : W.dataLt (.int i) (.int j) = decide (i < j) := by
    show (decide (i < j) || (!decide (j < i) && false)) = _
    simp
  show ((if shp (.int i) && W.alike (.int i) (.int j) then some (W.dataLt (.int i) (.int j)) else none).map bl) = _
  rw [if_pos (by rw [W.alike]; simp [shp, PyData.depth]), e]
  rfl
theorem and_eq {a b : M Bool} {r : Rho} {s : Sto} {p q : Bool} (h1 : a r s = .ok p r s) (h2 : b r s = .ok q r s) : andB a b r s = .ok (p && q) r s := by
  unfold andB
  rw [b_ok h1]
  cases p with
  | true => exact h2
  | false => rfl
theorem ifm_t {c : M Bool} {a b : M Rv} {r : Rho} {s : Sto} (h : c r s = .ok true r s) : ifM c a b r s = a r s := by
  unfold ifM
  rw [b_ok h]
  rfl
theorem ifm_f {c : M Bool} {a b : M Rv} {r : Rho} {s : Sto} (h : c r s = .ok false r s) : ifM c a b r s = b r s := by
  unfold ifM
  rw [b_ok h]
  rfl
theorem ev_ix {m1 m2 : M Rv} {r : Rho} {s : Sto} {xs : List PyData} {k : Int} {d : PyData} (h1 : m1 r s = .ok (ad (.list xs)) r s) (h2 : m2 r s = .ok (ad (.int k)) r s) (h3 : L2.atI xs k = some d) : gM gIx [m1, m2] r s = .ok (ad d) r s := by
  unfold gM evs
  rw [b_ok (show M.bind m1 _ r s = .ok [ad (.list xs), ad (.int k)] r s by
    rw [b_ok h1]
    unfold evs
    rw [b_ok (show M.bind m2 _ r s = .ok [ad (.int k)] r s by rw [b_ok h2]; rfl)]
    rfl)]
  have e : ofOp (two ixC) [ad (.list xs), ad (.int k)] r s = .ok (ad d) r s := by
    show ofOpt ((L2.atI xs k).map ad) r s = _
    rw [h3]
    rfl
  show altG _ _ _ r s = _
  unfold altG
  rw [e]
theorem ev_draw {many c sp re : Int} {cs : List Int} (hm : 0 < many) (hm2 : many.natAbs < 1073741824) (hc : 0 ≤ c ∧ c ≤ 1000000) (hsp : 0 ≤ sp) (hre : 0 ≤ re) :
    ∃ v sp' re', 0 ≤ v ∧ v < many ∧ 0 ≤ sp' ∧ 0 ≤ re' ∧ r__law_draw [.obj 0, .d (.int many)] [rdO cs sp re c] = some (ad (.int v), [rdO cs sp' re' (c + 1)]) := by
  by_cases h0 : 0 < re
  · refine ⟨re.fmod many, sp, re.fdiv many, (fmod_rng hm).1, (fmod_rng hm).2, hsp, fdiv_nn hre hm, ?_⟩
    refine runF_ret (v := ad (.int (re.fmod many))) (r' := rdn many (c + 1) (.w (.d (.int (re.fmod many)))) .un .un .un .un) ?_ rfl
    refine (seq_nx (draw1 many cs sp re c)).trans ((seq_nx (draw2 many cs sp re c)).trans (seq_rt ?_))
    refine (if_t (by rw [draw3, decide_eq_true h0])).trans ?_
    refine (seq_nx (as_eq (d := .int (re.fmod many)) (ev_bin (i := re) (j := many) rfl rfl (bin_mod hm)))).trans ?_
    refine (seq_nx (dp_rest (d := re.fdiv many) (ev_bin (i := re) (j := many) rfl rfl (bin_fdiv hm hm2)))).trans ?_
    rfl
  · -- the next cell
    obtain ⟨cell, hcell⟩ : ∃ cell : Int, (ifM (truM (gM (gCmp .gt) [(gM (gOne lenC) [(rd 5)]), (kd (.int (0)))])) (gM gIx [(rd 5), (gM (gBin .mod) [(rd 4), (gM (gOne lenC) [(rd 5)])])]) (kd (.int (13))))
        (rdn many (c + 1) .un (.w (.d (.int sp))) (.w (.d (.list (cs.map PyData.int)))) .un .un) [rdO cs (sp + 1) re (c + 1)] = .ok (ad (.int cell)) (rdn many (c + 1) .un (.w (.d (.int sp))) (.w (.d (.list (cs.map PyData.int)))) .un .un) [rdO cs (sp + 1) re (c + 1)] := by
      have hl : gM (gOne lenC) [rd 5] (rdn many (c + 1) .un (.w (.d (.int sp))) (.w (.d (.list (cs.map PyData.int)))) .un .un) [rdO cs (sp + 1) re (c + 1)] = .ok (ad (.int cs.length)) (rdn many (c + 1) .un (.w (.d (.int sp))) (.w (.d (.list (cs.map PyData.int)))) .un .un) [rdO cs (sp + 1) re (c + 1)] := by
        show Rs.ok (ad (.int ((cs.map PyData.int).length))) _ _ = _
        rw [List.length_map]
      have ht := ev_cmp (o := .gt) (m2 := kd (.int 0)) (j := 0) (k := decide (0 < (cs.length : Int))) hl rfl rfl
      by_cases hp : 0 < (cs.length : Int)
      · rw [decide_eq_true hp] at ht
        have hf := fmod_rng (i := sp) hp
        have hk : (sp.fmod cs.length).toNat < cs.length := by omega
        refine ⟨cs[(sp.fmod cs.length).toNat], (ifm_t ht).trans (ev_ix (xs := cs.map PyData.int) (k := sp.fmod cs.length) rfl (ev_bin (i := sp) (j := cs.length) rfl hl (bin_mod hp)) ?_)⟩
        have hz : (cs.map PyData.int).length = cs.length := List.length_map _
        unfold L2.atI L2.ixN
        rw [hz, if_pos hf.1, if_pos hf.2]
        show (cs.map PyData.int)[(sp.fmod cs.length).toNat]? = _
        rw [List.getElem?_map, List.getElem?_eq_getElem hk]
        rfl
      · rw [decide_eq_false hp] at ht
        exact ⟨13, (ifm_f ht).trans rfl⟩
    have hlen : gM (gOne lenC) [rd 5] (rdn many (c + 1) .un (.w (.d (.int sp))) (.w (.d (.list (cs.map PyData.int)))) (.w (.d (.int cell))) .un) [rdO cs (sp + 1) re (c + 1)] = .ok (ad (.int cs.length)) (rdn many (c + 1) .un (.w (.d (.int sp))) (.w (.d (.list (cs.map PyData.int)))) (.w (.d (.int cell))) .un) [rdO cs (sp + 1) re (c + 1)] := by
      show Rs.ok (ad (.int ((cs.map PyData.int).length))) _ _ = _
      rw [List.length_map]
    have htest : (andB (truM (gM (gCmp .lt) [(rd 4), (gM (gOne lenC) [(rd 5)])])) (truM (gM (gCmp .ge) [(rd 6), (gM (gBin .pow) [(kd (.int (10))), (kd (.int (18)))])]))) (rdn many (c + 1) .un (.w (.d (.int sp))) (.w (.d (.list (cs.map PyData.int)))) (.w (.d (.int cell))) .un) [rdO cs (sp + 1) re (c + 1)]
        = .ok (decide (sp < cs.length ∧ 10 ^ 18 ≤ cell)) (rdn many (c + 1) .un (.w (.d (.int sp))) (.w (.d (.list (cs.map PyData.int)))) (.w (.d (.int cell))) .un) [rdO cs (sp + 1) re (c + 1)] := by
      rw [Bool.decide_and]
      exact and_eq (ev_cmp (i := sp) (j := cs.length) rfl hlen (dr_lt _ _)) (ev_cmp (i := cell) (j := 10 ^ 18) rfl (ev_bin (i := 10) (j := ((18 : Nat) : Int)) rfl rfl (bin_pow (by decide) (by omega))) rfl)
    by_cases hb : sp < cs.length ∧ 10 ^ 18 ≤ cell
    · refine ⟨cell.fmod many, sp + 1, cell.fdiv many, (fmod_rng hm).1, (fmod_rng hm).2, by omega, fdiv_nn (by omega) hm, ?_⟩
      refine runF_ret (v := ad (.int (cell.fmod many))) (r' := rdn many (c + 1) .un (.w (.d (.int sp))) (.w (.d (.list (cs.map PyData.int)))) (.w (.d (.int cell))) .un) ?_ rfl
      refine (seq_nx (draw1 many cs sp re c)).trans ((seq_nx (draw2 many cs sp re c)).trans ?_)
      refine (seq_nx (r' := rdn many (c + 1) .un .un .un .un .un) (s' := [rdO cs sp re (c + 1)]) ((if_f (by rw [draw3, decide_eq_false h0])).trans rfl)).trans ?_
      refine (seq_nx (as_eq (d := .int sp) rfl)).trans ?_
      refine (seq_nx (r' := rdn many (c + 1) .un (.w (.d (.int sp))) .un .un .un) (s' := [rdO cs (sp + 1) re (c + 1)]) rfl).trans ?_
      refine (seq_nx (as_eq (d := .list (cs.map PyData.int)) rfl)).trans ?_
      refine (seq_nx (as_eq (d := .int cell) hcell)).trans ?_
      refine (seq_rt ((if_t (htest.trans (by rw [decide_eq_true hb]))).trans ?_))
      refine (seq_nx (dp_rest (d := cell.fdiv many) (ev_bin (i := cell) (j := many) rfl rfl (bin_fdiv hm hm2)))).trans ?_
      exact reM_eq (ev_bin (i := cell) (j := many) rfl rfl (bin_mod hm))
    · have b1 := fmod_rng (i := cell) (j := 2147483629) (by omega)
      obtain ⟨b, hb0⟩ : ∃ b : Int, b = cell.fmod 2147483629 + 6043 * (c + 1) + 29 := ⟨_, rfl⟩
      have p1 : b.natAbs < 2 ^ 64 := by omega
      obtain ⟨pb, hpb⟩ : ∃ x : Int, x = b ^ 5 := ⟨_, rfl⟩
      obtain ⟨once, ho⟩ : ∃ x : Int, x = pb.fmod 2147483647 := ⟨_, rfl⟩
      have b2 := fmod_rng (i := pb) (j := 2147483647) (by omega)
      rw [← ho] at b2
      obtain ⟨g, hg⟩ : ∃ x : Int, x = once + 4127 * (c + 1) * (c + 1) := ⟨_, rfl⟩
      have p2 : g.natAbs < 2 ^ 64 := by
        have c2 : 0 ≤ (c + 1) * (c + 1) ∧ (c + 1) * (c + 1) ≤ 1000001 * 1000001 := ⟨Int.mul_nonneg (by omega) (by omega), Int.mul_le_mul (by omega) (by omega) (by omega) (by omega)⟩
        have c3 : 4127 * (c + 1) * (c + 1) = 4127 * ((c + 1) * (c + 1)) := Int.mul_assoc _ _ _
        rw [hg, c3]
        omega
      obtain ⟨pg, hpg⟩ : ∃ x : Int, x = g ^ 5 := ⟨_, rfl⟩
      obtain ⟨fig, hf⟩ : ∃ x : Int, x = (pg.fmod 2147483587).fdiv 32 := ⟨_, rfl⟩
      refine ⟨fig.fmod many, sp + 1, re, (fmod_rng hm).1, (fmod_rng hm).2, by omega, hre, ?_⟩
      refine runF_ret (v := ad (.int (fig.fmod many))) (r' := rdn many (c + 1) .un (.w (.d (.int sp))) (.w (.d (.list (cs.map PyData.int)))) (.w (.d (.int cell))) (.w (.d (.int once)))) ?_ rfl
      refine (seq_nx (draw1 many cs sp re c)).trans ((seq_nx (draw2 many cs sp re c)).trans ?_)
      refine (seq_nx (r' := rdn many (c + 1) .un .un .un .un .un) (s' := [rdO cs sp re (c + 1)]) ((if_f (by rw [draw3, decide_eq_false h0])).trans rfl)).trans ?_
      refine (seq_nx (as_eq (d := .int sp) rfl)).trans ?_
      refine (seq_nx (r' := rdn many (c + 1) .un (.w (.d (.int sp))) .un .un .un) (s' := [rdO cs (sp + 1) re (c + 1)]) rfl).trans ?_
      refine (seq_nx (as_eq (d := .list (cs.map PyData.int)) rfl)).trans ?_
      refine (seq_nx (as_eq (d := .int cell) hcell)).trans ?_
      refine (seq_nx ((if_f (htest.trans (by rw [decide_eq_false hb]))).trans rfl)).trans ?_
      have e1 := ev_bin (o := .mod) (m1 := rd 6) (m2 := kd (.int 2147483629)) (r := rdn many (c + 1) .un (.w (.d (.int sp))) (.w (.d (.list (cs.map PyData.int)))) (.w (.d (.int cell))) .un) (s := [rdO cs (sp + 1) re (c + 1)]) (i := cell) (j := 2147483629) rfl rfl (bin_mod (by omega))
      have e2 := ev_bin (o := .mul) (m1 := kd (.int 6043)) (m2 := rd 2) (r := rdn many (c + 1) .un (.w (.d (.int sp))) (.w (.d (.list (cs.map PyData.int)))) (.w (.d (.int cell))) .un) (s := [rdO cs (sp + 1) re (c + 1)]) (i := 6043) (j := c + 1) rfl rfl (bin_mul (by omega))
      have e3 := ev_bin (o := .add) (v := ad (.int (cell.fmod 2147483629 + 6043 * (c + 1)))) e1 e2 rfl
      have e4 := ev_bin (o := .add) (m2 := kd (.int 29)) (j := 29) (v := ad (.int b)) e3 rfl (by rw [hb0]; rfl)
      have e5 := ev_bin (o := .pow) (m2 := kd (.int 5)) (j := ((5 : Nat) : Int)) (v := ad (.int pb)) e4 rfl (by rw [hpb]; exact bin_pow p1 (by omega))
      have e6 := ev_bin (o := .mod) (m2 := kd (.int 2147483647)) (j := 2147483647) (v := ad (.int once)) e5 rfl (by rw [ho]; exact bin_mod (by omega))
      refine (seq_nx (as_eq e6)).trans ?_
      have f1 := ev_bin (o := .mul) (m1 := kd (.int 4127)) (m2 := rd 2) (r := rdn many (c + 1) .un (.w (.d (.int sp))) (.w (.d (.list (cs.map PyData.int)))) (.w (.d (.int cell))) (.w (.d (.int once)))) (s := [rdO cs (sp + 1) re (c + 1)]) (i := 4127) (j := c + 1) rfl rfl (bin_mul (by omega))
      have f2 := ev_bin (o := .mul) (m2 := rd 2) (j := c + 1) f1 rfl (bin_mul (by omega))
      have f3 := ev_bin (o := .add) (m1 := rd 7) (i := once) (v := ad (.int g)) rfl f2 (by rw [hg]; rfl)
      have f4 := ev_bin (o := .pow) (m2 := kd (.int 5)) (j := ((5 : Nat) : Int)) (v := ad (.int pg)) f3 rfl (by rw [hpg]; exact bin_pow p2 (by omega))
      have f5 := ev_bin (o := .mod) (m2 := kd (.int 2147483587)) (j := 2147483587) f4 rfl (bin_mod (by omega))
      have f6 := ev_bin (o := .fdiv) (m2 := kd (.int 32)) (j := 32) (v := ad (.int fig)) f5 rfl (by rw [hf]; exact bin_fdiv (by omega) (by decide))
      exact reM_eq (ev_bin (o := .mod) (m2 := rd 1) (j := many) f6 rfl (bin_mod hm))
theorem dr_ok : DrOk r__law_draw := fun many k s h1 h2 hr hk => by
  obtain ⟨cs, sp, re, c, rfl, a1, a2, a3, a4⟩ := hr
  obtain ⟨v, sp', re', b1, b2, b3, b4, e⟩ := ev_draw (cs := cs) h1 (by omega) ⟨a3, by omega⟩ a1 a2
  exact ⟨v, _, b1, b2, e, ⟨cs, sp', re', c + 1, rfl, b3, b4, by omega, by omega⟩⟩
end Lw
set_option Elab.async false
set_option linter.all false
set_option maxRecDepth 100000
/-! L05p: the heart, plain. -/
namespace Hp
open PySem
abbrev Kn := Str → List (List Str)
def found (ns : List (List Str)) (ds : List Str) : Bool := ns.any fun nd => nd.all fun o => decide (o ∈ ds)
theorem found_mono {ns : List (List Str)} {A B : List Str} (h : ∀ x ∈ A, x ∈ B) (f : found ns A = true) : found ns B = true := by
  unfold found at f ⊢
  rw [List.any_eq_true] at f ⊢
  obtain ⟨nd, h1, h2⟩ := f
  refine ⟨nd, h1, ?_⟩
  rw [List.all_eq_true] at h2 ⊢
  exact fun o ho => decide_eq_true (h o (of_decide_eq_true (h2 o ho)))
def fresh (kn : Kn) (ds F : List Str) : List Str := ds.filter fun o => !decide (o ∈ F) && found (kn o) F
theorem mem_fresh {kn : Kn} {ds F : List Str} {o : Str} : o ∈ fresh kn ds F ↔ o ∈ ds ∧ o ∉ F ∧ found (kn o) F = true := by
  unfold fresh
  rw [List.mem_filter, Bool.and_eq_true, Bool.not_eq_true', decide_eq_false_iff_not]
/-- X is closed within ds -/
def Closed (kn : Kn) (ds X : List Str) : Prop := ∀ o ∈ ds, found (kn o) X = true → o ∈ X
/-- F is reached within ds: sound, and inside every closed set -/
structure Reach (kn : Kn) (ds F : List Str) : Prop where
  nd : F.Nodup
  sub : ∀ o ∈ F, o ∈ ds
  sound : ∀ o ∈ F, found (kn o) F = true
  least : ∀ X, Closed kn ds X → ∀ o ∈ F, o ∈ X
theorem Reach.nil {kn : Kn} {ds : List Str} : Reach kn ds [] := ⟨List.nodup_nil, (fun o h => nomatch h), (fun o h => nomatch h), (fun X _ o h => nomatch h)⟩
/-- some fresh ones more -/
theorem Reach.add {kn : Kn} {ds F G : List Str} (R : Reach kn ds F) (hG : ∀ o ∈ G, o ∈ fresh kn ds F) (hn : G.Nodup) : Reach kn ds (F ++ G) where
  nd := List.nodup_append.mpr ⟨R.nd, hn, fun a ha b hb e => (mem_fresh.mp (hG b hb)).2.1 (e ▸ ha)⟩
  sub := fun o h => (List.mem_append.mp h).elim (R.sub o) fun z => (mem_fresh.mp (hG o z)).1
  sound := fun o h => found_mono (A := F) (fun x z => List.mem_append_left _ z) ((List.mem_append.mp h).elim (R.sound o) fun z => (mem_fresh.mp (hG o z)).2.2)
  least := fun X hX o h => (List.mem_append.mp h).elim (R.least X hX o) fun z => hX o (mem_fresh.mp (hG o z)).1 (found_mono (R.least X hX) (mem_fresh.mp (hG o z)).2.2)
theorem Reach.perm {kn : Kn} {ds F G : List Str} (R : Reach kn ds F) (p : G.Perm F) : Reach kn ds G where
  nd := p.nodup_iff.mpr R.nd
  sub := fun o h => R.sub o (p.mem_iff.mp h)
  sound := fun o h => found_mono (fun x z => p.mem_iff.mpr z) (R.sound o (p.mem_iff.mp h))
  least := fun X hX o h => R.least X hX o (p.mem_iff.mp h)
theorem closed_of_no_fresh {kn : Kn} {ds F : List Str} (h : fresh kn ds F = []) : Closed kn ds F := fun o ho hf => by
  by_cases z : o ∈ F
  · exact z
  · have : o ∈ fresh kn ds F := mem_fresh.mpr ⟨ho, z, hf⟩
    rw [h] at this
    cases this
/-- two that are reached and closed have the same members -/
theorem Reach.same {kn : Kn} {ds F G : List Str} (R : Reach kn ds F) (S : Reach kn ds G) (cF : Closed kn ds F) (cG : Closed kn ds G) : ∀ o, o ∈ F ↔ o ∈ G := fun o => ⟨R.least G cG o, S.least F cF o⟩
theorem nodup_len {α : Type} [DecidableEq α] : ∀ (l D : List α), l.Nodup → (∀ x ∈ l, x ∈ D) → l.length ≤ D.length
  | [], _, _, _ => Nat.zero_le _
  | x :: l, D, hn, hs => by
    rw [List.nodup_cons] at hn
    have hx := hs x List.mem_cons_self
    have h := nodup_len l (D.erase x) hn.2 fun y hy => (List.mem_erase_of_ne (fun (e : y = x) => hn.1 (e ▸ hy))).mpr (hs y (List.mem_cons_of_mem _ hy))
    rw [List.length_erase_of_mem hx] at h
    have := List.length_pos_of_mem hx
    rw [List.length_cons]
    omega
def grow (kn : Kn) (ds : List Str) : Nat → List Str → List Str
  | 0, F => F
  | n + 1, F => if fresh kn ds F = [] then F else grow kn ds n (F ++ fresh kn ds F)
theorem grow_ok {kn : Kn} {ds : List Str} (hd : ds.Nodup) : ∀ (n : Nat) (F : List Str), Reach kn ds F → ds.length < n + F.length → Reach kn ds (grow kn ds n F) ∧ Closed kn ds (grow kn ds n F)
  | 0, F, R, h => by
    have : F.length ≤ ds.length := nodup_len F ds R.nd R.sub
    omega
  | n + 1, F, R, h => by
    unfold grow
    split
    · rename_i z
      exact ⟨R, closed_of_no_fresh z⟩
    · rename_i z
      have hp : 0 < (fresh kn ds F).length := List.length_pos_iff.mpr z
      exact grow_ok hd n _ (R.add (fun o h => h) (hd.filter _)) (by rw [List.length_append]; omega)
/-- the heart -/
def heart (kn : Kn) (ds : List Str) : List Str := grow kn ds (ds.length + 1) []
theorem heart_reach {kn : Kn} {ds : List Str} (hd : ds.Nodup) : Reach kn ds (heart kn ds) ∧ Closed kn ds (heart kn ds) := grow_ok hd _ _ Reach.nil (by simp)
theorem heart_mono {kn : Kn} {ds es : List Str} (hd : ds.Nodup) (he : es.Nodup) (h : ∀ o ∈ ds, o ∈ es) : ∀ o ∈ heart kn ds, o ∈ heart kn es := by
  have R := (heart_reach (kn := kn) hd).1
  have C := (heart_reach (kn := kn) he).2
  exact R.least _ fun o ho hf => C o (h o ho) hf
theorem heart_self {kn : Kn} {ds : List Str} (hd : ds.Nodup) : ∀ o, o ∈ heart kn (heart kn ds) ↔ o ∈ heart kn ds := by
  have R := (heart_reach (kn := kn) hd).1
  have R2 := heart_reach (kn := kn) R.nd
  refine fun o => ⟨R2.1.sub o, fun h => ?_⟩
  -- what is closed within the heart is closed within ds
  have cl : Closed kn ds (heart kn (heart kn ds)) := fun x hx hf => R2.2 x ((heart_reach (kn := kn) hd).2 x hx (found_mono R2.1.sub hf)) hf
  exact R.least _ cl o h
theorem nodup_back {α : Type} [DecidableEq α] {l D : List α} (hn : l.Nodup) (hs : ∀ x ∈ l, x ∈ D) (hl : D.length ≤ l.length) : ∀ x ∈ D, x ∈ l := fun x hx => by
  by_cases h : x ∈ l
  · exact h
  · have h1 : ∀ y ∈ l, y ∈ D.erase x := fun y hy => (List.mem_erase_of_ne (fun (e : y = x) => h (e ▸ hy))).mpr (hs y hy)
    have h2 := nodup_len l _ hn h1
    rw [List.length_erase_of_mem hx] at h2
    have := List.length_pos_of_mem hx
    omega
/-- a meaning: all of it is reached -/
theorem meaning_iff {kn : Kn} {ds : List Str} (hd : ds.Nodup) : (heart kn ds).length = ds.length ↔ ∀ o, o ∈ heart kn ds ↔ o ∈ ds := by
  have R := (heart_reach (kn := kn) hd).1
  constructor
  · exact fun h o => ⟨R.sub o, nodup_back R.nd R.sub (by omega) o⟩
  · exact fun h => Nat.le_antisymm (nodup_len _ _ R.nd R.sub) (nodup_len _ _ hd fun o z => (h o).mpr z)
theorem heart_in {kn : Kn} {ds es : List Str} (hd : ds.Nodup) (he : es.Nodup) (h : ∀ o ∈ heart kn ds, o ∈ es) : ∀ o ∈ heart kn ds, o ∈ heart kn es := fun o ho =>
  heart_mono (heart_reach hd).1.nd he h o ((heart_self hd o).mpr ho)
theorem union_ok {kn : Kn} {A B U : List Str} (hA : A.Nodup) (hB : B.Nodup) (hU : U.Nodup) (h : ∀ o, o ∈ U ↔ o ∈ heart kn A ∨ o ∈ heart kn B) : ∀ o, o ∈ heart kn U ↔ o ∈ U := fun o =>
  ⟨(heart_reach hU).1.sub o, fun z => ((h o).mp z).elim (heart_in hA hU (fun x hx => (h x).mpr (.inl hx)) o) (heart_in hB hU (fun x hx => (h x).mpr (.inr hx)) o)⟩
theorem inter_ok {kn : Kn} {A B S T : List Str} (hA : A.Nodup) (hB : B.Nodup) (hS : S.Nodup) (hT : T.Nodup) (h1 : ∀ o, o ∈ S ↔ o ∈ A ∧ o ∈ B) (h2 : ∀ o, o ∈ T ↔ o ∈ heart kn A ∧ o ∈ heart kn B) : ∀ o, o ∈ heart kn T ↔ o ∈ heart kn S := by
  have RA := (heart_reach (kn := kn) hA).1
  have RB := (heart_reach (kn := kn) hB).1
  refine fun o => ⟨heart_mono hT hS (fun x hx => (h1 x).mpr ⟨RA.sub x ((h2 x).mp hx).1, RB.sub x ((h2 x).mp hx).2⟩) o, ?_⟩
  exact heart_in hS hT (fun x hx => (h2 x).mpr ⟨heart_mono hS hA (fun y hy => ((h1 y).mp hy).1) x hx, heart_mono hS hB (fun y hy => ((h1 y).mp hy).2) x hx⟩) o
theorem easier_ok {kn kn' : Kn} {ds : List Str} (hd : ds.Nodup) (h : ∀ o X, found (kn o) X = true → found (kn' o) X = true) : ∀ o ∈ heart kn ds, o ∈ heart kn' ds :=
  (heart_reach hd).1.least _ fun o ho hf => (heart_reach hd).2 o ho (h o _ hf)
end Hp
set_option Elab.async false
set_option linter.all false
set_option maxRecDepth 100000
namespace Lw
open PySem Mi Tz
abbrev Row := Str × Str × List (List Str)
abbrev kvs (R : List Row) : List (Str × List (List Str)) := R.map fun r => (r.1, r.2.2)
def kn (R : List Row) : Hp.Kn := fun x => (lk (kvs R) x).getD []
structure Rk (R : List Row) : Prop where
  nd : (R.map (·.1)).Nodup
  ln : R.length ≤ 1000
  nl : ∀ r ∈ R, r.2.2.length ≤ 1000
  rl : ∀ r ∈ R, ∀ n ∈ r.2.2, n.length ≤ 1000
theorem sz {n : Nat} (h : n ≤ 1000) : n ≤ sizeLine := by rw [PySem.sizeLine_eq]; omega
theorem kn_row {R : List Row} (k : Rk R) {x : Str} (h : x ∈ R.map (·.1)) : ∃ r ∈ R, r.1 = x ∧ lk (kvs R) x = some r.2.2 ∧ kn R x = r.2.2 := by
  obtain ⟨r, hr, rfl⟩ := List.mem_map.mp h
  have e := lk_map (f := fun r : Row => r.1) (g := fun r => r.2.2) k.nd hr
  exact ⟨r, hr, rfl, e, by unfold kn; rw [e]; rfl⟩
theorem e_found_in {ns : List (List Str)} {ds : List Str} (h1 : ns.length ≤ 1000) (h2 : ∀ n ∈ ns, n.length ≤ 1000) : p_found_in ns ds = pure (Hp.found ns ds) := by
  simp only [p_found_in, sq_pnx, sq_prt, sq_bind, sq_if, fnR_prt, fnR_bind, fnR_if, pure_bind, bind_assoc, bind_pure, pIf_p, bAnd_p, bOr_p, bNot_p, gd_t]
  rw [cp_map (fun x1 : List Str => (x1.map fun o => decide (o ∈ ds)).all id) (sz h1)]
  · simp only [pure_bind, List.any_map, List.all_map]
    rfl
  · intro x hx
    rw [cp_map (fun o => decide (o ∈ ds)) (sz (h2 x hx)) fun _ _ => rfl, pure_bind]
theorem e_needs_by {R : List Row} (k : Rk R) : p_needs_by R = pure (kvs R) := by
  simp only [p_needs_by, sq_pnx, sq_prt, sq_bind, sq_if, fnR_prt, fnR_bind, fnR_if, pure_bind, bind_assoc, bind_pure, pIf_p, bAnd_p, bOr_p, bNot_p, gd_t]
  exact dp_map (fun r : Row => r.1) (fun r => r.2.2) (sz k.ln) (fun _ _ => rfl) (fun _ _ => rfl) k.nd
theorem e_need_names {R : List Row} (k : Rk R) {ns : List Str} (h : ∀ x ∈ ns, x ∈ R.map (·.1)) : p_need_names R ns = pure (kvs R) := by
  simp only [p_need_names, sq_pnx, sq_prt, sq_bind, sq_if, fnR_prt, fnR_bind, fnR_if, pure_bind, bind_assoc, bind_pure, pIf_p, bAnd_p, bOr_p, bNot_p, gd_t, e_needs_by k]
  rw [forF_U]
  · simp only [sq_pnx, sq_prt, sq_bind, sq_if, fnR_prt, fnR_bind, fnR_if, pure_bind, bind_assoc, bind_pure, pIf_p, bAnd_p, bOr_p, bNot_p, gd_t]
  · intro x hx
    rw [if_neg]
    rw [lk_some (f := fun r : Row => r.1) (g := fun r => r.2.2), decide_eq_true (h x hx)]
    decide
theorem e_fresh {R : List Row} (k : Rk R) {ds F : List Str} (hz : ds.length ≤ 1000) (h : ∀ x ∈ ds, x ∈ R.map (·.1)) :
    cp (fun x => bAnd (pure !decide (x ∈ F)) (op (lk (kvs R) x) >>= fun x => p_found_in x F)) (fun x => pure x) ds = pure (Hp.fresh (kn R) ds F) := by
  refine cp_fil (fun o => !decide (o ∈ F) && Hp.found (kn R o) F) (sz hz) fun x hx => ?_
  obtain ⟨r, hr, e1, e2, e3⟩ := kn_row k (h x hx)
  rw [e2, op_some, pure_bind, e_found_in (k.nl r hr) (k.rl r hr), bAnd_p, e3]
theorem grown_loop {R : List Row} (k : Rk R) {ds : List Str} (hd : ds.Nodup) (hz : ds.length ≤ 500) (h : ∀ x ∈ ds, x ∈ R.map (·.1)) {tc : List Str × List (Option Str) → PM Bool} {tb : List Str × List (Option Str) → PM (Fl (List Str × List (Option Str)) (List Str × List (Option Str)) (List Str))}
    (hc : ∀ s, tc s = pure (!decide (s.2 = []))) (hb : ∀ F xs, F.length ≤ 500 → tb (F, xs) = pure (.nx (F ++ Hp.fresh (kn R) ds F, (Hp.fresh (kn R) ds F).map some))) :
    ∀ (n m : Nat) (F : List Str) (xs : List (Option Str)), Hp.Reach (kn R) ds F → ds.length < n + F.length → n + 1 ≤ m → xs ≠ [] → ∃ ys, (whF tc tb m (F, xs) : PM (Fl _ Unit (List Str))) = pure (.nx (Hp.grow (kn R) ds n F, ys))
  | 0, m, F, xs, Rc, hl, _, _ => by
    have := Hp.nodup_len F ds Rc.nd Rc.sub
    omega
  | n + 1, 0, F, xs, Rc, hl, hm, hx => by omega
  | n + 1, m + 1, F, xs, Rc, hl, hm, hx => by
    have hF := Hp.nodup_len F ds Rc.nd Rc.sub
    unfold whF
    rw [hc, pure_bind, if_pos (by simpa using hx), hb F xs (by omega), pure_bind]
    show ∃ ys, whF tc tb m _ = _
    unfold Hp.grow
    by_cases hf : Hp.fresh (kn R) ds F = []
    · rw [if_pos hf, hf, List.append_nil]
      obtain ⟨m', rfl⟩ : ∃ m', m = m' + 1 := ⟨m - 1, by omega⟩
      refine ⟨[], ?_⟩
      unfold whF
      rw [hc, pure_bind]
      rfl
    · rw [if_neg hf]
      have hp : 0 < (Hp.fresh (kn R) ds F).length := List.length_pos_iff.mpr hf
      exact grown_loop k hd hz h hc hb n m _ _ (Rc.add (fun o h => h) (hd.filter _)) (by rw [List.length_append]; omega) (by omega) (by simpa using hf)
theorem e_grown {R : List Row} (k : Rk R) {ds : List Str} (hd : ds.Nodup) (hz : ds.length ≤ 30) (h : ∀ x ∈ ds, x ∈ R.map (·.1)) : p_grown (kvs R) ds = pure (Hp.heart (kn R) ds) := by
  simp only [p_grown, sq_pnx, sq_prt, sq_bind, sq_if, fnR_prt, fnR_bind, fnR_if, pure_bind, bind_assoc, bind_pure, pIf_p, bAnd_p, bOr_p, bNot_p, gd_t]
  obtain ⟨ys, e⟩ := grown_loop (R := R) k hd (by omega) h (tc := fun s3 => pure !decide (s3.snd = [])) (tb := fun s3 => do
            let c7 ← cp (fun x8 => bAnd (pure !decide (x8 ∈ s3.fst)) do
                      let x ← op (lk (kvs R) x8)
                      p_found_in x s3.fst) (fun x8 => pure x8) ds
            let c9 ← gd (size (s3.fst.length + c7.length)) (s3.fst ++ c7)
            pure (Fl.nx (c9, List.map some c7))) (fun _ => rfl) (fun F xs hF => by
      dsimp only
      have hl : (Hp.fresh (kn R) ds F).length ≤ ds.length := List.length_filter_le _ _
      rw [e_fresh k (by omega) h, pure_bind, gd_of (size_t (by omega)), pure_bind]) (ds.length + 1) 40 [] [none] Hp.Reach.nil (by simp) (by omega) (by simp)
  rw [e]
  rfl
end Lw
set_option Elab.async false
set_option linter.all false
set_option maxRecDepth 100000
namespace Lw
open PySem Mi Tz
abbrev nms (R : List Row) : List Str := R.map (·.1)
abbrev LtS (xs : List Str) : Prop := xs.Pairwise fun a b => W.dataLt (eS a) (eS b) = true
/-- a set of deeds of the roll -/
structure St (R : List Row) (ds : List Str) : Prop where
  lt : LtS ds
  sub : ∀ x ∈ ds, x ∈ nms R
  ln : ds.length ≤ 30
theorem St.nd {R : List Row} {ds : List Str} (h : St R ds) : ds.Nodup := lt_nodup h.lt
/-- the heart as a set -/
def H (R : List Row) (ds : List Str) : List Str := sr eS (Hp.heart (kn R) ds)
theorem mem_H {R : List Row} {ds : List Str} {o : Str} : o ∈ H R ds ↔ o ∈ Hp.heart (kn R) ds := mem_sr
theorem St.H {R : List Row} {ds : List Str} (h : St R ds) : St R (H R ds) := by
  have Rc := (Hp.heart_reach (kn := kn R) h.nd).1
  refine ⟨sr_lt tki_s Rc.nd, fun x hx => h.sub x (Rc.sub x (mem_H.mp hx)), ?_⟩
  unfold Lw.H
  rw [sr_len]
  exact Nat.le_trans (Hp.nodup_len _ _ Rc.nd Rc.sub) h.ln
theorem e_heart {R : List Row} (k : Rk R) {ds : List Str} (h : St R ds) : p_heart_of R ds = pure (H R ds) := by
  have Rc := (Hp.heart_reach (kn := kn R) h.nd).1
  have hl : (Hp.heart (kn R) ds).length ≤ 30 := Nat.le_trans (Hp.nodup_len _ _ Rc.nd Rc.sub) h.ln
  simp only [p_heart_of, sq_pnx, sq_prt, sq_bind, sq_if, fnR_prt, fnR_bind, fnR_if, pure_bind, bind_assoc, bind_pure, pIf_p, bAnd_p, bOr_p, bNot_p, gd_t, e_need_names k h.sub, e_grown k h.nd h.ln h.sub, gd_of (size_t (show (Hp.heart (kn R) ds).length ≤ 16777216 by omega))]
  rfl
theorem e_meaning {R : List Row} (k : Rk R) {ds : List Str} (h : St R ds) : p_is_meaning R ds = pure (decide (((H R ds).length : Int) = (ds.length : Int))) := by
  simp only [p_is_meaning, sq_pnx, sq_prt, sq_bind, sq_if, fnR_prt, fnR_bind, fnR_if, pure_bind, bind_assoc, bind_pure, pIf_p, bAnd_p, bOr_p, bNot_p, gd_t, e_heart k h]
theorem e_finds {R : List Row} (k : Rk R) {ds : List Str} {x : Str} (h : St R ds) (hx : x ∈ nms R) : p_finds_needs R ds x = pure (Hp.found (kn R x) ds) := by
  have hl := h.ln
  obtain ⟨r, hr, e1, e2, e3⟩ := kn_row k hx
  simp only [p_finds_needs, sq_pnx, sq_prt, sq_bind, sq_if, fnR_prt, fnR_bind, fnR_if, pure_bind, bind_assoc, bind_pure, pIf_p, bAnd_p, bOr_p, bNot_p, gd_t, gd_of (size_t (show ds.length + [x].length ≤ 16777216 by rw [List.length_singleton]; omega))]
  rw [e_need_names k (fun y hy => (List.mem_append.mp hy).elim (h.sub y) fun z => by rw [List.mem_singleton.mp z]; exact hx)]
  simp only [sq_pnx, sq_prt, sq_bind, sq_if, fnR_prt, fnR_bind, fnR_if, pure_bind, bind_assoc, bind_pure, pIf_p, bAnd_p, bOr_p, bNot_p, gd_t, e2, op_some, e3, e_found_in (k.nl r hr) (k.rl r hr)]
theorem e_next {R : List Row} (k : Rk R) {ds F : List Str} (h : St R ds) (hF : ∀ x ∈ F, x ∈ nms R) (hl : F.length ≤ 1000) : p_next_deeds R ds F = pure (Hp.fresh (kn R) ds F) := by
  have hz := h.ln
  simp only [p_next_deeds, sq_pnx, sq_prt, sq_bind, sq_if, fnR_prt, fnR_bind, fnR_if, pure_bind, bind_assoc, bind_pure, pIf_p, bAnd_p, bOr_p, bNot_p, gd_t, gd_of (size_t (show ds.length + F.length ≤ 16777216 by omega))]
  rw [e_need_names k fun x hx => (List.mem_append.mp hx).elim (h.sub x) (hF x)]
  simp only [sq_pnx, sq_prt, sq_bind, sq_if, fnR_prt, fnR_bind, fnR_if, pure_bind, bind_assoc, bind_pure, pIf_p, bAnd_p, bOr_p, bNot_p, gd_t]
  exact e_fresh k (by omega) h.sub
theorem heart_ext {kn : Hp.Kn} {ds es : List Str} (hd : ds.Nodup) (he : es.Nodup) (h : ∀ o, o ∈ ds ↔ o ∈ es) : ∀ o, o ∈ Hp.heart kn ds ↔ o ∈ Hp.heart kn es := fun o =>
  ⟨Hp.heart_mono hd he (fun x hx => (h x).mp hx) o, Hp.heart_mono he hd (fun x hx => (h x).mpr hx) o⟩
theorem H_eq {R : List Row} {ds es : List Str} (hd : ds.Nodup) (he : es.Nodup) (h : ∀ o, o ∈ Hp.heart (kn R) ds ↔ o ∈ Hp.heart (kn R) es) : H R ds = H R es :=
  sr_same tki_s (Hp.heart_reach hd).1.nd (Hp.heart_reach he).1.nd h
theorem H_self {R : List Row} {ds : List Str} (h : St R ds) : H R (H R ds) = H R ds := by
  have Rc := (Hp.heart_reach (kn := kn R) h.nd).1
  refine H_eq h.H.nd h.nd fun o => ?_
  rw [heart_ext h.H.nd Rc.nd (fun o => mem_H) o]
  exact Hp.heart_self h.nd o
theorem mean_of {R : List Row} {ds : List Str} (h : St R ds) (e : ∀ o, o ∈ Hp.heart (kn R) ds ↔ o ∈ ds) : H R ds = ds :=
  lt_ext tki_s h.H.lt h.lt fun o => mem_H.trans (e o)
theorem mean_iff {R : List Row} {ds : List Str} (h : St R ds) : decide (((H R ds).length : Int) = (ds.length : Int)) = decide (H R ds = ds) := by
  refine decide_eq_decide.mpr ⟨fun e => ?_, fun e => by rw [e]⟩
  have e : (H R ds).length = ds.length := by omega
  unfold H at e
  rw [sr_len] at e
  exact mean_of h ((Hp.meaning_iff h.nd).mp e)
/-! the law's growth -/
theorem wp_grow {R : List Row} (k : Rk R) {ds : List Str} (h : St R ds) : WP (p__law_grow 0 R ds) 30 fun g => g = H R ds := by
  simp only [p__law_grow, sq_pnx, sq_prt, sq_bind, sq_if, fnR_prt, fnR_bind, fnR_if, pure_bind, bind_assoc, bind_pure, pIf_p, bAnd_p, bOr_p, bNot_p, gd_t]
  have hl := h.ln
  refine wp_eq (by rw [gd_of (decide_eq_true (by omega)), pure_bind]) ?_
  refine wp_fnR (wp_sq 30 0 (by omega) (wp_up (wp_for (m := 1) (I := fun rest F => Hp.Reach (kn R) ds F ∧ LtS F ∧ (Hp.Closed (kn R) ds F ∨ ds.length ≤ F.length + rest.length)) (R := fun o => WP (Fl.go _ o) 0 fun o => ∃ b, o = Fl.rt b ∧ b = H R ds) (fun F hI => ?_) (fun x rest F hI => ?_) _ _ ?_) ?_))
  · obtain ⟨Rc, lt, c⟩ := hI
    refine wp_pure ⟨_, rfl, ?_⟩
    have cl : Hp.Closed (kn R) ds F := by
      rcases c with c | c
      · exact c
      · exact fun o ho _ => Hp.nodup_back Rc.nd Rc.sub (by simpa using c) o ho
    have Hc := Hp.heart_reach (kn := kn R) h.nd
    exact lt_ext tki_s lt h.H.lt fun o => (Rc.same Hc.1 cl Hc.2 o).trans mem_H.symm
  · obtain ⟨Rc, lt, c⟩ := hI
    have hF := Hp.nodup_len F ds Rc.nd Rc.sub
    simp only [sq_pnx, sq_prt, sq_bind, sq_if, fnR_prt, fnR_bind, fnR_if, pure_bind, bind_assoc, bind_pure, pIf_p, bAnd_p, bOr_p, bNot_p, gd_t, e_next k h (fun x hx => h.sub x (Rc.sub x hx)) (by omega)]
    by_cases hf : Hp.fresh (kn R) ds F = []
    · rw [if_neg (by simp [hf])]
      exact wp_pure ⟨Rc, lt, .inl (Hp.closed_of_no_fresh hf)⟩
    · rw [if_pos (by simpa using hf)]
      have hp : 0 < (Hp.fresh (kn R) ds F).length := List.length_pos_iff.mpr hf
      have hq : (Hp.fresh (kn R) ds F).length ≤ ds.length := List.length_filter_le _ _
      refine wp_bind 1 0 (by omega) (wp_dr dr_ok (by omega) (by omega) fun v h0 h1 => ?_)
      obtain ⟨y, e, hy⟩ := atI_nn h0 h1
      rw [e, op_some, pure_bind]
      have hn : (F ++ [y]).length ≤ 100 := by rw [List.length_append, List.length_singleton]; omega
      rw [gd_of (size_t (by rw [List.length_singleton]; omega)), pure_bind, gd_of (size_t (by omega)), pure_bind]
      have R2 := Rc.add (G := [y]) (fun o ho => by rw [List.mem_singleton.mp ho]; exact hy) (by simp)
      refine wp_pure ⟨R2.perm (sr_perm eS _), sr_lt tki_s R2.nd, ?_⟩
      rcases c with c | c
      · exfalso
        have := Hp.mem_fresh.mp hy
        exact this.2.1 (c y this.1 this.2.2)
      · right
        rw [sr_len, List.length_append, List.length_singleton]
        rw [List.length_cons] at c
        omega
  · exact ⟨Hp.Reach.nil, List.Pairwise.nil, .inr (by rw [rgL_len]; simp)⟩
  · rw [rgL_len]; simp; omega
theorem wp_check_heart {R : List Row} (k : Rk R) {ds : List Str} (h : St R ds) : WP (p__law_check_heart 0 R ds) 30 fun b => b = true := by
  have Hc := Hp.heart_reach (kn := kn R) h.nd
  have hH := h.H
  simp only [p__law_check_heart, sq_pnx, sq_prt, sq_bind, sq_if, fnR_prt, fnR_bind, fnR_if, pure_bind, bind_assoc, bind_pure, pIf_p, bAnd_p, bOr_p, bNot_p, gd_t, e_heart k h, e_heart k hH, e_meaning k h, e_meaning k hH, H_self h, mean_iff h]
  refine wp_fnR (wp_sq 30 0 (by omega) (wp_pIf 30 0 (by omega) (wp_imp (Q := fun k => k = false) (wp_bind 30 0 (by omega) (wp_bind 30 0 (by omega) (wp_imp (wp_grow k h) fun g e => ?_))) fun b e => ?_)))
  · subst e
    refine wp_pure ?_
    simp only [decide_true, Bool.not_true]
    rw [if_neg (by decide)]
    simp
    exact wp_pure rfl
  · subst e
    rw [if_neg (by decide)]
    refine wp_pure ?_
    show WP (sq _ _) 0 _
    have e0 : (Lw.H R ds).filter (fun x4 => !decide (x4 ∈ ds) || !Hp.found (kn R x4) (Lw.H R ds)) = [] := by
      rw [List.filter_eq_nil_iff]
      intro x hx
      have hx' := mem_H.mp hx
      have f := Hp.found_mono (fun y hy => mem_H.mpr hy) (Hc.1.sound x hx')
      simp [Hc.1.sub x hx', f]
    have e1 : cp (fun x4 => bOr (pure !decide (x4 ∈ ds)) (bNot (p_finds_needs R (Lw.H R ds) x4))) (fun x4 => pure x4) (Lw.H R ds) = pure [] := by
      rw [← e0]
      refine cp_fil _ (sz (by have := hH.ln; omega)) fun x hx => ?_
      rw [e_finds k hH (hH.sub x hx), bNot_p, bOr_p]
    have e2 : Hp.fresh (kn R) ds (Lw.H R ds) = [] := by
      rw [Hp.fresh, List.filter_eq_nil_iff]
      intro x hx z
      rw [Bool.and_eq_true, Bool.not_eq_true', decide_eq_false_iff_not] at z
      exact z.1 (mem_H.mpr (Hc.2 x hx (Hp.found_mono (fun y hy => mem_H.mp hy) z.2)))
    rw [e1, e_next k h hH.sub (by have := hH.ln; omega), e2]
    simp only [sq_pnx, sq_prt, sq_bind, sq_if, fnR_prt, fnR_bind, fnR_if, pure_bind, bind_assoc, bind_pure, pIf_p, bAnd_p, bOr_p, bNot_p, gd_t]
    exact wp_pure ⟨_, rfl, by simp⟩
end Lw
set_option Elab.async false
set_option linter.all false
set_option maxRecDepth 100000
namespace Lw
open PySem Mi Tz
theorem lt_filter {xs : List Str} {p : Str → Bool} (h : LtS xs) : LtS (xs.filter p) := h.sublist List.filter_sublist
theorem St.fil {R : List Row} {ds : List Str} (h : St R ds) (p : Str → Bool) : St R (ds.filter p) :=
  ⟨lt_filter h.lt, fun x hx => h.sub x (List.mem_filter.mp hx).1, Nat.le_trans (List.length_filter_le _ _) h.ln⟩
theorem St.uni {R : List Row} {ds es : List Str} (h : St R ds) (k : St R es) (l : ds.length + es.length ≤ 30) : St R (sr eS (dd (ds ++ es))) := by
  refine ⟨sr_lt tki_s (nodup_dd _), fun x hx => ?_, ?_⟩
  · rcases List.mem_append.mp (mem_dd.mp (mem_sr.mp hx)) with z | z
    · exact h.sub x z
    · exact k.sub x z
  · rw [sr_len]
    exact Nat.le_trans (dd_len _) (by rw [List.length_append]; exact l)
theorem H_len {R : List Row} {ds : List Str} (h : St R ds) : (H R ds).length ≤ ds.length := by
  have Rc := (Hp.heart_reach (kn := kn R) h.nd).1
  unfold H
  rw [sr_len]
  exact Hp.nodup_len _ _ Rc.nd Rc.sub
theorem e_check_pair {R : List Row} (k : Rk R) {A B : List Str} (hA : St R A) (hB : St R B) (l : A.length + B.length ≤ 30) : p__law_check_pair R A B = pure true := by
  have lA := H_len hA
  have lB := H_len hB
  have sU := hA.uni hB l
  have sH := hA.H.uni hB.H (by omega)
  have sS := hA.fil (fun a => decide (a ∈ B))
  have sT := hA.H.fil (fun a => decide (a ∈ H R B))
  have c1 : cp (fun a => pure (decide (a ∈ B))) (fun x3 => pure x3) A = pure (A.filter fun a => decide (a ∈ B)) := cp_fil _ (sz (by omega)) fun _ _ => rfl
  have c2 : cp (fun a => pure !decide (a ∈ H R (sr eS (dd (A ++ B))))) (fun x3 => pure x3) (H R A ++ H R B) = pure [] := by
    rw [cp_fil (fun a => !decide (a ∈ H R (sr eS (dd (A ++ B))))) (sz (by rw [List.length_append]; omega)) fun _ _ => rfl, List.filter_eq_nil_iff.mpr]
    intro x hx z
    rw [Bool.not_eq_true', decide_eq_false_iff_not] at z
    apply z
    rw [mem_H]
    rcases List.mem_append.mp hx with q | q
    · exact Hp.heart_mono hA.nd sU.nd (fun y hy => mem_sr.mpr (mem_dd.mpr (List.mem_append_left _ hy))) x (mem_H.mp q)
    · exact Hp.heart_mono hB.nd sU.nd (fun y hy => mem_sr.mpr (mem_dd.mpr (List.mem_append_right _ hy))) x (mem_H.mp q)
  have c3 : cp (fun a => pure (decide (a ∈ H R B))) (fun x3 => pure x3) (H R A) = pure ((H R A).filter fun a => decide (a ∈ H R B)) := cp_fil _ (sz (by omega)) fun _ _ => rfl
  have a0 : L2.atI [H R A, H R B] 0 = some (H R A) := rfl
  have a1 : L2.atI [H R A, H R B] 1 = some (H R B) := rfl
  have mU : H R (sr eS (dd (H R A ++ H R B))) = sr eS (dd (H R A ++ H R B)) := by
    refine mean_of sH (Hp.union_ok hA.nd hB.nd sH.nd fun o => ?_)
    rw [mem_sr, mem_dd, List.mem_append, mem_H, mem_H]
  have mI : H R ((H R A).filter fun a => decide (a ∈ H R B)) = H R (A.filter fun a => decide (a ∈ B)) := by
    refine H_eq sT.nd sS.nd (Hp.inter_ok hA.nd hB.nd sS.nd sT.nd (fun o => ?_) (fun o => ?_))
    · rw [List.mem_filter, decide_eq_true_iff]
    · rw [List.mem_filter, decide_eq_true_iff, mem_H, mem_H]
  simp only [p__law_check_pair, sq_pnx, sq_prt, sq_bind, sq_if, fnR_prt, fnR_bind, fnR_if, pure_bind, bind_assoc, bind_pure, pIf_p, bAnd_p, bOr_p, bNot_p, gd_t, gd_of (size_t (show A.length + B.length ≤ 16777216 by omega)), gd_of (decide_eq_true (show (A ++ B).length ≤ 4000 by rw [List.length_append]; omega)), c1, e_heart k hA, e_heart k hB, e_heart k sU, a0, a1, op_some,
    gd_of (size_t (show (H R A).length + (H R B).length ≤ 16777216 by omega)), c2, gd_of (decide_eq_true (show (H R A ++ H R B).length ≤ 4000 by rw [List.length_append]; omega)), e_meaning k sH, c3, e_heart k sT, e_heart k sS, mU, mI]
  simp only [decide_true, Bool.not_true, if_neg (show ¬ (false = true) by decide), sq_pnx, sq_prt, sq_bind, sq_if, fnR_prt, fnR_bind, fnR_if, pure_bind, bind_assoc, bind_pure, pIf_p, bAnd_p, bOr_p, bNot_p, gd_t]
/-! random sets -/
theorem e_names {R : List Row} (hz : R.length ≤ 1000) : p__law_deed_names R = pure (nms R) := by
  simp only [p__law_deed_names, sq_pnx, sq_prt, sq_bind, sq_if, fnR_prt, fnR_bind, fnR_if, pure_bind, bind_assoc, bind_pure, pIf_p, bAnd_p, bOr_p, bNot_p, gd_t]
  exact cp_map (fun r : Row => r.1) (sz hz) fun _ _ => rfl
structure Rl (R : List Row) : Prop where
  k : Rk R
  lt : LtS (nms R)
  ln : R.length ≤ 10
theorem Rl.all {R : List Row} (h : Rl R) : St R (nms R) := ⟨h.lt, fun _ hx => hx, by rw [List.length_map]; have := h.ln; omega⟩
theorem wp_subset {R : List Row} (h : Rl R) : WP (p__law_random_subset 0 R) 30 fun ds => St R ds ∧ ds.length ≤ 10 := by
  have hl := h.ln
  simp only [p__law_random_subset, sq_pnx, sq_prt, sq_bind, sq_if, fnR_prt, fnR_bind, fnR_if, pure_bind, bind_assoc, bind_pure, pIf_p, bAnd_p, bOr_p, bNot_p, gd_t, e_names h.k.ln]
  refine wp_bind 1 29 (by omega) (wp_dr dr_ok (by omega) (by omega) fun w h0 h1 => ?_)
  refine wp_mono (wp_fil (m := 1) (sz (by rw [List.length_map]; omega)) fun x hx => ?_) (by rw [List.length_map]; omega) fun ds sub => ⟨⟨h.lt.sublist sub, fun x hx => sub.subset hx, ?_⟩, ?_⟩
  · rw [bOr_pl, bAnd_pl]
    by_cases z : w = 0
    · rw [if_pos (decide_eq_true z)]
      exact wp_pure trivial
    · rw [if_neg (by simpa using z)]
      by_cases y : 1 < w
      · rw [if_pos (decide_eq_true y)]
        exact wp_bind 1 0 (by omega) (wp_dr dr_ok (by omega) (by omega) fun v _ _ => wp_pure trivial)
      · rw [if_neg (by simpa using y)]
        exact wp_pure trivial
  · exact Nat.le_trans sub.length_le (by rw [List.length_map]; omega)
  · exact Nat.le_trans sub.length_le (by rw [List.length_map]; omega)
end Lw
set_option Elab.async false
set_option linter.all false
set_option maxRecDepth 100000
namespace Lw
open PySem Mi Tz
abbrev POOL : List Str := [Str.ofString "a", Str.ofString "ab", Str.ofString "b", Str.ofString "dig", Str.ofString "lay", Str.ofString "mow", Str.ofString "put", Str.ofString "rake", Str.ofString "saw", Str.ofString "zzzzzzzz"]
abbrev HAND : List Str := [Str.ofString "ann", Str.ofString "bob", Str.ofString "cy"]
abbrev LtT (xs : List (List Str)) : Prop := xs.Pairwise fun a b => W.dataLt (eT eS a) (eT eS b) = true
/-- a whole roll, at most m rows of needs each -/
structure Ro (m : Nat) (R : List Row) : Prop where
  lt : LtS (nms R)
  pool : ∀ r ∈ R, r.1 ∈ POOL
  hand : ∀ r ∈ R, r.2.1 ∈ HAND
  ne : ∀ r ∈ R, r.2.2 ≠ []
  lts : ∀ r ∈ R, LtT r.2.2
  row : ∀ r ∈ R, ∀ n ∈ r.2.2, LtS n ∧ ∀ o ∈ n, o ∈ nms R
  nl : ∀ r ∈ R, r.2.2.length ≤ m
  ln : R.length ≤ 10
theorem Ro.rl {m : Nat} {R : List Row} (h : Ro m R) (hm : m ≤ 1000) : Rl R where
  k := ⟨lt_nodup h.lt, by have := h.ln; omega, fun r hr => Nat.le_trans (h.nl r hr) hm, fun r hr n hn => by
    have := h.row r hr n hn
    have l := Hp.nodup_len _ _ (lt_nodup this.1) this.2
    have := h.ln
    rw [List.length_map] at l
    omega⟩
  lt := h.lt
  ln := h.ln
theorem e_name {x : Str} (h : x ∈ POOL ∨ x ∈ HAND) : p_is_name x = pure true := by
  have e : ∀ x ∈ POOL ++ HAND, p_is_name x = pure true := by
    intro x hx
    funext s
    simp only [List.cons_append, List.nil_append, List.mem_cons, List.not_mem_nil, or_false] at hx
    rcases hx with rfl | rfl | rfl | rfl | rfl | rfl | rfl | rfl | rfl | rfl | rfl | rfl | rfl <;> kernel_rfl
  exact e x (List.mem_append.mpr h)
theorem e_set {R : List Row} (hp : ∀ x ∈ nms R, x ∈ POOL) {n : List Str} (hz : n.length ≤ 1000) (h : LtS n) (hs : ∀ o ∈ n, o ∈ nms R) : p_is_set n = pure true := by
  have c1 : cp (fun x1 => pure true) (fun x1 => p_is_name x1) n = pure (n.map fun _ => true) := cp_map _ (sz hz) fun x hx => e_name (.inl (hp x (hs x hx)))
  have c2 : cp (fun x1 => pure true) (fun x1 => pure (W.dataLt (eS x1.fst) (eS x1.snd))) (n.zip (n.drop 1)) = pure ((n.zip (n.drop 1)).map fun x1 => W.dataLt (eS x1.fst) (eS x1.snd)) := cp_map _ (sz (by rw [List.length_zip]; omega)) fun _ _ => rfl
  have a1 : ((n.map fun _ => true).all id) = true := all_id fun _ _ => rfl
  have a2 : (((n.zip (n.drop 1)).map fun x1 => W.dataLt (eS x1.fst) (eS x1.snd)).all id) = true := all_id fun p hp => zip_tail (lt := fun a b => W.dataLt (eS a) (eS b)) h p hp
  have d : cutD n (some 1) none = n.drop 1 := cut_drop (by decide)
  simp only [p_is_set, p_are_all_3, p_rise_1, sq_pnx, sq_prt, sq_bind, sq_if, fnR_prt, fnR_bind, fnR_if, pure_bind, bind_assoc, bind_pure, pIf_p, bAnd_p, bOr_p, bNot_p, gd_t, c1, d, c2, a1, a2]
  rfl
theorem e_needs {R : List Row} (hp : ∀ x ∈ nms R, x ∈ POOL) {ns : List (List Str)} (hn : ns ≠ []) (hz : ns.length ≤ 1000) (hl : LtT ns) (hs : ∀ n ∈ ns, n.length ≤ 1000 ∧ LtS n ∧ ∀ o ∈ n, o ∈ nms R) : p_are_needs ns = pure true := by
  have c1 : cp (fun x1 => pure true) (fun x1 => p_is_set x1) ns = pure (ns.map fun _ => true) := cp_map _ (sz hz) fun x hx => e_set hp (hs x hx).1 (hs x hx).2.1 (hs x hx).2.2
  have c2 : cp (fun x1 => pure true) (fun x1 => pure (W.dataLt (eT eS x1.fst) (eT eS x1.snd))) (ns.zip (ns.drop 1)) = pure ((ns.zip (ns.drop 1)).map fun x1 => W.dataLt (eT eS x1.fst) (eT eS x1.snd)) := cp_map _ (sz (by rw [List.length_zip]; omega)) fun _ _ => rfl
  have a1 : ((ns.map fun _ => true).all id) = true := all_id fun _ _ => rfl
  have a2 : (((ns.zip (ns.drop 1)).map fun x1 => W.dataLt (eT eS x1.fst) (eT eS x1.snd)).all id) = true := all_id fun p hp => zip_tail (lt := fun a b => W.dataLt (eT eS a) (eT eS b)) hl p hp
  have d : cutD ns (some 1) none = ns.drop 1 := cut_drop (by decide)
  simp only [p_are_needs, p_are_all_2, p_rise_2, sq_pnx, sq_prt, sq_bind, sq_if, fnR_prt, fnR_bind, fnR_if, pure_bind, bind_assoc, bind_pure, pIf_p, bAnd_p, bOr_p, bNot_p, gd_t, c1, d, c2, a1, a2, decide_eq_false hn]
  rfl
theorem mem_enL {α : Type} {xs : List α} {p : Int × α} (h : p ∈ enL xs) : ∃ k : Nat, k < xs.length ∧ p.1 = (k : Int) ∧ xs[k]? = some p.2 := by
  unfold enL at h
  obtain ⟨q, hq, rfl⟩ := List.mem_map.mp h
  obtain ⟨h1, h2, h3⟩ := List.mem_zipIdx hq
  refine ⟨q.2, by simpa using h2, rfl, ?_⟩
  rw [List.getElem?_eq_getElem (by simpa using h2)]
  simp at h3
  rw [h3]
theorem so1 (w : Str) (c : Int) : p_need_so_1 true w c = pure () := by
  simp only [p_need_so_1, sq_pnx, sq_prt, sq_bind, sq_if, fnR_prt, fnR_bind, fnR_if, pure_bind, bind_assoc, bind_pure, pIf_p, bAnd_p, bOr_p, bNot_p, gd_t]
  rfl
theorem so2 (w : Str) (c : List Int) : p_need_so_2 true w c = pure () := by
  simp only [p_need_so_2, sq_pnx, sq_prt, sq_bind, sq_if, fnR_prt, fnR_bind, fnR_if, pure_bind, bind_assoc, bind_pure, pIf_p, bAnd_p, bOr_p, bNot_p, gd_t]
  rfl
theorem e_lets {m : Nat} {R : List Row} (h : Ro m R) (hm : m ≤ 1000) : p_lets_roll R = pure (R.length : Int) := by
  have hl := h.ln
  have hp : ∀ x ∈ nms R, x ∈ POOL := fun x hx => by
    obtain ⟨r, hr, rfl⟩ := List.mem_map.mp hx
    exact h.pool r hr
  have row : ∀ r ∈ R, p_is_deed_row r = pure true := fun r hr => by
    have hn := e_needs hp (h.ne r hr) (Nat.le_trans (h.nl r hr) hm) (h.lts r hr) fun n hn => ⟨(h.rl hm).k.rl r hr n hn, h.row r hr n hn⟩
    simp only [p_is_deed_row, sq_pnx, sq_prt, sq_bind, sq_if, fnR_prt, fnR_bind, fnR_if, pure_bind, bind_assoc, bind_pure, pIf_p, bAnd_p, bOr_p, bNot_p, gd_t, e_name (.inl (h.pool r hr)), e_name (.inr (h.hand r hr)), hn]
    rfl
  have c1 : cp (fun x1 => pure true) (fun x1 => p_is_deed_row x1) R = pure (R.map fun _ => true) := cp_map _ (sz (by omega)) row
  have a1 : ((R.map fun _ => true).all id) = true := all_id fun _ _ => rfl
  have c2 : cp (fun x3 : Row => pure true) (fun x3 => pure x3.fst) R = pure (nms R) := cp_map (fun r : Row => r.1) (sz (by omega)) fun _ _ => rfl
  simp only [p_lets_roll, p_are_all_1, sq_pnx, sq_prt, sq_bind, sq_if, fnR_prt, fnR_bind, fnR_if, pure_bind, bind_assoc, bind_pure, pIf_p, bAnd_p, bOr_p, bNot_p, gd_t, c1, a1, Bool.and_self, so1, c2]
  rw [forF_U]
  · simp only [sq_pnx, sq_prt, sq_bind, sq_if, fnR_prt, fnR_bind, fnR_if, pure_bind, bind_assoc, bind_pure, pIf_p, bAnd_p, bOr_p, bNot_p, gd_t]
  · intro p hp2
    obtain ⟨k, hk, e1, e2⟩ := mem_enL hp2
    have hr : p.2 ∈ R := List.mem_of_getElem? e2
    have t : (bOr (pure (decide (p.1 = 0))) (op (L2.atI (nms R) (p.1 - 1)) >>= fun a => pure (W.dataLt (eS a) (eS p.2.1)))) = pure true := by
      rw [bOr_pl]
      by_cases z : p.1 = 0
      · rw [if_pos (decide_eq_true z)]
      · rw [if_neg (by simpa using z), atI_get' (by omega)]
        have k1 : (p.1 - 1).toNat = k - 1 := by omega
        have hk1 : k - 1 < (nms R).length := by rw [List.length_map]; omega
        have hk2 : k < (nms R).length := by rw [List.length_map]; omega
        rw [k1, List.getElem?_eq_getElem hk1, op_some, pure_bind]
        have := List.pairwise_iff_getElem.mp h.lt (k - 1) k hk1 hk2 (by omega)
        have e3 : (nms R)[k] = p.2.1 := by
          rw [List.getElem_map]
          rw [List.getElem?_eq_getElem hk] at e2
          rw [Option.some.inj e2]
        rw [e3] at this
        rw [this]
    rw [t, pure_bind, so1, pure_bind]
    rw [forF_U]
    · simp only [sq_pnx, sq_prt, sq_bind, sq_if, fnR_prt, fnR_bind, fnR_if, pure_bind, bind_assoc, bind_pure, pIf_p, bAnd_p, bOr_p, bNot_p, gd_t]
    · intro q hq
      obtain ⟨j, hj, f1, f2⟩ := mem_enL hq
      have hn : q.2 ∈ p.2.2.2 := List.mem_of_getElem? f2
      rw [forF_U]
      · simp only [sq_pnx, sq_prt, sq_bind, sq_if, fnR_prt, fnR_bind, fnR_if, pure_bind, bind_assoc, bind_pure, pIf_p, bAnd_p, bOr_p, bNot_p, gd_t]
      · intro u hu
        obtain ⟨i, hi, g1, g2⟩ := mem_enL hu
        rw [decide_eq_true ((h.row _ hr _ hn).2 _ (List.mem_of_getElem? g2)), so2, pure_bind]
end Lw
set_option Elab.async false
set_option linter.all false
set_option maxRecDepth 100000
namespace Lw
open PySem Mi Tz PyProof.Rows
/-- rows of needs over the deeds of E -/
structure Nd (m : Nat) (E : List Str) (ns : List (List Str)) : Prop where
  ne : ns ≠ []
  lt : LtT ns
  row : ∀ n ∈ ns, LtS n ∧ ∀ o ∈ n, o ∈ E
  nl : ns.length ≤ m
theorem sr_ne {α : Type} {e : α → PyData} [DecidableEq α] {xs : List α} (h : xs ≠ []) : sr e (dd xs) ≠ [] := fun z => by
  cases xs with
  | nil => exact h rfl
  | cons x xs =>
    have : x ∈ sr e (dd (x :: xs)) := mem_sr.mpr (mem_dd.mpr List.mem_cons_self)
    rw [z] at this
    cases this
theorem wp_needs {E B : List Str} (hB : ∀ o ∈ B, o ∈ E) (hE : E.length ≤ 1000) (hB2 : B.length ≤ 1000) : WP (p__law_random_needs 0 E B) 30 (Nd 2 E) := by
  simp only [p__law_random_needs, sq_pnx, sq_prt, sq_bind, sq_if, fnR_prt, fnR_bind, fnR_if, pure_bind, bind_assoc, bind_pure, pIf_p, bAnd_p, bOr_p, bNot_p, gd_t]
  refine wp_bind 1 29 (by omega) (wp_dr dr_ok (by omega) (by omega) fun w h0 h1 => ?_)
  rw [gd_of (decide_eq_true (by omega)), pure_bind]
  have hw : (rgL (1 + w)).length ≤ 2 := by rw [rgL_len]; omega
  refine wp_fnR (wp_sq 29 0 (by omega) (wp_mono (wp_for (m := 10) (I := fun rest acc => (∀ n ∈ acc, LtS n ∧ ∀ o ∈ n, o ∈ E) ∧ acc.length + rest.length = (rgL (1 + w)).length) (R := fun o => ∃ acc, o = .nx acc ∧ (∀ n ∈ acc, LtS n ∧ ∀ o ∈ n, o ∈ E) ∧ acc.length = (rgL (1 + w)).length) (fun acc hI => ⟨acc, rfl, hI.1, by simpa using hI.2⟩) (fun x rest acc hI => ?_) _ _ ⟨by simp, by simp⟩) (by omega) fun o ho => ?_))
  · refine wp_bind (f := fun c9 => _) 1 9 (by omega) (wp_imp (Q := fun c9 => c9.length ≤ 1000 ∧ ∀ o ∈ c9, o ∈ E) (wp_pIf 1 0 (by omega) (wp_bind 1 0 (by omega) (wp_dr dr_ok (by omega) (by omega) fun v _ _ => wp_pure ?_))) fun c9 ⟨hc9, h9⟩ => ?_)
    · by_cases z : v = 0
      · rw [if_pos (decide_eq_true z)]; exact wp_pure ⟨hE, fun o h => h⟩
      · rw [if_neg (by simpa using z)]; exact wp_pure ⟨hB2, hB⟩
    · refine wp_bind 1 8 (by omega) (wp_dr dr_ok (by omega) (by omega) fun v v0 v1 => ?_)
      -- how many
      have cm : cmul v (if (!decide (c9 = [])) = true then 1 else 0) = true := by
        unfold cmul
        rw [Bool.or_eq_true]
        exact .inl (decide_eq_true (by omega))
      rw [gd_of cm, pure_bind]
      by_cases z : c9 = []
      · have e0 : (v * if (!decide (c9 = [])) = true then 1 else 0) = 0 := by rw [if_neg (by simp [z])]; omega
        rw [e0, gd_of (decide_eq_true (by omega)), pure_bind]
        have c0 : ∀ f : Int → PM Str, cp (fun x11 => pure true) f (rgL 0) = pure [] := fun f => rfl
        rw [c0, pure_bind]
        refine wp_eq (by rw [gd_of (decide_eq_true (by simp)), pure_bind, gd_of (decide_eq_true (by have := PySem.sizeLine_eq; omega)), pure_bind]) (wp_pure ?_)
        refine ⟨fun n hn => ?_, ?_⟩
        · rcases List.mem_append.mp hn with q | q
          · exact hI.1 n q
          · rw [List.mem_singleton.mp q]
            have e00 : sr eS (dd ([] : List Str)) = [] := by simp [sr, dd]
            rw [e00]
            exact ⟨List.Pairwise.nil, fun o ho => by cases ho⟩
        · have := hI.2
          rw [List.length_cons] at this
          rw [List.length_append, List.length_singleton]
          omega
      · have e1 : (v * if (!decide (c9 = [])) = true then 1 else 0) = v := by rw [if_pos (by simpa using z)]; omega
        rw [e1, gd_of (decide_eq_true (by omega)), pure_bind]
        have hp : 0 < c9.length := List.length_pos_iff.mpr z
        refine wp_bind 4 4 (by omega) (wp_mono (wp_cp (m := 1) (Q := fun y => y ∈ E) (sz (by rw [rgL_len]; omega)) fun x hx => ?_) (by rw [rgL_len]; omega) fun ys hy => ?_)
        · refine wp_bind 1 0 (by omega) (wp_dr dr_ok (by omega) (by omega) fun u u0 u1 => ?_)
          obtain ⟨y, e, hy⟩ := atI_nn u0 u1
          exact wp_op e (h9 y hy)
        · obtain ⟨y1, y2⟩ := hy
          rw [rgL_len] at y1
          rw [gd_of (decide_eq_true (by omega)), pure_bind, gd_of (decide_eq_true (by have := PySem.sizeLine_eq; omega)), pure_bind]
          refine wp_pure ⟨fun n hn => ?_, ?_⟩
          · rcases List.mem_append.mp hn with q | q
            · exact hI.1 n q
            · rw [List.mem_singleton.mp q]
              exact ⟨sr_lt tki_s (nodup_dd _), fun o ho => y2 o (mem_dd.mp (mem_sr.mp ho))⟩
          · have := hI.2
            rw [List.length_cons] at this
            rw [List.length_append, List.length_singleton]
            omega
  · obtain ⟨acc, rfl, a1, a2⟩ := ho
    show WP (gd _ _ >>= _) 0 _
    have hl : (rgL (1 + w)).length = (1 + w).toNat := rgL_len _
    rw [gd_of (decide_eq_true (by omega)), pure_bind]
    refine wp_pure ⟨_, rfl, sr_ne (fun z => by rw [z] at a2; simp at a2; omega), sr_lt tki_t (nodup_dd _), fun n hn => a1 n (mem_dd.mp (mem_sr.mp hn)), ?_⟩
    rw [sr_len]
    have := dd_len acc
    omega
abbrev eR : Row → PyData := eP3 eS eS (eT (eT eS))
theorem tk_row (x : Row) : ∃ t, tk (eR x) = .inl 1 :: .inr x.1.cps.toList :: t := by
  refine ⟨W.keyToksAll [eS x.2.1, eT (eT eS) x.2.2], ?_⟩
  show W.keyToks (.tuple [eS x.1, eS x.2.1, eT (eT eS) x.2.2]) = _
  rw [W.keyToks, W.keyToksAll, W.keyToks]
  rfl
theorem tk_str (x : Str) : tk (eS x) = [.inr x.cps.toList] := by
  show W.keyToks (.str x) = _
  rw [W.keyToks]
theorem row_lt {x y : Row} (n : x.1 ≠ y.1) (h : dle (eR x) (eR y) = true) : W.dataLt (eS x.1) (eS y.1) = true := by
  obtain ⟨t, e1⟩ := tk_row x
  obtain ⟨u, e2⟩ := tk_row y
  have ne : (Sum.inr y.1.cps.toList : Int ⊕ List Nat) ≠ .inr x.1.cps.toList := fun z => by
    injection z with z
    exact n (W.str_of_cps z.symm)
  have k : kO.blt (tk (eR y)) (tk (eR x)) = kO.blt (tk (eS y.1)) (tk (eS x.1)) := by
    rw [e1, e2, tk_str, tk_str]
    show lexLt itemOrd (.inl 1 :: .inr y.1.cps.toList :: u) (.inl 1 :: .inr x.1.cps.toList :: t) = lexLt itemOrd [.inr y.1.cps.toList] [.inr x.1.cps.toList]
    rw [lex_self]
    exact W.lex_atom ne _ _
  rw [dle_def, k] at h
  rw [dlt_def]
  cases q : kO.blt (tk (eS x.1)) (tk (eS y.1)) with
  | true => rfl
  | false => exact absurd (str_inj (kO.total _ _ q (by simpa using h))) n
theorem nms_sorted {rows : List Row} (h : (rows.map (·.1)).Nodup) : LtS (nms (sr eR rows)) := by
  have p : ((sr eR rows).map (·.1)).Nodup := ((sr_perm eR rows).map _).nodup_iff.mpr h
  refine List.pairwise_map.mpr ?_
  have p' := List.pairwise_map.mp p
  have := List.Pairwise.and p' (sr_le eR rows)
  exact this.imp fun ⟨h1, h2⟩ => row_lt h1 h2
theorem era_perm {α : Type} : ∀ (xs : List α) (i : Nat) (h : i < xs.length), (xs[i] :: xs.eraseIdx i).Perm xs
  | x :: xs, 0, _ => List.Perm.refl _
  | x :: xs, i + 1, h => by
    have hi : i < xs.length := by simpa using h
    have ih := era_perm xs i hi
    show (xs[i] :: x :: xs.eraseIdx i).Perm (x :: xs)
    exact (List.Perm.swap _ _ _).trans (ih.cons x)
theorem popL_nn {α : Type} {xs : List α} {i : Int} (h : 0 ≤ i) (h2 : i < xs.length) (hz : xs.length ≤ 1000) : ∃ x, popL xs i = some (x, xs.eraseIdx i.toNat) ∧ (x :: xs.eraseIdx i.toNat).Perm xs := by
  have hk : i.toNat < xs.length := by omega
  refine ⟨xs[i.toNat], ?_, ?_⟩
  · unfold popL
    rw [if_pos (size_t (by omega)), ixN_nn h h2]
    show (xs[i.toNat]?).map _ = _
    rw [List.getElem?_eq_getElem hk]
    rfl
  · exact era_perm xs _ hk
theorem wp_roll : WP (p__law_random_roll 0 10) 400 (Ro 2) := by
  simp only [p__law_random_roll, sq_pnx, sq_prt, sq_bind, sq_if, fnR_prt, fnR_bind, fnR_if, pure_bind, bind_assoc, bind_pure, pIf_p, bAnd_p, bOr_p, bNot_p, gd_t]
  refine wp_bind 1 399 (by omega) (wp_dr dr_ok (by omega) (by omega) fun w h0 h1 => ?_)
  rw [gd_of (decide_eq_true (by omega)), pure_bind]
  have hw : (rgL w).length ≤ 10 := by rw [rgL_len]; omega
  refine wp_fnR (wp_sq 10 389 (by omega) (wp_mono (wp_for (m := 1) (I := fun rest (s : List Str × List Str) => (s.1 ++ s.2).Perm POOL ∧ s.2.length + rest.length ≤ 10) (R := fun o => ∃ s : List Str × List Str, o = .nx s ∧ (s.1 ++ s.2).Perm POOL) (fun s hI => ⟨s, rfl, hI.1⟩) (fun x rest s hI => ?_) _ _ ⟨by simp, by simpa using hw⟩) (by omega) fun o ho => ?_))
  · have hl : s.1.length + s.2.length = 10 := by have := hI.1.length_eq; rw [List.length_append] at this; exact this
    have hI2 := hI.2
    rw [List.length_cons] at hI2
    refine wp_bind 1 0 (by omega) (wp_dr dr_ok (by omega) (by omega) fun v v0 v1 => ?_)
    obtain ⟨y, e, hp⟩ := popL_nn v0 v1 (by omega)
    rw [e, op_some, pure_bind, gd_of (decide_eq_true (by have := PySem.sizeLine_eq; omega)), pure_bind]
    refine wp_pure ⟨?_, by rw [List.length_append, List.length_singleton]; omega⟩
    refine List.Perm.trans ?_ hI.1
    show (s.1.eraseIdx v.toNat ++ (s.2 ++ [y])).Perm (s.1 ++ s.2)
    have e1 : (s.1.eraseIdx v.toNat ++ (s.2 ++ [y])).Perm (y :: (s.1.eraseIdx v.toNat ++ s.2)) := by
      rw [← List.append_assoc]
      exact List.perm_append_singleton y _
    exact e1.trans (hp.append_right s.2)
  · obtain ⟨⟨pool, order⟩, rfl, hp⟩ := ho
    replace hp : (pool ++ order).Perm POOL := hp
    have hnd : order.Nodup := (List.nodup_append.mp (hp.nodup_iff.mpr (by decide +kernel))).2.1
    have hsub : ∀ o ∈ order, o ∈ POOL := fun o ho => hp.mem_iff.mp (List.mem_append_right _ ho)
    have hlen : order.length ≤ 10 := by have := hp.length_eq; rw [List.length_append] at this; have e : POOL.length = 10 := rfl; omega
    show WP (gd _ _ >>= _) 389 _
    dsimp only
    rw [gd_of (decide_eq_true (by omega)), pure_bind]
    have hrg : (rgL (order.length : Int)) = (List.range order.length).map fun i => ((i : Nat) : Int) := by
      unfold rgL
      rw [Int.toNat_natCast]
      congr 1
      funext i
      omega
    refine wp_sq 389 0 (by omega) (wp_mono (wp_for (m := 31) (I := fun rest (rows : List Row) => ∃ j, rest = ((List.range order.length).drop j).map (fun i => ((i : Nat) : Int)) ∧ j ≤ order.length ∧ rows.map (·.1) = order.take j ∧ ∀ r ∈ rows, r.2.1 ∈ HAND ∧ Nd 2 order r.2.2) (R := fun o => ∃ rows : List Row, o = .nx rows ∧ rows.map (·.1) = order ∧ ∀ r ∈ rows, r.2.1 ∈ HAND ∧ Nd 2 order r.2.2) (fun rows hI => ?_) (fun x rest rows hI => ?_) _ _ ⟨0, by rw [hrg]; simp, by omega, by simp, by simp⟩) (by rw [rgL_len, Int.toNat_natCast]; omega) fun o ho => ?_)
    · obtain ⟨j, e, hj, q1, q2⟩ := hI
      have : (List.range order.length).drop j = [] := by simpa using e.symm
      rw [List.drop_eq_nil_iff, List.length_range] at this
      exact ⟨rows, rfl, by rw [q1, List.take_of_length_le this], q2⟩
    · obtain ⟨j, e, hj, q1, q2⟩ := hI
      have hj2 : j < order.length := by
        rcases Nat.lt_or_ge j order.length with z | z
        · exact z
        · rw [List.drop_of_length_le (by rw [List.length_range]; exact z)] at e
          cases e
      rw [List.drop_eq_getElem_cons (by rw [List.length_range]; exact hj2), List.getElem_range, List.map_cons] at e
      injection e with e1 e2
      subst e1
      refine wp_bind 1 30 (by omega) (wp_dr dr_ok (by omega) (by omega) fun v v0 v1 => ?_)
      obtain ⟨hand, f1, f2⟩ := atI_nn (xs := HAND) v0 v1
      rw [f1, op_some, pure_bind, atI_get' (by omega), Int.toNat_natCast, List.getElem?_eq_getElem hj2, op_some, pure_bind]
      have cl : cutD order none (some ((j : Nat) : Int)) = order.take j := by rw [cut_take (by omega), Int.toNat_natCast]
      rw [cl]
      refine wp_bind 30 0 (by omega) (wp_imp (wp_needs (fun o ho => List.mem_of_mem_take ho) (by omega) (by rw [List.length_take]; omega)) fun ns hns => ?_)
      have hrl : rows.length ≤ 10 := by
        have := congrArg List.length q1
        rw [List.length_map, List.length_take] at this
        omega
      rw [gd_of (decide_eq_true (by have := PySem.sizeLine_eq; omega)), pure_bind]
      refine wp_pure ⟨j + 1, e2, by omega, ?_, fun r hr => ?_⟩
      · rw [List.map_append, q1, List.take_succ, List.getElem?_eq_getElem hj2]
        rfl
      · rcases List.mem_append.mp hr with z | z
        · exact q2 r z
        · rw [List.mem_singleton.mp z]
          exact ⟨f2, hns⟩
    · obtain ⟨rows, rfl, q1, q2⟩ := ho
      have hrl : rows.length = order.length := by rw [← q1, List.length_map]
      show WP (gd _ _ >>= _) 0 _
      rw [gd_of (size_t (by omega)), pure_bind]
      have hn : nms (sr eR rows) = nms (sr eR rows) := rfl
      have mem : ∀ o, o ∈ nms (sr eR rows) ↔ o ∈ order := fun o => by
        rw [← q1]
        exact ((sr_perm eR rows).map _).mem_iff
      refine wp_pure ⟨_, rfl, nms_sorted (by rw [q1]; exact hnd), fun r hr => hsub _ ((mem _).mp (List.mem_map.mpr ⟨r, hr, rfl⟩)), fun r hr => (q2 r (mem_sr.mp hr)).1, fun r hr => (q2 r (mem_sr.mp hr)).2.ne, fun r hr => (q2 r (mem_sr.mp hr)).2.lt,
        fun r hr n hn => ⟨((q2 r (mem_sr.mp hr)).2.row n hn).1, fun o ho => (mem o).mpr (((q2 r (mem_sr.mp hr)).2.row n hn).2 o ho)⟩, fun r hr => (q2 r (mem_sr.mp hr)).2.nl, by rw [sr_len]; omega⟩
end Lw
set_option Elab.async false
set_option linter.all false
set_option maxRecDepth 100000
namespace Lw
open PySem Mi Tz
/-- every set that finds the needs finds the easier ones -/
abbrev Eas (R R' : List Row) : Prop := ∀ o X, Hp.found (kn R o) X = true → Hp.found (kn R' o) X = true
theorem kn_at {R : List Row} (k : Rk R) {r : Row} (h : r ∈ R) : kn R r.1 = r.2.2 := by
  unfold kn
  rw [lk_map (f := fun r : Row => r.1) (g := fun r => r.2.2) k.nd h]
  rfl
theorem relax_ok {R : List Row} (h : Ro 2 R) {i : Nat} (hi : i < R.length) {c5 : List (List Str)} (hne : c5 ≠ []) (hrow : ∀ n ∈ c5, LtS n ∧ ∀ o ∈ n, o ∈ nms R) (hl : c5.length ≤ 3) (hf : ∀ X, Hp.found R[i].2.2 X = true → Hp.found c5 X = true) :
    Ro 3 (R.set i (R[i].1, R[i].2.1, sr (eT eS) (dd c5))) ∧ nms (R.set i (R[i].1, R[i].2.1, sr (eT eS) (dd c5))) = nms R ∧ Eas R (R.set i (R[i].1, R[i].2.1, sr (eT eS) (dd c5))) := by
  have hn : nms (R.set i (R[i].1, R[i].2.1, sr (eT eS) (dd c5))) = nms R := by
    rw [nms, List.map_set]
    show (nms R).set i R[i].1 = nms R
    have : (nms R)[i]'(by rw [List.length_map]; exact hi) = R[i].1 := by rw [List.getElem_map]
    rw [← this]
    exact List.set_getElem_self _
  have mem : ∀ r ∈ R.set i (R[i].1, R[i].2.1, sr (eT eS) (dd c5)), r ∈ R ∨ r = (R[i].1, R[i].2.1, sr (eT eS) (dd c5)) := fun r hr => List.mem_or_eq_of_mem_set hr
  have hR : R[i] ∈ R := List.getElem_mem hi
  have ro : Ro 3 (R.set i (R[i].1, R[i].2.1, sr (eT eS) (dd c5))) := by
    refine ⟨by rw [hn]; exact h.lt, fun r hr => ?_, fun r hr => ?_, fun r hr => ?_, fun r hr => ?_, fun r hr n hh => ?_, fun r hr => ?_, by rw [List.length_set]; exact h.ln⟩
    · rcases mem r hr with z | rfl
      · exact h.pool r z
      · exact h.pool R[i] hR
    · rcases mem r hr with z | rfl
      · exact h.hand r z
      · exact h.hand R[i] hR
    · rcases mem r hr with z | rfl
      · exact h.ne r z
      · exact sr_ne hne
    · rcases mem r hr with z | rfl
      · exact h.lts r z
      · exact sr_lt tki_t (nodup_dd _)
    · rw [hn]
      rcases mem r hr with z | rfl
      · exact h.row r z n hh
      · exact hrow n (mem_dd.mp (mem_sr.mp hh))
    · rcases mem r hr with z | rfl
      · have := h.nl r z; omega
      · show (sr (eT eS) (dd c5)).length ≤ 3
        rw [sr_len]
        exact Nat.le_trans (dd_len _) hl
  refine ⟨ro, hn, fun o X f => ?_⟩
  have k := (h.rl (by omega)).k
  have k' := (ro.rl (by omega)).k
  by_cases ho : o ∈ nms R
  · obtain ⟨r, hr, rfl, _, e⟩ := kn_row k ho
    rw [e] at f
    obtain ⟨j, hj, rfl⟩ := List.getElem_of_mem hr
    by_cases z : j = i
    · subst z
      have m2 : (R[j].1, R[j].2.1, sr (eT eS) (dd c5)) ∈ R.set j (R[j].1, R[j].2.1, sr (eT eS) (dd c5)) := List.mem_set hi _
      have := kn_at k' m2
      rw [this]
      have f2 := hf X f
      unfold Hp.found at f2 ⊢
      rw [List.any_eq_true] at f2 ⊢
      obtain ⟨n, a, b⟩ := f2
      exact ⟨n, mem_sr.mpr (mem_dd.mpr a), b⟩
    · have m2 : R[j] ∈ R.set i (R[i].1, R[i].2.1, sr (eT eS) (dd c5)) := by
        refine List.mem_of_getElem? (i := j) ?_
        rw [List.getElem?_set_ne (fun e => z e.symm), List.getElem?_eq_getElem hj]
      rw [kn_at k' m2]
      exact f
  · exfalso
    have : kn R o = [] := by
      unfold kn
      have := lk_some (f := fun r : Row => r.1) (g := fun r => r.2.2) (k := o) (xs := R)
      rw [decide_eq_false ho] at this
      cases q : lk (kvs R) o with
      | none => rfl
      | some v => rw [q] at this; cases this
    rw [this] at f
    cases f
theorem set_cut {R : List Row} {i : Nat} (hi : i < R.length) (x : Row) : cutD R none (some (i : Int)) ++ [x] ++ cutD R (some ((i : Int) + 1)) none = R.set i x := by
  rw [cut_take (by omega), cut_drop (by omega), List.set_eq_take_append_cons_drop, if_pos hi, List.append_assoc]
  have : ((i : Int) + 1).toNat = i + 1 := by omega
  rw [this, Int.toNat_natCast]
  rfl
theorem wp_relax {R : List Row} (h : Ro 2 R) (hne : R ≠ []) : WP (p__law_relax 0 R) 10 fun R' => Ro 3 R' ∧ nms R' = nms R ∧ Eas R R' := by
  have hl := h.ln
  have hp : 0 < R.length := List.length_pos_iff.mpr hne
  simp only [p__law_relax, sq_pnx, sq_prt, sq_bind, sq_if, fnR_prt, fnR_bind, fnR_if, pure_bind, bind_assoc, bind_pure, pIf_p, bAnd_p, bOr_p, bNot_p, gd_t]
  refine wp_bind 1 9 (by omega) (wp_dr dr_ok (by omega) (by omega) fun w h0 h1 => ?_)
  obtain ⟨i, rfl⟩ : ∃ i : Nat, w = (i : Int) := ⟨w.toNat, by omega⟩
  have hi : i < R.length := by omega
  rw [atI_get' h0, Int.toNat_natCast, List.getElem?_eq_getElem hi, op_some, pure_bind, e_names (by omega), pure_bind]
  have hR : R[i] ∈ R := List.getElem_mem hi
  obtain ⟨ns, hns⟩ : ∃ ns, R[i].2.2 = ns := ⟨_, rfl⟩
  have n1 := h.ne _ hR
  have n2 := h.nl _ hR
  have n3 := h.row _ hR
  rw [hns] at n1 n2 n3 ⊢
  have nl : 0 < ns.length := List.length_pos_iff.mpr n1
  rw [atI_last n1, op_some, pure_bind, cut_last, cut_drop (by decide)]
  rw [gd_of (size_t (by rw [List.length_dropLast, List.length_singleton]; omega)), pure_bind]
  have fin : ∀ c5 : List (List Str), c5 ≠ [] → (∀ n ∈ c5, LtS n ∧ ∀ o ∈ n, o ∈ nms R) → c5.length ≤ 3 → (∀ X, Hp.found R[i].2.2 X = true → Hp.found c5 X = true) →
      WP (do
        let x ← gd (decide (c5.length ≤ 4)) (sr (eT eS) (dd c5))
        let x ← gd (size ((cutD R none (some (i : Int))).length + [(R[i].fst, R[i].snd.fst, x)].length)) (cutD R none (some (i : Int)) ++ [(R[i].fst, R[i].snd.fst, x)])
        let b ← gd (size (x.length + (cutD R (some ((i : Int) + 1)) none).length)) (x ++ cutD R (some ((i : Int) + 1)) none)
        pure (Fl.rt b : Fl Unit Unit (List Row))) 0 fun o => ∃ b, o = .rt b ∧ Ro 3 b ∧ nms b = nms R ∧ Eas R b := by
    intro c5 a1 a2 a3 a4
    have l1 : (cutD R none (some (i : Int))).length ≤ 10 := by rw [cut_take (by omega), List.length_take]; omega
    have l2 : (cutD R (some ((i : Int) + 1)) none).length ≤ 10 := by rw [cut_drop (by omega), List.length_drop]; omega
    rw [gd_of (decide_eq_true (by omega)), pure_bind, gd_of (size_t (by rw [List.length_singleton]; omega)), pure_bind, gd_of (size_t (by rw [List.length_append, List.length_singleton]; omega)), pure_bind, set_cut hi]
    exact wp_pure ⟨_, rfl, relax_ok h hi a1 a2 a3 a4⟩
  refine wp_fnR (wp_sq 9 0 (by omega) (wp_imp (Q := fun o => ∃ c5, o = Fl.nx c5 ∧ c5 ≠ [] ∧ (∀ n ∈ c5, LtS n ∧ ∀ o ∈ n, o ∈ nms R) ∧ c5.length ≤ 3 ∧ ∀ X, Hp.found R[i].2.2 X = true → Hp.found c5 X = true) (wp_pIf 1 8 (by omega) (wp_imp (Q := fun k => k = true → ns.length = 1) ?_ fun k hk => ?_)) fun o ho => ?_))
  · rw [bAnd_pl]
    by_cases z : ((ns.length : Nat) : Int) = 1
    · rw [if_pos (decide_eq_true z)]
      exact wp_bind 1 0 (by omega) (wp_dr dr_ok (by omega) (by omega) fun v _ _ => wp_pure fun _ => by omega)
    · rw [if_neg (by simpa using z)]
      exact wp_pure fun z => by cases z
  · cases k with
    | true =>
      have h1 := hk rfl
      rw [if_pos rfl, gd_of (decide_eq_true (by decide)), pure_bind]
      refine wp_bind 2 6 (by omega) (wp_mono (wp_cp (m := 1) (Q := fun y => y ∈ nms R) (sz (by rw [rgL_len]; omega)) fun x hx => ?_) (by rw [rgL_len]; decide) fun ys hy => ?_)
      · refine wp_bind 1 0 (by omega) (wp_dr dr_ok (by rw [List.length_map]; omega) (by rw [List.length_map]; omega) fun u u0 u1 => ?_)
        obtain ⟨y, e, hy⟩ := atI_nn u0 u1
        exact wp_op e hy
      · obtain ⟨y1, y2⟩ := hy
        rw [rgL_len] at y1
        rw [gd_of (decide_eq_true (by rw [y1]; decide)), pure_bind, gd_of (size_t (by rw [List.length_singleton]; omega)), pure_bind]
        refine wp_pure ⟨_, rfl, by simp, fun n hn => ?_, by rw [List.length_append, List.length_singleton]; omega, fun X f => ?_⟩
        · rcases List.mem_append.mp hn with q | q
          · exact n3 n q
          · rw [List.mem_singleton.mp q]
            exact ⟨sr_lt tki_s (nodup_dd _), fun o ho => y2 o (mem_dd.mp (mem_sr.mp ho))⟩
        · rw [hns] at f
          unfold Hp.found at f ⊢
          rw [List.any_append, f]
          rfl
    | false =>
      rw [if_neg (by decide)]
      have hlast : ns.getLast n1 ∈ ns := List.getLast_mem n1
      refine wp_pure ⟨_, rfl, by simp, fun n hn => ?_, by rw [List.length_append, List.length_dropLast, List.length_singleton]; omega, fun X f => ?_⟩
      · rcases List.mem_append.mp hn with q | q
        · exact n3 n ((List.dropLast_sublist ns).subset q)
        · rw [List.mem_singleton.mp q]
          exact ⟨(n3 _ hlast).1.sublist (List.drop_sublist _ _), fun o ho => (n3 _ hlast).2 o (List.mem_of_mem_drop ho)⟩
      · rw [hns, ← List.dropLast_concat_getLast n1] at f
        unfold Hp.found at f ⊢
        rw [List.any_append, Bool.or_eq_true] at f ⊢
        rcases f with f | f
        · exact .inl f
        · right
          simp only [List.any_cons, List.any_nil, Bool.or_false, List.all_eq_true] at f ⊢
          exact fun o ho => f o (List.mem_of_mem_drop ho)
  · obtain ⟨c5, rfl, a1, a2, a3, a4⟩ := ho
    exact fin c5 a1 a2 a3 a4
/-! the rolls that are written out -/
def FIX : List (List Row) := match p__law_fixed_rolls [] with
  | some (x, _) => x
  | none => []
def WID : List Row := match p__law_wide_roll [] with
  | some (x, _) => x
  | none => []
theorem e_fixed : p__law_fixed_rolls = pure FIX := by
  funext s
  kernel_rfl
theorem e_wide : p__law_wide_roll = pure WID := by
  funext s
  kernel_rfl
def roB (R : List Row) : Bool := decide (LtS (nms R)) && (R.all fun r => decide (r.1 ∈ POOL) && decide (r.2.1 ∈ HAND) && !r.2.2.isEmpty && decide (LtT r.2.2) && (r.2.2.all fun n => decide (LtS n) && n.all fun o => decide (o ∈ nms R)) && decide (r.2.2.length ≤ 2)) && decide (R.length ≤ 10)
theorem roB_ok {R : List Row} (h : roB R = true) : Ro 2 R := by
  unfold roB at h
  simp only [Bool.and_eq_true, List.all_eq_true, decide_eq_true_iff] at h
  obtain ⟨⟨h1, h2⟩, h3⟩ := h
  exact ⟨h1, fun r hr => (h2 r hr).1.1.1.1.1, fun r hr => (h2 r hr).1.1.1.1.2, (fun r hr z => by have := (h2 r hr).1.1.1.2; rw [z] at this; cases this), fun r hr => (h2 r hr).1.1.2, fun r hr n hn => (h2 r hr).1.2 n hn, fun r hr => (h2 r hr).2, h3⟩
theorem fix_ok : ∀ R ∈ FIX.drop 1, Ro 2 R := by
  have : (FIX.drop 1).all roB = true := by kernel_rfl
  rw [List.all_eq_true] at this
  exact fun R hR => roB_ok (this R hR)
theorem fix_len : (FIX.drop 1).length = 6 := by kernel_rfl
theorem wid_ok : Ro 2 WID := roB_ok (by kernel_rfl)
theorem atI_any {α : Type} {xs : List α} {i : Int} (h : -(xs.length : Int) ≤ i) (h2 : i < xs.length) : ∃ x, L2.atI xs i = some x ∧ x ∈ xs := by
  by_cases z : 0 ≤ i
  · exact atI_nn z h2
  · have hk : (i + (xs.length : Int)).toNat < xs.length := by omega
    refine ⟨xs[(i + (xs.length : Int)).toNat], ?_, List.getElem_mem hk⟩
    unfold L2.atI L2.ixN
    rw [if_neg z, if_pos (by omega)]
    exact List.getElem?_eq_getElem hk
theorem wp_one {R : List Row} (h : Ro 2 R) {rolls : List (List Row)} : True := trivial
/-- the law for one roll -/
theorem wp_rolls {R : List Row} (h : Ro 2 R) : WP (do
      let a_4 ← p__law_deed_names R
      let a_5 ← gd (decide (-2 ^ 62 ≤ (3 : Int) ∧ (3 : Int) < 2 ^ 62)) (rgL 3)
      let a_6 ← cp (fun x37 => pure true) (fun x37 => p__law_random_subset 0 R) a_5
      let c36 ← gd (size ([a_4].length + a_6.length)) ([a_4] ++ a_6)
      let a_7 ← gd (decide (-2 ^ 62 ≤ (4 : Int) ∧ (4 : Int) < 2 ^ 62)) (rgL 4)
      sq (forF (fun i39 s40 => pIf
              (bOr
                (bNot do
                  let x ← op (L2.atI c36 i39)
                  p__law_check_heart 0 R x)
                (bNot do
                  let x ← op (L2.atI c36 i39)
                  let x_1 ← op (L2.atI c36 (i39 - 1))
                  p__law_check_pair R x x_1))
              (pure (Fl.rt false)) (pure (Fl.nx ()))) a_7 ())
        fun c42 =>
        if (!decide (R = [])) = true then do
          let c43 ← p__law_relax 0 R
          sq (pIf (do
                let a ← p_lets_roll c43
                pure !decide (a = (R.length : Int)))
              (pure (Fl.rt false)) (pure (Fl.nx ())))
            fun c47 =>
            sq (forF (fun i49 s50 => do
                  let c55 ← p_heart_of c43 i49
                  pIf (do
                      let x ← p_heart_of R i49
                      let a ← cp (fun a => pure !decide (a ∈ c55)) (fun x56 => pure x56) x
                      pure !decide (a = []))
                    (pure (Fl.rt false)) (pure (Fl.nx ())))
                c36 ())
              fun c48 => pure (Fl.nx ())
        else pure (Fl.nx ()) : PM (Fl Unit Unit Bool)) 1000 fun o => o = .nx () := by
  have rl := h.rl (by omega)
  have hl := h.ln
  rw [e_names rl.k.ln, pure_bind, gd_of (decide_eq_true (by decide)), pure_bind]
  refine wp_bind 90 910 (by omega) (wp_mono (wp_cp (m := 30) (Q := fun ds => St R ds ∧ ds.length ≤ 10) (sz (by rw [rgL_len]; decide)) fun x hx => wp_subset rl) (by rw [rgL_len]; decide) fun ss hs => ?_)
  obtain ⟨s1, s2⟩ := hs
  rw [rgL_len] at s1
  have s1 : ss.length = 3 := s1
  rw [gd_of (size_t (by rw [List.length_singleton]; omega)), pure_bind, gd_of (decide_eq_true (by decide)), pure_bind]
  obtain ⟨lots, hlots⟩ : ∃ lots, [nms R] ++ ss = lots := ⟨_, rfl⟩
  have ll : lots.length = 4 := by rw [← hlots, List.length_append, List.length_singleton]; omega
  have lo : ∀ ds ∈ lots, St R ds ∧ ds.length ≤ 10 := fun ds hd => by
    rw [← hlots] at hd
    rcases List.mem_append.mp hd with z | z
    · rw [List.mem_singleton.mp z]; exact ⟨rl.all, by rw [List.length_map]; exact hl⟩
    · exact s2 ds z
  rw [hlots]
  refine wp_sq 200 710 (by omega) (wp_mono (wp_forU (m := 40) fun i hi => ?_) (by rw [rgL_len]; decide) fun o e => ?_)
  · have hi := mem_rgL.mp hi
    obtain ⟨A, e1, hA⟩ := atI_any (xs := lots) (i := i) (by omega) (by omega)
    obtain ⟨B, e2, hB⟩ := atI_any (xs := lots) (i := i - 1) (by omega) (by omega)
    rw [e1, e2, op_some, op_some, pure_bind, pure_bind, pure_bind, e_check_pair rl.k (lo A hA).1 (lo B hB).1 (by have := (lo A hA).2; have := (lo B hB).2; omega), bNot_p]
    refine wp_pIf 30 0 (by omega) (wp_bind 30 0 (by omega) (wp_bind 30 0 (by omega) (wp_imp (wp_check_heart rl.k (lo A hA).1) fun b e => ?_)))
    subst e
    refine wp_pure ?_
    rw [if_neg (by decide)]
    refine wp_pure ?_
    rw [if_neg (by decide)]
    exact wp_pure rfl
  · subst e
    show WP (if _ then _ else _) 710 _
    by_cases z : R = []
    · rw [if_neg (by simp [z])]
      exact wp_pure rfl
    · rw [if_pos (by simpa using z)]
      refine wp_bind 10 700 (by omega) (wp_imp (wp_relax h z) fun R' hR' => ?_)
      obtain ⟨r1, r2, r3⟩ := hR'
      have rl' := r1.rl (by omega)
      have el : R'.length = R.length := by have := congrArg List.length r2; rwa [List.length_map, List.length_map] at this
      rw [e_lets r1 (by omega), el, pure_bind, decide_eq_true rfl, pIf_p, Bool.not_true, if_neg (by decide), sq_pnx]
      refine wp_sq 0 0 (by omega) (wp_eq (forF_U fun ds hd => ?_) (wp_pure (wp_pure rfl)))
      have sd := (lo ds hd).1
      have sd' : St R' ds := ⟨sd.lt, by rw [r2]; exact sd.sub, sd.ln⟩
      have c : cp (fun a => pure !decide (a ∈ H R' ds)) (fun x56 => pure x56) (H R ds) = pure [] := by
        rw [cp_fil (fun a => !decide (a ∈ H R' ds)) (sz (by have := sd.H.ln; omega)) fun _ _ => rfl, List.filter_eq_nil_iff.mpr]
        intro x hx y
        rw [Bool.not_eq_true', decide_eq_false_iff_not] at y
        exact y (mem_H.mpr (Hp.easier_ok sd.nd r3 x (mem_H.mp hx)))
      rw [e_heart rl'.k sd', pure_bind, e_heart rl.k sd, pure_bind, c, pure_bind]
      rfl
theorem run_top {f : Nat → PM Bool} {cs : List Int} {N : Nat} (hN : N ≤ 1000000) (h : WP (f 0) N fun b => b = true) : ∃ s', (shr (oR (cs, 0, 0, 0)) >>= f) [] = some (true, s') := by
  obtain ⟨a, s', e, _, q⟩ := h 0 [rdO cs 0 0 0] ⟨cs, 0, 0, 0, rfl, by omega, by omega, by omega, by omega⟩ (by omega)
  refine ⟨s', ?_⟩
  subst q
  exact e
theorem law_true (ns : List Int) : ∃ s', p_law ns [] = some (true, s') := by
  have e1 : p__law_reader ns = pure (cutD ns none (some 63), 0, 0, 0) := by
    simp only [p__law_reader, sq_pnx, sq_prt, sq_bind, sq_if, fnR_prt, fnR_bind, fnR_if, pure_bind, bind_assoc, bind_pure, pIf_p, bAnd_p, bOr_p, bNot_p, gd_t]
  simp only [p_law, sq_pnx, sq_prt, sq_bind, sq_if, fnR_prt, fnR_bind, fnR_if, pure_bind, bind_assoc, bind_pure, pIf_p, bAnd_p, bOr_p, bNot_p, gd_t, e1, e_fixed, e_wide]
  refine run_top (N := 30000) (by omega) ?_

  rw [gd_of (decide_eq_true (by decide)), pure_bind, cut_drop (by decide)]
  refine wp_fnR (wp_sq 2000 28000 (by omega) (wp_mono (wp_for (m := 400) (I := fun rest (rs : List (List Row)) => (∀ R ∈ rs, Ro 2 R) ∧ rs.length + rest.length ≤ 11) (R := fun o => ∃ rs : List (List Row), o = .nx rs ∧ (∀ R ∈ rs, Ro 2 R) ∧ rs.length ≤ 11) (fun rs hI => ⟨rs, rfl, hI.1, by simpa using hI.2⟩) (fun x rest rs hI => ?_) _ _ ⟨fix_ok, by rw [show (FIX.drop (1 : Int).toNat).length = 6 from fix_len, rgL_len]; decide⟩) (by rw [rgL_len]; decide) fun o ho => ?_))
  · have hI2 := hI.2
    rw [List.length_cons] at hI2
    refine wp_bind 400 0 (by omega) (wp_imp wp_roll fun R hR => ?_)
    rw [gd_of (decide_eq_true (by have := PySem.sizeLine_eq; omega)), pure_bind]
    refine wp_pure ⟨fun Q hQ => ?_, by rw [List.length_append, List.length_singleton]; omega⟩
    rcases List.mem_append.mp hQ with z | z
    · exact hI.1 Q z
    · rw [List.mem_singleton.mp z]; exact hR
  · obtain ⟨rs, rfl, h1, h2⟩ := ho
    show WP (gd _ _ >>= _) 28000 _
    rw [gd_of (decide_eq_true (by have := PySem.sizeLine_eq; omega)), pure_bind]
    have hall : ∀ R ∈ rs ++ [WID], Ro 2 R := fun R hR => by
      rcases List.mem_append.mp hR with z | z
      · exact h1 R z
      · rw [List.mem_singleton.mp z]; exact wid_ok
    refine wp_sq 12000 0 (by omega) (wp_mono (wp_forU (m := 1000) fun R hR => wp_rolls (hall R hR)) (by rw [List.length_append, List.length_singleton]; omega) fun o e => ?_)
    subst e
    exact wp_pure ⟨_, rfl, rfl⟩
end Lw
set_option Elab.async false
set_option linter.all false
set_option maxRecDepth 100000
namespace Lw
open PySem Mi Tz
theorem law_run {K : PySem.W.Frag} {mg : Str → Option Value} (D : Ds K mg) (ns : List Int) (hl : ns.length ≤ 63) : ∃ s', r_law D [.ro (ns.map PyData.int)] [] = some (.w (.d (.bool true)), s') := by
  obtain ⟨s', e⟩ := law_true ns
  obtain ⟨v, e2, k⟩ := t_law D ns [] true s' e
  cases k
  exact ⟨s', e2⟩
end Lw
set_option Elab.async false
set_option linter.all false
set_option maxRecDepth 100000
set_option maxHeartbeats 0
namespace Lw
open PySem PySem.Spec PyProof.Rows L2 Mi
def d_needs_by : He.DefD := ⟨("needs_by", none), "needs_by", "needs_by", defArgs s_needs_by, defBody s_needs_by, defScope s_needs_by, [], []⟩
def d_need_names : He.DefD := ⟨("need_names", none), "need_names", "need_names", defArgs s_need_names, defBody s_need_names, defScope s_need_names, [], []⟩
def d_found_in : He.DefD := ⟨("found_in", none), "found_in", "found_in", defArgs s_found_in, defBody s_found_in, defScope s_found_in, [], []⟩
def d_finds_needs : He.DefD := ⟨("finds_needs", none), "finds_needs", "finds_needs", defArgs s_finds_needs, defBody s_finds_needs, defScope s_finds_needs, [], []⟩
def d_next_deeds : He.DefD := ⟨("next_deeds", none), "next_deeds", "next_deeds", defArgs s_next_deeds, defBody s_next_deeds, defScope s_next_deeds, [], [("ahead", .adr (kwAt ("next_deeds", none) "ahead"))]⟩
def d_grown : He.DefD := ⟨("grown", none), "grown", "grown", defArgs s_grown, defBody s_grown, defScope s_grown, [], []⟩
def d_heart_of : He.DefD := ⟨("heart_of", none), "heart_of", "heart_of", defArgs s_heart_of, defBody s_heart_of, defScope s_heart_of, [], []⟩
def d_is_meaning : He.DefD := ⟨("is_meaning", none), "is_meaning", "is_meaning", defArgs s_is_meaning, defBody s_is_meaning, defScope s_is_meaning, [], []⟩
def d_is_lettered : He.DefD := ⟨("is_lettered", none), "is_lettered", "is_lettered", defArgs s_is_lettered, defBody s_is_lettered, defScope s_is_lettered, [], []⟩
def d_is_name : He.DefD := ⟨("is_name", none), "is_name", "is_name", defArgs s_is_name, defBody s_is_name, defScope s_is_name, [], []⟩
def d_are_all : He.DefD := ⟨("are_all", none), "are_all", "are_all", defArgs s_are_all, defBody s_are_all, defScope s_are_all, [], []⟩
def d_rise : He.DefD := ⟨("rise", none), "rise", "rise", defArgs s_rise, defBody s_rise, defScope s_rise, [], []⟩
def d_is_set : He.DefD := ⟨("is_set", none), "is_set", "is_set", defArgs s_is_set, defBody s_is_set, defScope s_is_set, [], []⟩
def d_are_needs : He.DefD := ⟨("are_needs", none), "are_needs", "are_needs", defArgs s_are_needs, defBody s_are_needs, defScope s_are_needs, [], []⟩
def d_is_deed_row : He.DefD := ⟨("is_deed_row", none), "is_deed_row", "is_deed_row", defArgs s_is_deed_row, defBody s_is_deed_row, defScope s_is_deed_row, [], []⟩
def d_need_so : He.DefD := ⟨("need_so", none), "need_so", "need_so", defArgs s_need_so, defBody s_need_so, defScope s_need_so, [], []⟩
def d_lets_roll : He.DefD := ⟨("lets_roll", none), "lets_roll", "lets_roll", defArgs s_lets_roll, defBody s_lets_roll, defScope s_lets_roll, [], []⟩
def d__law_reader : He.DefD := ⟨("_law_reader", none), "_law_reader", "_law_reader", defArgs s__law_reader, defBody s__law_reader, defScope s__law_reader, [], []⟩
def d__law_draw : He.DefD := ⟨("_law_draw", none), "_law_draw", "_law_draw", defArgs s__law_draw, defBody s__law_draw, defScope s__law_draw, [], []⟩
def d__law_random_needs : He.DefD := ⟨("_law_random_needs", none), "_law_random_needs", "_law_random_needs", defArgs s__law_random_needs, defBody s__law_random_needs, defScope s__law_random_needs, [], []⟩
def d__law_random_roll : He.DefD := ⟨("_law_random_roll", none), "_law_random_roll", "_law_random_roll", defArgs s__law_random_roll, defBody s__law_random_roll, defScope s__law_random_roll, [], []⟩
def d__law_fixed_rolls : He.DefD := ⟨("_law_fixed_rolls", none), "_law_fixed_rolls", "_law_fixed_rolls", defArgs s__law_fixed_rolls, defBody s__law_fixed_rolls, defScope s__law_fixed_rolls, [], []⟩
def d__law_deed_names : He.DefD := ⟨("_law_deed_names", none), "_law_deed_names", "_law_deed_names", defArgs s__law_deed_names, defBody s__law_deed_names, defScope s__law_deed_names, [], []⟩
def d__law_random_subset : He.DefD := ⟨("_law_random_subset", none), "_law_random_subset", "_law_random_subset", defArgs s__law_random_subset, defBody s__law_random_subset, defScope s__law_random_subset, [], []⟩
def d__law_wide_roll : He.DefD := ⟨("_law_wide_roll", none), "_law_wide_roll", "_law_wide_roll", defArgs s__law_wide_roll, defBody s__law_wide_roll, defScope s__law_wide_roll, [], []⟩
def d__law_grow : He.DefD := ⟨("_law_grow", none), "_law_grow", "_law_grow", defArgs s__law_grow, defBody s__law_grow, defScope s__law_grow, [], []⟩
def d__law_check_heart : He.DefD := ⟨("_law_check_heart", none), "_law_check_heart", "_law_check_heart", defArgs s__law_check_heart, defBody s__law_check_heart, defScope s__law_check_heart, [], []⟩
def d__law_check_pair : He.DefD := ⟨("_law_check_pair", none), "_law_check_pair", "_law_check_pair", defArgs s__law_check_pair, defBody s__law_check_pair, defScope s__law_check_pair, [], []⟩
def d__law_relax : He.DefD := ⟨("_law_relax", none), "_law_relax", "_law_relax", defArgs s__law_relax, defBody s__law_relax, defScope s__law_relax, [], []⟩
def d_law : He.DefD := ⟨("law", none), "law", "law", defArgs s_law, defBody s_law, defScope s_law, [], []⟩
def fn : List He.DefD := [d_needs_by, d_need_names, d_found_in, d_finds_needs, d_next_deeds, d_grown, d_heart_of, d_is_meaning, d_is_lettered, d_is_name, d_are_all, d_rise, d_is_set, d_are_needs, d_is_deed_row, d_need_so, d_lets_roll, d__law_reader, d__law_draw, d__law_random_needs, d__law_random_roll, d__law_fixed_rolls, d__law_deed_names, d__law_random_subset, d__law_wide_roll, d__law_grow, d__law_check_heart, d__law_check_pair, d__law_relax, d_law]
def fa : List He.Fa := [.glo "needs_by", .glo "need_names", .glo "found_in", .glo "finds_needs", .glo "next_deeds", .glo "grown", .glo "heart_of", .glo "is_meaning", .glo "is_lettered", .glo "is_name", .glo "are_all", .glo "rise", .glo "is_set", .glo "are_needs", .glo "is_deed_row", .glo "need_so", .glo "lets_roll", .glo "_law_reader", .glo "_law_draw", .glo "_law_random_needs", .glo "_law_random_roll", .glo "_law_fixed_rolls", .glo "_law_deed_names", .glo "_law_random_subset", .glo "_law_wide_roll", .glo "_law_grow", .glo "_law_check_heart", .glo "_law_check_pair", .glo "_law_relax", .glo "law", .free "all", .free "any", .free "enumerate", .free "int", .free "isinstance", .free "len", .free "list", .free "range", .free "set", .free "sorted", .free "str", .free "tuple", .free "zip", .str "LETTERS" (PySem.Str.ofString "abcdefghijklmnopqrstuvwxyz"), .int "LONGEST_NAME" 8]
abbrev R : PySem.W.OpenRow := PySem.W.OpenLaw.row PySem.Challenge.rw_underheard_k05_whole_hearts
abbrev hk : PySem.W.Hook := He.hookD 8 fa fn
def ob (s : PySem.W.SharedT) : He.AlD := He.obsDG 8 fa fn (HandSHeadRun.getT s)
theorem ob_eq (s : PySem.W.SharedT) : ob s = hk.obs s.abs := He.obsDG_eq (HandSHeadRun.getT_eq s)
def loose0 : List Str := ["__name__", "HeardError", "PaperError", "SceneError", "NoPaper", "NoName", "needs_by", "need_names", "found_in", "finds_needs", "next_deeds", "grown", "heart_of", "is_meaning", "LETTERS", "LONGEST_NAME", "is_lettered", "is_name", "are_all", "rise"]
def loose1 : List Str := ["is_set", "are_needs", "is_deed_row", "need_so", "lets_roll", "_law_reader", "_law_draw", "_law_random_needs", "_law_random_roll", "_law_fixed_rolls", "_law_deed_names", "_law_random_subset", "_law_wide_roll", "_law_grow", "_law_check_heart", "_law_check_pair", "_law_relax"]
def loose : List Str := loose0 ++ loose1
theorem run (w : World) : HandSHeadRun.RunEq R (PySem.W.view R.prog [41]) hk ob 3000 loose w := by
  intro os
  kernel_rfl
theorem facts {K : PySem.W.Frag} {h : Heap} {mg : Str → Option Value} (X : K.In h) (G : h.Ns mainGlobals mg) (c : He.SaysD fa fn K) : ∃ D : Ds K mg, True := by
  obtain ⟨fd_needs_by, F_needs_by⟩ := c.def_ 0 (d := d_needs_by) rfl
  obtain ⟨fd_need_names, F_need_names⟩ := c.def_ 1 (d := d_need_names) rfl
  obtain ⟨fd_found_in, F_found_in⟩ := c.def_ 2 (d := d_found_in) rfl
  obtain ⟨fd_finds_needs, F_finds_needs⟩ := c.def_ 3 (d := d_finds_needs) rfl
  obtain ⟨fd_next_deeds, F_next_deeds⟩ := c.def_ 4 (d := d_next_deeds) rfl
  obtain ⟨fd_grown, F_grown⟩ := c.def_ 5 (d := d_grown) rfl
  obtain ⟨fd_heart_of, F_heart_of⟩ := c.def_ 6 (d := d_heart_of) rfl
  obtain ⟨fd_is_meaning, F_is_meaning⟩ := c.def_ 7 (d := d_is_meaning) rfl
  obtain ⟨fd_is_lettered, F_is_lettered⟩ := c.def_ 8 (d := d_is_lettered) rfl
  obtain ⟨fd_is_name, F_is_name⟩ := c.def_ 9 (d := d_is_name) rfl
  obtain ⟨fd_are_all, F_are_all⟩ := c.def_ 10 (d := d_are_all) rfl
  obtain ⟨fd_rise, F_rise⟩ := c.def_ 11 (d := d_rise) rfl
  obtain ⟨fd_is_set, F_is_set⟩ := c.def_ 12 (d := d_is_set) rfl
  obtain ⟨fd_are_needs, F_are_needs⟩ := c.def_ 13 (d := d_are_needs) rfl
  obtain ⟨fd_is_deed_row, F_is_deed_row⟩ := c.def_ 14 (d := d_is_deed_row) rfl
  obtain ⟨fd_need_so, F_need_so⟩ := c.def_ 15 (d := d_need_so) rfl
  obtain ⟨fd_lets_roll, F_lets_roll⟩ := c.def_ 16 (d := d_lets_roll) rfl
  obtain ⟨fd__law_reader, F__law_reader⟩ := c.def_ 17 (d := d__law_reader) rfl
  obtain ⟨fd__law_draw, F__law_draw⟩ := c.def_ 18 (d := d__law_draw) rfl
  obtain ⟨fd__law_random_needs, F__law_random_needs⟩ := c.def_ 19 (d := d__law_random_needs) rfl
  obtain ⟨fd__law_random_roll, F__law_random_roll⟩ := c.def_ 20 (d := d__law_random_roll) rfl
  obtain ⟨fd__law_fixed_rolls, F__law_fixed_rolls⟩ := c.def_ 21 (d := d__law_fixed_rolls) rfl
  obtain ⟨fd__law_deed_names, F__law_deed_names⟩ := c.def_ 22 (d := d__law_deed_names) rfl
  obtain ⟨fd__law_random_subset, F__law_random_subset⟩ := c.def_ 23 (d := d__law_random_subset) rfl
  obtain ⟨fd__law_wide_roll, F__law_wide_roll⟩ := c.def_ 24 (d := d__law_wide_roll) rfl
  obtain ⟨fd__law_grow, F__law_grow⟩ := c.def_ 25 (d := d__law_grow) rfl
  obtain ⟨fd__law_check_heart, F__law_check_heart⟩ := c.def_ 26 (d := d__law_check_heart) rfl
  obtain ⟨fd__law_check_pair, F__law_check_pair⟩ := c.def_ 27 (d := d__law_check_pair) rfl
  obtain ⟨fd__law_relax, F__law_relax⟩ := c.def_ 28 (d := d__law_relax) rfl
  obtain ⟨fd_law, F_law⟩ := c.def_ 29 (d := d_law) rfl
  obtain ⟨t_LETTERS, c_LETTERS⟩ := He.str_ok X G (c.fact 43 (f := .str "LETTERS" (PySem.Str.ofString "abcdefghijklmnopqrstuvwxyz")) rfl)
  obtain ⟨t_LONGEST_NAME, c_LONGEST_NAME⟩ := He.int_ok X G (c.fact 44 (f := .int "LONGEST_NAME" 8) rfl)
  exact ⟨⟨_, fd_needs_by, F_needs_by, He.glo_ok X G (c.fact 0 (f := .glo "needs_by") rfl),
    _, fd_need_names, F_need_names, He.glo_ok X G (c.fact 1 (f := .glo "need_names") rfl),
    _, fd_found_in, F_found_in, He.glo_ok X G (c.fact 2 (f := .glo "found_in") rfl),
    _, fd_finds_needs, F_finds_needs, He.glo_ok X G (c.fact 3 (f := .glo "finds_needs") rfl),
    _, fd_next_deeds, _, F_next_deeds, He.glo_ok X G (c.fact 4 (f := .glo "next_deeds") rfl),
    _, fd_grown, F_grown, He.glo_ok X G (c.fact 5 (f := .glo "grown") rfl),
    _, fd_heart_of, F_heart_of, He.glo_ok X G (c.fact 6 (f := .glo "heart_of") rfl),
    _, fd_is_meaning, F_is_meaning, He.glo_ok X G (c.fact 7 (f := .glo "is_meaning") rfl),
    _, fd_is_lettered, F_is_lettered, He.glo_ok X G (c.fact 8 (f := .glo "is_lettered") rfl),
    _, fd_is_name, F_is_name, He.glo_ok X G (c.fact 9 (f := .glo "is_name") rfl),
    _, fd_are_all, F_are_all, He.glo_ok X G (c.fact 10 (f := .glo "are_all") rfl),
    _, fd_rise, F_rise, He.glo_ok X G (c.fact 11 (f := .glo "rise") rfl),
    _, fd_is_set, F_is_set, He.glo_ok X G (c.fact 12 (f := .glo "is_set") rfl),
    _, fd_are_needs, F_are_needs, He.glo_ok X G (c.fact 13 (f := .glo "are_needs") rfl),
    _, fd_is_deed_row, F_is_deed_row, He.glo_ok X G (c.fact 14 (f := .glo "is_deed_row") rfl),
    _, fd_need_so, F_need_so, He.glo_ok X G (c.fact 15 (f := .glo "need_so") rfl),
    _, fd_lets_roll, F_lets_roll, He.glo_ok X G (c.fact 16 (f := .glo "lets_roll") rfl),
    _, fd__law_reader, F__law_reader, He.glo_ok X G (c.fact 17 (f := .glo "_law_reader") rfl),
    _, fd__law_draw, F__law_draw, He.glo_ok X G (c.fact 18 (f := .glo "_law_draw") rfl),
    _, fd__law_random_needs, F__law_random_needs, He.glo_ok X G (c.fact 19 (f := .glo "_law_random_needs") rfl),
    _, fd__law_random_roll, F__law_random_roll, He.glo_ok X G (c.fact 20 (f := .glo "_law_random_roll") rfl),
    _, fd__law_fixed_rolls, F__law_fixed_rolls, He.glo_ok X G (c.fact 21 (f := .glo "_law_fixed_rolls") rfl),
    _, fd__law_deed_names, F__law_deed_names, He.glo_ok X G (c.fact 22 (f := .glo "_law_deed_names") rfl),
    _, fd__law_random_subset, F__law_random_subset, He.glo_ok X G (c.fact 23 (f := .glo "_law_random_subset") rfl),
    _, fd__law_wide_roll, F__law_wide_roll, He.glo_ok X G (c.fact 24 (f := .glo "_law_wide_roll") rfl),
    _, fd__law_grow, F__law_grow, He.glo_ok X G (c.fact 25 (f := .glo "_law_grow") rfl),
    _, fd__law_check_heart, F__law_check_heart, He.glo_ok X G (c.fact 26 (f := .glo "_law_check_heart") rfl),
    _, fd__law_check_pair, F__law_check_pair, He.glo_ok X G (c.fact 27 (f := .glo "_law_check_pair") rfl),
    _, fd__law_relax, F__law_relax, He.glo_ok X G (c.fact 28 (f := .glo "_law_relax") rfl),
    _, fd_law, F_law, He.glo_ok X G (c.fact 29 (f := .glo "law") rfl),
    He.free_ok X G (c.fact 30 (f := .free "all") rfl),
    He.free_ok X G (c.fact 31 (f := .free "any") rfl),
    He.free_ok X G (c.fact 32 (f := .free "enumerate") rfl),
    He.free_ok X G (c.fact 33 (f := .free "int") rfl),
    He.free_ok X G (c.fact 34 (f := .free "isinstance") rfl),
    He.free_ok X G (c.fact 35 (f := .free "len") rfl),
    He.free_ok X G (c.fact 36 (f := .free "list") rfl),
    He.free_ok X G (c.fact 37 (f := .free "range") rfl),
    He.free_ok X G (c.fact 38 (f := .free "set") rfl),
    He.free_ok X G (c.fact 39 (f := .free "sorted") rfl),
    He.free_ok X G (c.fact 40 (f := .free "str") rfl),
    He.free_ok X G (c.fact 41 (f := .free "tuple") rfl),
    He.free_ok X G (c.fact 42 (f := .free "zip") rfl),
    t_LETTERS, c_LETTERS,
    t_LONGEST_NAME, c_LONGEST_NAME⟩, trivial⟩
theorem bnd {K : PySem.W.Frag} {mg : Str → Option Value} (D : Ds K mg) (s : Shared) (v : Value) : BindsTo s D.fd_law ⟨[v], []⟩ [("_law_script", v)] := (FunD.bindsA (ps := ["_law_script"]) D.F_law fun _ _ _ _ _ _ us hl => match us, hl with | [_], _ => rfl) s [v] rfl
theorem sp_law {P : Program} {w : World} {K : PySem.W.Frag} {mg : Str → Option Value} (D : Ds K mg) (H : Hp) (a : Addr) (ns : List Int) (hl : ns.length ≤ 63) (hO : Only H) (hS : SqL K H a (ns.map V.int)) : spF P w K 1 (r_law D) [.ref a] H (fun v _ => v = .bl true) (fun _ _ _ => False) := by
  refine ⟨[.ro (ns.map PyData.int)], [], [], H, rfl, good_top, ⟨⟨a, ns.map V.int, rfl, hS, dv_ints⟩, trivial⟩, ?_⟩
  obtain ⟨s', e⟩ := law_run D ns hl
  rw [e]
  exact fun x H' A' Hd' _ _ _ k => (show Dv _ Hd' x (.bool true) from k).bl
end Lw
open PySem PySem.W PySem.Calls PyProof.Rows
theorem PySem.Challenge.cw_underheard_k05_whole_hearts_holds : PySem.Challenge.rw_underheard_k05_whole_hearts.Holds := by
  w_on; o_law
  refine HandSHeadRun.head_any (r := OpenLaw.row PySem.Challenge.rw_underheard_k05_whole_hearts) (q := view (OpenLaw.row PySem.Challenge.rw_underheard_k05_whole_hearts).prog [41]) (H := Lw.hk) (ob := Lw.ob) (M := 3000) (loose := Lw.loose) (d := HandSHeadRun.topDef (OpenLaw.row PySem.Challenge.rw_underheard_k05_whole_hearts).prog 41) (kwd := []) Lw.ob_eq
    (by kernel_rfl) (fun s => by kernel_rfl) Lw.run (by kernel_rfl) (by kernel_rfl) (by kernel_rfl) (by rfl) (by first | assumption | decide +kernel) (by decide +kernel) ⟨rfl, rfl, rfl, rfl, rfl, by decide +kernel⟩ ?hw ?hc
  case hw => w_witness2
  case hc =>
    refine L2.walk_ofE (l := PySem.Challenge.rw_underheard_k05_whole_hearts) (n := 63) (k := 10) (x := "_law_script") (CX := L2.CX0) rfl (by decide) (by kernel_rfl) ⟨rfl, by decide, by decide⟩ ?F (fun _ _ _ _ z => z)
    intro w mg fa h Y G hmg0
    obtain ⟨K, KX, c⟩ := Y
    have hmg : mg ("law" : PySem.Str) = some (.ref fa) := by
      have e : (HandSHeadRun.topDef (OpenLaw.row PySem.Challenge.rw_underheard_k05_whole_hearts).prog 41).name = ("law" : PySem.Str) := by kernel_rfl
      rw [← e]
      exact hmg0
    obtain ⟨D, _⟩ := Lw.facts KX G c
    have e := hmg.symm.trans D.g_law
    cases e
    exact ⟨K, D.fd_law, _, KX, Lw.bnd D, fun H a ns hl hO hS => Lw.sp_law D H a ns hl hO hS, fun base _ _ => Lw.ok_law D⟩
