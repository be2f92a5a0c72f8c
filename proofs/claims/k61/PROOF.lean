import PyProof.Rows.All
import Wide.All
import OpenK.AllK
import Wide.FinOn
import HandS.Base
import HandS.Call
import HandS.List
import HandS.Comp
import HandS.Ends
import HandS.Dict
import HandS.Iter
import HandS.Text
import HandS.Exc
import HandS.ExcOwn
import HandS.Words
import HandS.WordsList
import HandS.WordsDict
import HandS.WordsExc
import HandS.Flow
import HandS.Wide
import HandS.IsInst
import HandS.Zip
import HandS.TupAny
import HandS.TupMul
import HandS.Style
import HandS.CallSlots
import HandS.Defaults
import PyProof.EqLayable
import PyProof.ReprReads
import HandS.HeadHook1
import HandS.ExcIs
import KE.KExcIs
import HandS.Lambda
import HandS.NoneIn
import KE.GoesEnum
import KE.GoesNew
import HandS.Small
import PyProof.ReprRoads
import HandS.RaiseMore
import HandS.Deep
import HandS.HeadHook3
import HandS.SetFor
import HandS.More
import KE.GoesZip
import KE.GoesMore
import HandS.ExcValue
import HandS.Strs
import HandS.SortInts
import HandS.ExcInit
import HandS.ExcField
import KE.KNestM
import KE.DataFind
import HandS.Conv
import KE.DatumOrd
import HandS.SortKw
import PyProof.StrBlock2
import HandS.Replace
import KE.SortData
import KE.KDictDisplayH
import HandS.SortOrd
import KE.KDictPairs
import KE.DataAny
import HandS.ListItems
import HandS.TupSets
import KE.KStateDown
import HandS.EndTab
import Lean
import HandS.Head0
import HandS.Head1
import HandS.Head2
import HandS.HeadEnd
import HandS.HeadHook2
import HandS.EndBits
import PySem.Challenge.RW_commonhouse_k61_turnings_counted
set_option Elab.async false
set_option linter.all false
set_option maxRecDepth 100000
set_option maxHeartbeats 2000000
set_option autoImplicit false
set_option exponentiation.threshold 2000
namespace Pu
open PySem PySem.Spec PyProof.Rows L2
/-! ### data, results, slots -/
abbrev D := PySem.PyData
structure Exn where
  name : Str
  flds : List (Str × D)
/-- an item of a deep object: data, or a list of one's own -/
inductive Im where
  | v (d : D) | l (ds : List D)
/-- a deep object: a list, a tuple, a dict of items -/
inductive Nt where
  | l (its : List Im) | u (its : List Im) | d (kvs : List (Key × Im))
def Nt.its : Nt → List Im
  | .l its => its
  | .u its => its
  | .d kvs => kvs.map (·.2)
def Im.data : Im → D
  | .v d => d
  | .l ds => .list ds
def Nt.data : Nt → Option D
  | .l its => some (.list (its.map Im.data))
  | .u its => some (.tuple (its.map Im.data))
  | .d _ => none
/-- what an owned object holds -/
inductive Ct where
  | l (ds : List D) | d (kvs : List (Key × D)) | t (kvs : List (List Key × D)) | n (t : Nt)
/-- what is handed back: data that nobody changes, or an object of one's own -/
inductive RV where
  | v (d : D) | o (c : Ct)
/-- a slot: not known, data, an owned object, an owned object of the caller's; a reference that is kept, of whose object nothing is said -/
inductive Sl where
  | unk | v (d : D) | o (c : Ct) | io (c : Ct) | pin
abbrev En := List Sl
inductive Re (α : Type) where
  | ok (a : α) (r : En) | ex (e : Exn) (r : En) | no
abbrev M (α : Type) := En → Re α
def Re.bind {α β : Type} (r : Re α) (f : α → M β) : Re β := match r with
  | .ok a r => f a r
  | .ex e r => .ex e r
  | .no => .no
def M.bind {α β : Type} (m : M α) (f : α → M β) : M β := fun r => (m r).bind f
def M.ret {α : Type} (a : α) : M α := fun r => .ok a r
def M.no {α : Type} : M α := fun _ => .no
def M.opt {α : Type} (o : Option α) : M α := fun r => match o with
  | some a => .ok a r
  | none => .no
@[simp] theorem Re.bind_ok {α β : Type} (a : α) (r : En) (f : α → M β) : (Re.ok a r).bind f = f a r := rfl
@[simp] theorem Re.bind_ex {α β : Type} (e : Exn) (r : En) (f : α → M β) : (Re.ex e r : Re α).bind f = .ex e r := rfl
@[simp] theorem Re.bind_no {α β : Type} (f : α → M β) : (Re.no : Re α).bind f = .no := rfl
@[simp] theorem M.bind_ap {α β : Type} (m : M α) (f : α → M β) (r : En) : m.bind f r = (m r).bind f := rfl
@[simp] theorem M.ret_ap {α : Type} (a : α) (r : En) : M.ret a r = .ok a r := rfl
@[simp] theorem M.no_ap {α : Type} (r : En) : (M.no : M α) r = .no := rfl
@[simp] theorem M.opt_some {α : Type} (a : α) (r : En) : M.opt (some a) r = .ok a r := rfl
@[simp] theorem M.opt_none {α : Type} (r : En) : (M.opt none : M α) r = .no := rfl
def Po {α : Type} (X : Exn → En → Prop) (r : Re α) (k : α → En → Prop) : Prop := match r with
  | .ok a r => k a r
  | .ex e r => X e r
  | .no => False
theorem Po.bind {α β : Type} {X : Exn → En → Prop} {r : Re α} {f : α → M β} {k : β → En → Prop} (h : Po X (r.bind f) k) : Po X r fun a r' => Po X (f a r') k := by
  cases r <;> exact h
theorem Po.mono {α : Type} {X X' : Exn → En → Prop} {r : Re α} {k k' : α → En → Prop} (h : Po X r k) (hX : ∀ e r, X e r → X' e r) (hk : ∀ a r, k a r → k' a r) : Po X' r k' := by
  cases r with
  | ok a r => exact hk _ _ h
  | ex e r => exact hX _ _ h
  | no => exact h
/-! ### heaps -/
/-- all stays; tables of code objects may grow -/
structure Ex (H H' : Hp) : Prop where
  at_ : ∀ a o, H a = some o → (∀ ps, o ≠ .tbl ps) → H' a = some o
  tb : ∀ a ps, H a = some (.tbl ps) → ∃ more, H' a = some (.tbl (ps ++ more))
theorem Ex.of {H H' : Hp} (h : ∀ a o, H a = some o → H' a = some o) : Ex H H' := ⟨fun a o e _ => h a o e, fun a ps e => ⟨#[], by rw [Array.append_empty]; exact h a _ e⟩⟩
theorem Ex.refl (H : Hp) : Ex H H := .of fun _ _ h => h
theorem Ex.trans {H H1 H2 : Hp} (a : Ex H H1) (b : Ex H1 H2) : Ex H H2 := ⟨fun x o h n => b.at_ x o (a.at_ x o h n) n, fun x ps h => by
  obtain ⟨m1, h1⟩ := a.tb x ps h
  obtain ⟨m2, h2⟩ := b.tb x _ h1
  exact ⟨m1 ++ m2, by rw [h2, Array.append_assoc]⟩⟩
theorem Ex.new {H : Hp} {p : Addr} {o : HO} (h : H p = none) : Ex H (upd H p o) := .of fun a u e => by
  rw [upd_ne (ne_of_none e h)]
  exact e
theorem Ex.some {H H' : Hp} {p : Addr} {o : HO} (e : Ex H H') (h : H p = some o) : ∃ o', H' p = some o' := by
  by_cases n : ∃ ps, o = .tbl ps
  · obtain ⟨ps, rfl⟩ := n
    obtain ⟨m, hm⟩ := e.tb p ps h
    exact ⟨_, hm⟩
  · exact ⟨o, e.at_ p o h fun ps z => n ⟨ps, z⟩⟩
theorem Ex.nn {H H' : Hp} {p : Addr} (e : Ex H H') (h : H' p = none) : H p = none := by
  cases h1 : H p with
  | none => rfl
  | some o =>
    obtain ⟨o', h2⟩ := e.some h1
    rw [h2] at h
    cases h
theorem Ex.mut {H H' : Hp} {p : Addr} {o : HO} (e : Ex H H') (h : H p = none) : Ex H (upd H' p o) := ⟨fun a u ha n => by
  rw [upd_ne (ne_of_none ha h)]
  exact e.at_ a u ha n, fun a ps ha => by
  rw [upd_ne (ne_of_none ha h)]
  exact e.tb a ps ha⟩
/-- the tables of code objects that are looked after -/
class TabT where
  T : PySem.W.Frag → List (Addr × Str)
theorem Ex.rd {H H' : Hp} {a : Addr} {u : HO} (e : Ex H H') (h : Rd H a u) (n : ∀ ps, u ≠ .tbl ps) : Rd H' a u := by
  rcases h with h | ⟨o, h⟩
  · exact Or.inl (e.at_ a _ h n)
  · exact Or.inr ⟨o, e.at_ a _ h fun ps z => nomatch z⟩
theorem Ex.l {K : PySem.W.Frag} {H H' : Hp} {a : Addr} {xs : List V} (e : Ex H H') (h : SqL K H a xs) : SqL K H' a xs := by
  rcases h with h | h
  · exact Or.inl (e.rd h fun ps z => nomatch z)
  · exact Or.inr h
theorem Ex.t {K : PySem.W.Frag} {H H' : Hp} {a : Addr} {xs : List V} (e : Ex H H') (h : SqT K H a xs) : SqT K H' a xs := by
  rcases h with h | h
  · exact Or.inl (e.rd h fun ps z => nomatch z)
  · exact Or.inr h
/-- an exception that was caught: its class, its dict -/
def CauO (cls : Value) (d : Option Addr) (a : Addr) : HO := .ext fun h => ∃ (oe : Obj) (vs : Array Value), h.get? a = some oe ∧ Zc cls d oe ∧ oe.data = .fields vs
theorem cau_ne {cls : Value} {d : Option Addr} {a : Addr} (ps : Array Value) : CauO cls d a ≠ .tbl ps := fun z => by
  unfold CauO at z
  cases z
/-- a tuple that is tracked -/
def SqU (H : Hp) (a : Addr) (xs : List V) : Prop := H a = some (.tup xs)
theorem SqU.s {K : PySem.W.Frag} {H : Hp} {a : Addr} {xs : List V} (h : SqU H a xs) : SqT K H a xs := .inl (.inl h)
instance {K : PySem.W.Frag} {H : Hp} {a : Addr} {xs : List V} : Coe (SqU H a xs) (SqT K H a xs) := ⟨SqU.s⟩
theorem Ex.u {H H' : Hp} {a : Addr} {xs : List V} (e : Ex H H') (h : SqU H a xs) : SqU H' a xs := e.at_ _ _ h fun ps z => nomatch z
def basicT : List String := ["int", "bool", "tuple", "list", "str", "dict"]
/-- the class nm of the program: isinstance asks its instances rightly -/
structure ExcK (K : PySem.W.Frag) (nm : Str) : Prop where
  c : ExcC K (He.ga K nm)
  t : ∀ T ∈ basicT, PySem.W.kitOne K (.ref (He.ga K nm)) (.type T) = some false
mutual
/-- v stands for the data d, by what is frozen -/
inductive Rp (K : PySem.W.Frag) (H : Hp) : V → D → Prop
  | non : Rp K H .non .none
  | bl (b : Bool) : Rp K H (.bl b) (.bool b)
  | int (i : Int) : Rp K H (.int i) (.int i)
  | str (x : Str) : Rp K H (.str x) (.str x)
  | lst {a : Addr} {xs : List V} {ds : List D} : SqL K H a xs → RpAll K H xs ds → Rp K H (.ref a) (.list ds)
  | tup {a : Addr} {xs : List V} {ds : List D} : SqU H a xs → RpAll K H xs ds → Rp K H (.ref a) (.tuple ds)
  | emp {a : Addr} : H a = some (.dK []) → Rp K H (.ref a) (.dict [])
  | exc0 {a : Addr} {nm : Str} : H a = some (CauO (.ref (He.ga K nm)) none a) → ExcK K nm → Rp K H (.ref a) (.dict [(.str nm, .none)])
  | excF {a dd : Addr} {nm : Str} {fs : List (Str × V)} {kv : List (D × D)} : H a = some (CauO (.ref (He.ga K nm)) (some dd) a) → H dd = some (.xd fs) → ExcK K nm → kv.map (·.1) = fs.map (fun p => PyData.str p.1) → RpAll K H (fs.map (·.2)) (kv.map (·.2)) → Rp K H (.ref a) (.dict ((.str nm, .none) :: kv))
  | dci {a : Addr} {od : Obj} {ks : List (Int × V)} {kv : List (Int × D)} {dd : List (D × D)} : H a = some (.frz od (.dK (ks.map fun p => ((Sum.inl p.1 : Key), p.2)))) → ks.map (·.1) = kv.map (·.1) → RpAll K H (ks.map (·.2)) (kv.map (·.2)) → kv ≠ [] → dd = kv.map (fun q => (PyData.int q.1, q.2)) → Rp K H (.ref a) (.dict dd)
inductive RpAll (K : PySem.W.Frag) (H : Hp) : List V → List D → Prop
  | nil : RpAll K H [] []
  | cons {v : V} {vs : List V} {d : D} {ds : List D} : Rp K H v d → RpAll K H vs ds → RpAll K H (v :: vs) (d :: ds)
end
mutual
theorem rp_dp0 {K : PySem.W.Frag} {H : Hp} : ∀ {v : V} {d : D}, Rp K H v d → d.hasDict = false → Dp K H v d
  | _, _, .non, _ => .non
  | _, _, .bl b, _ => .bl b
  | _, _, .int i, _ => .int i
  | _, _, .str x, _ => .str x
  | _, _, .lst h a, e => .lst h (rpa_dpa0 a (by simpa [PyData.hasDict] using e))
  | _, _, .tup h a, e => .tup h (rpa_dpa0 a (by simpa [PyData.hasDict] using e))
  | _, _, .emp _, e => by simp [PyData.hasDict] at e
  | _, _, .exc0 _ _, e => by simp [PyData.hasDict] at e
  | _, _, .excF _ _ _ _ _, e => by simp [PyData.hasDict] at e
  | _, _, .dci _ _ _ _ _, e => by simp [PyData.hasDict] at e
theorem rpa_dpa0 {K : PySem.W.Frag} {H : Hp} : ∀ {vs : List V} {ds : List D}, RpAll K H vs ds → PyData.hasDictAll ds = false → DpAll K H vs ds
  | _, _, .nil, _ => .nil
  | _, _, .cons h t, e => by
    simp only [PyData.hasDictAll, Bool.or_eq_false_iff] at e
    exact .cons (rp_dp0 h e.1) (rpa_dpa0 t e.2)
end
theorem rp_dp {K : PySem.W.Frag} {H : Hp} {v : V} {d : D} (h : Rp K H v d) (s : SeqAt.shaped d = true) : Dp K H v d := rp_dp0 h (PyData.hasDict_of_canLay d (SeqAt.canLay_of_shaped s))
mutual
theorem dp_mono {K : PySem.W.Frag} {H H' : Hp} (e : Ex H H') : ∀ {v : V} {d : D}, Rp K H v d → Rp K H' v d
  | _, _, .non => .non
  | _, _, .bl b => .bl b
  | _, _, .int i => .int i
  | _, _, .str x => .str x
  | _, _, .lst h a => .lst (e.l h) (dpa_mono e a)
  | _, _, .tup h a => .tup (e.u h) (dpa_mono e a)
  | _, _, .emp h => .emp (e.at_ _ _ h fun ps z => nomatch z)
  | _, _, .exc0 h x => .exc0 (e.at_ _ _ h cau_ne) x
  | _, _, .excF h h2 x y a => .excF (e.at_ _ _ h cau_ne) (e.at_ _ _ h2 fun ps z => nomatch z) x y (dpa_mono e a)
  | _, _, .dci h x a n w => .dci (e.at_ _ _ h fun ps z => nomatch z) x (dpa_mono e a) n w
theorem dpa_mono {K : PySem.W.Frag} {H H' : Hp} (e : Ex H H') : ∀ {vs : List V} {ds : List D}, RpAll K H vs ds → RpAll K H' vs ds
  | _, _, .nil => .nil
  | _, _, .cons h t => .cons (dp_mono e h) (dpa_mono e t)
end
theorem dpa_len {K : PySem.W.Frag} {H : Hp} : ∀ {vs : List V} {ds : List D}, RpAll K H vs ds → vs.length = ds.length
  | _, _, .nil => rfl
  | _, _, .cons _ t => congrArg Nat.succ (dpa_len t)
theorem dpa_get {K : PySem.W.Frag} {H : Hp} : ∀ {vs : List V} {ds : List D} {i : Nat} {d : D}, RpAll K H vs ds → ds[i]? = some d → ∃ v, vs[i]? = some v ∧ Rp K H v d
  | _, _, _, _, .nil, e => by simp at e
  | _, _, 0, _, .cons h _, e => by
    simp at e
    subst e
    exact ⟨_, rfl, h⟩
  | _, _, i + 1, d, .cons _ t, e => by
    obtain ⟨v, h1, h2⟩ := dpa_get (i := i) (d := d) t (by simpa using e)
    exact ⟨v, by simpa using h1, h2⟩
theorem dpa_app {K : PySem.W.Frag} {H : Hp} : ∀ {vs ws : List V} {ds es : List D}, RpAll K H vs ds → RpAll K H ws es → RpAll K H (vs ++ ws) (ds ++ es)
  | _, _, _, _, .nil, h => h
  | _, _, _, _, .cons h t, q => .cons h (dpa_app t q)
theorem dpa_take {K : PySem.W.Frag} {H : Hp} : ∀ (n : Nat) {vs : List V} {ds : List D}, RpAll K H vs ds → RpAll K H (vs.take n) (ds.take n)
  | 0, _, _, _ => .nil
  | _ + 1, _, _, .nil => .nil
  | n + 1, _, _, .cons h t => .cons h (dpa_take n t)
theorem dpa_drop {K : PySem.W.Frag} {H : Hp} : ∀ (n : Nat) {vs : List V} {ds : List D}, RpAll K H vs ds → RpAll K H (vs.drop n) (ds.drop n)
  | 0, _, _, h => h
  | _ + 1, _, _, .nil => .nil
  | n + 1, _, _, .cons _ t => dpa_drop n t
theorem dpa_set {K : PySem.W.Frag} {H : Hp} {v : V} {d : D} (h : Rp K H v d) : ∀ (i : Nat) {vs : List V} {ds : List D}, RpAll K H vs ds → RpAll K H (vs.set i v) (ds.set i d)
  | _, _, _, .nil => .nil
  | 0, _, _, .cons _ t => .cons h t
  | i + 1, _, _, .cons q t => .cons q (dpa_set h i t)
theorem dpa_rep {K : PySem.W.Frag} {H : Hp} {vs : List V} {ds : List D} (h : RpAll K H vs ds) : ∀ n : Nat, RpAll K H (List.replicate n vs).flatten (List.replicate n ds).flatten
  | 0 => .nil
  | n + 1 => by
    rw [List.replicate_succ, List.replicate_succ, List.flatten_cons, List.flatten_cons]
    exact dpa_app h (dpa_rep h n)
theorem dpa_ints {K : PySem.W.Frag} {H : Hp} : ∀ (ns : List Int), RpAll K H (ns.map V.int) (ns.map PyData.int)
  | [] => .nil
  | n :: ns => .cons (.int n) (dpa_ints ns)
/-- the pairs of a dict -/
inductive KvAll (K : PySem.W.Frag) (F : Hp) {κ : Type} : List (κ × V) → List (κ × D) → Prop
  | nil : KvAll K F [] []
  | cons {k : κ} {v : V} {d : D} {ks : List (κ × V)} {kvs : List (κ × D)} : Rp K F v d → KvAll K F ks kvs → KvAll K F ((k, v) :: ks) ((k, d) :: kvs)
theorem KvAll.mono {K : PySem.W.Frag} {F F' : Hp} {κ : Type} (e : Ex F F') : ∀ {ks : List (κ × V)} {kvs : List (κ × D)}, KvAll K F ks kvs → KvAll K F' ks kvs
  | _, _, .nil => .nil
  | _, _, .cons h t => .cons (dp_mono e h) (KvAll.mono e t)
/-- the values within an object -/
def valsO : Option HO → Option (List V)
  | some (.lst vs) => some vs
  | some (.tup vs) => some vs
  | some (.dK ks) => some (ks.map (·.2))
  | _ => none
/-- b is the inner list at place i of the object at a -/
def InnAt (H : Hp) (a : Addr) (c : Ct) (i : Nat) (b : Addr) : Prop := match c with
  | .n t => ∃ vs ds, valsO (H a) = some vs ∧ vs[i]? = some (.ref b) ∧ t.its[i]? = some (.l ds)
  | _ => False
def Inn (H : Hp) (a : Addr) (c : Ct) (b : Addr) : Prop := ∃ i, InnAt H a c i b
theorem Inn.cg {H H' : Hp} {a b : Addr} {c : Ct} (h : Inn H a c b) (e : H' a = H a) : Inn H' a c b := by
  obtain ⟨i, h⟩ := h
  refine ⟨i, ?_⟩
  cases c with
  | n t =>
    obtain ⟨vs, ds, h1, h2, h3⟩ := h
    exact ⟨vs, ds, by rw [e]; exact h1, h2, h3⟩
  | _ => exact h
theorem inn_l {H : Hp} {a b : Addr} {ds : List D} : ¬ Inn H a (.l ds) b := fun ⟨_, h⟩ => h
theorem inn_d {H : Hp} {a b : Addr} {ds : List (Key × D)} : ¬ Inn H a (.d ds) b := fun ⟨_, h⟩ => h
theorem inn_t {H : Hp} {a b : Addr} {ds : List (List Key × D)} : ¬ Inn H a (.t ds) b := fun ⟨_, h⟩ => h
/-- v stands for the item -/
def ItOk (K : PySem.W.Frag) (F H : Hp) (v : V) : Im → Prop
  | .v d => Rp K F v d
  | .l ds => ∃ b vs, v = .ref b ∧ H b = some (.lst vs) ∧ RpAll K F vs ds
inductive ItAll (K : PySem.W.Frag) (F H : Hp) : List V → List Im → Prop
  | nil : ItAll K F H [] []
  | cons {v : V} {vs : List V} {i : Im} {is : List Im} : ItOk K F H v i → ItAll K F H vs is → ItAll K F H (v :: vs) (i :: is)
theorem ItAll.len {K : PySem.W.Frag} {F H : Hp} : ∀ {vs : List V} {is : List Im}, ItAll K F H vs is → vs.length = is.length
  | _, _, .nil => rfl
  | _, _, .cons _ t => congrArg Nat.succ t.len
theorem ItAll.get {K : PySem.W.Frag} {F H : Hp} : ∀ {vs : List V} {is : List Im} {j : Nat} {i : Im}, ItAll K F H vs is → is[j]? = some i → ∃ v, vs[j]? = some v ∧ ItOk K F H v i
  | _, _, _, _, .nil, e => by simp at e
  | _, _, 0, _, .cons h _, e => by
    simp at e
    subst e
    exact ⟨_, rfl, h⟩
  | _, _, j + 1, i, .cons _ t, e => by
    obtain ⟨v, h1, h2⟩ := ItAll.get (j := j) (i := i) t (by simpa using e)
    exact ⟨v, by simpa using h1, h2⟩
theorem ItAll.mono {K : PySem.W.Frag} {F F' H H' : Hp} (e : Ex F F') : ∀ {vs : List V} {is : List Im}, ItAll K F H vs is → (∀ (j : Nat) (b : Addr) (ds : List D), vs[j]? = some (.ref b) → is[j]? = some (.l ds) → H' b = H b) → ItAll K F' H' vs is
  | _, _, .nil, _ => .nil
  | _, _, @ItAll.cons _ _ _ v vs i is h t, q => by
    refine .cons ?_ (ItAll.mono e t fun j b ds h1 h2 => q (j + 1) b ds (by simpa using h1) (by simpa using h2))
    cases i with
    | v d => exact dp_mono e h
    | l ds =>
      obtain ⟨b, ws, rfl, h1, h2⟩ := h
      exact ⟨b, ws, rfl, (q 0 b ds rfl rfl).trans h1, dpa_mono e h2⟩
/-- the object at a is the deep one, its values vs -/
def NtAt (H : Hp) (a : Addr) (vs : List V) : Nt → Prop
  | .l _ => H a = some (.lst vs)
  | .u _ => H a = some (.tup vs)
  | .d kvs => ∃ ks, H a = some (.dK ks) ∧ ks.map (·.1) = kvs.map (·.1) ∧ vs = ks.map (·.2)
theorem NtAt.vals {H : Hp} {a : Addr} {vs : List V} {t : Nt} (h : NtAt H a vs t) : valsO (H a) = some vs := by
  cases t with
  | l is => have h : H a = some (.lst vs) := h; rw [h]; rfl
  | u is => have h : H a = some (.tup vs) := h; rw [h]; rfl
  | d kvs =>
    obtain ⟨ks, h1, _, rfl⟩ := h
    rw [h1]; rfl
/-- the object at a holds c -/
def CtOk (K : PySem.W.Frag) (F H : Hp) (a : Addr) : Ct → Prop
  | .l ds => ∃ vs, H a = some (.lst vs) ∧ RpAll K F vs ds
  | .d kvs => ∃ ks, H a = some (.dK ks) ∧ KvAll K F ks kvs
  | .t kvs => ∃ ks, H a = some (.dT ks) ∧ KvAll K F ks kvs
  | .n t => ∃ vs, NtAt H a vs t ∧ ItAll K F H vs t.its ∧ ∀ (i j : Nat) (b : Addr), i ≠ j → InnAt H a (.n t) i b → InnAt H a (.n t) j b → False
/-- an inner list is there -/
theorem CtOk.innl {K : PySem.W.Frag} {F H : Hp} {a : Addr} {c : Ct} (h : CtOk K F H a c) {i : Nat} {b : Addr} (n : InnAt H a c i b) : ∃ ws, H b = some (.lst ws) := by
  cases c with
  | n t =>
    obtain ⟨vs, h1, h2, h3⟩ := h
    obtain ⟨us, ds, g1, g2, g3⟩ := n
    rw [h1.vals] at g1
    cases g1
    obtain ⟨w, w1, b', ws, rfl, w2, w3⟩ := h2.get g3
    rw [g2] at w1
    cases w1
    exact ⟨ws, w2⟩
  | _ => exact n.elim
theorem CtOk.inn {K : PySem.W.Frag} {F H : Hp} {a : Addr} {c : Ct} (h : CtOk K F H a c) {b : Addr} (n : Inn H a c b) : ∃ ws, H b = some (.lst ws) := h.innl n.choose_spec
theorem CtOk.mono {K : PySem.W.Frag} {F F' H H' : Hp} {a : Addr} {c : Ct} (h : CtOk K F H a c) (e : Ex F F') (eH : H' a = H a) (eI : ∀ b, Inn H a c b → H' b = H b) : CtOk K F' H' a c := by
  cases c with
  | n t =>
    obtain ⟨vs, h1, h2, h3⟩ := h
    refine ⟨vs, ?_, h2.mono e fun j b ds g1 g2 => eI b ⟨j, vs, ds, h1.vals, g1, g2⟩, fun i j b ne g1 g2 => h3 i j b ne ?_ ?_⟩
    · cases t with
      | l is => exact eH.trans h1
      | u is => exact eH.trans h1
      | d kvs =>
        obtain ⟨ks, z1, z2, z3⟩ := h1
        exact ⟨ks, eH.trans z1, z2, z3⟩
    · obtain ⟨us, ds, x1, x2, x3⟩ := g1
      exact ⟨us, ds, by rw [← eH]; exact x1, x2, x3⟩
    · obtain ⟨us, ds, x1, x2, x3⟩ := g2
      exact ⟨us, ds, by rw [← eH]; exact x1, x2, x3⟩
  | l ds =>
    obtain ⟨vs, h1, h2⟩ := h
    exact ⟨vs, eH.trans h1, dpa_mono e h2⟩
  | d kvs =>
    obtain ⟨ks, h1, h2⟩ := h
    exact ⟨ks, eH.trans h1, KvAll.mono e h2⟩
  | t kvs =>
    obtain ⟨ks, h1, h2⟩ := h
    exact ⟨ks, eH.trans h1, KvAll.mono e h2⟩
theorem CtOk.there' {K : PySem.W.Frag} {F H : Hp} {a : Addr} {c : Ct} (h : CtOk K F H a c) : ∃ o, H a = some o ∧ ∀ ps, o ≠ .tbl ps := by
  cases c with
  | n t =>
    obtain ⟨vs, h1, h2⟩ := h
    cases t with
    | l is => exact ⟨_, h1, fun ps z => nomatch z⟩
    | u is => exact ⟨_, h1, fun ps z => nomatch z⟩
    | d kvs =>
      obtain ⟨ks, z1, _⟩ := h1
      exact ⟨_, z1, fun ps z => nomatch z⟩
  | l ds =>
    obtain ⟨vs, h1, h2⟩ := h
    exact ⟨_, h1, fun ps z => nomatch z⟩
  | d kvs =>
    obtain ⟨ks, h1, h2⟩ := h
    exact ⟨_, h1, fun ps z => nomatch z⟩
  | t kvs =>
    obtain ⟨ks, h1, h2⟩ := h
    exact ⟨_, h1, fun ps z => nomatch z⟩
theorem CtOk.there {K : PySem.W.Frag} {F H : Hp} {a : Addr} {c : Ct} (h : CtOk K F H a c) : ∃ o, H a = some o := by
  obtain ⟨o, h1, _⟩ := h.there'
  exact ⟨o, h1⟩
theorem tabs_upd {T : List (Addr × Str)} {H : Hp} {a : Addr} {o u : HO} (t : LamX.Tabs T H) (h1 : H a = some u) (n1 : ∀ ps, u ≠ .tbl ps) (n2 : ∀ c q, u ≠ LamX.CodeO c q) : LamX.Tabs T (upd H a o) := by
  intro p hp
  obtain ⟨ps, e1, e2, e3⟩ := t p hp
  refine ⟨ps, ?_, e2, fun pos cv hcv => ?_⟩
  · rw [upd_ne fun z => n1 ps (by rw [z, h1] at e1; exact Option.some.inj e1)]
    exact e1
  · obtain ⟨c, g1, g2⟩ := e3 pos cv hcv
    refine ⟨c, g1, ?_⟩
    rw [upd_ne fun z => n2 c p.2 (by rw [z, h1] at g2; rw [z]; exact Option.some.inj g2)]
    exact g2
theorem tabs_lst {T : List (Addr × Str)} {H : Hp} {a : Addr} {o : HO} {vs : List V} (t : LamX.Tabs T H) (h : H a = some (.lst vs)) : LamX.Tabs T (upd H a o) := tabs_upd t h (fun ps z => nomatch z) (fun c q z => by unfold LamX.CodeO at z; cases z)
theorem tabs_new {T : List (Addr × Str)} {H : Hp} {a : Addr} {o : HO} (t : LamX.Tabs T H) (h : H a = none) : LamX.Tabs T (upd H a o) := t.ext fun b u e => by rw [upd_ne (ne_of_none e h)]; exact e
theorem tabs_put {T : List (Addr × Str)} {K : PySem.W.Frag} {F H : Hp} {a : Addr} {c : Ct} {o : HO} (t : LamX.Tabs T H) (h : CtOk K F H a c) : LamX.Tabs T (upd H a o) := by
  have key : ∃ u, H a = some u ∧ (∀ ps, u ≠ .tbl ps) ∧ ∀ c q, u ≠ LamX.CodeO c q := by
    cases c with
    | n t =>
      obtain ⟨vs, h1, h2⟩ := h
      cases t with
      | l is => exact ⟨_, h1, (fun ps z => nomatch z), (fun c q z => by unfold LamX.CodeO at z; cases z)⟩
      | u is => exact ⟨_, h1, (fun ps z => nomatch z), (fun c q z => by unfold LamX.CodeO at z; cases z)⟩
      | d kvs =>
        obtain ⟨ks, z1, _⟩ := h1
        exact ⟨_, z1, (fun ps z => nomatch z), (fun c q z => by unfold LamX.CodeO at z; cases z)⟩
    | l ds =>
      obtain ⟨vs, h1, h2⟩ := h
      exact ⟨_, h1, ⟨(fun ps z => nomatch z), (fun c q z => by unfold LamX.CodeO at z; cases z)⟩⟩
    | d kvs =>
      obtain ⟨ks, h1, h2⟩ := h
      exact ⟨_, h1, ⟨(fun ps z => nomatch z), (fun c q z => by unfold LamX.CodeO at z; cases z)⟩⟩
    | t kvs =>
      obtain ⟨ks, h1, h2⟩ := h
      exact ⟨_, h1, ⟨(fun ps z => nomatch z), (fun c q z => by unfold LamX.CodeO at z; cases z)⟩⟩
  obtain ⟨u, h1, n1, n2⟩ := key
  intro p hp
  obtain ⟨ps, e1, e2, e3⟩ := t p hp
  refine ⟨ps, ?_, e2, fun pos cv hcv => ?_⟩
  · rw [upd_ne fun z => n1 ps (by rw [z, h1] at e1; exact Option.some.inj e1)]
    exact e1
  · obtain ⟨c, g1, g2⟩ := e3 pos cv hcv
    refine ⟨c, g1, ?_⟩
    rw [upd_ne fun z => n2 c p.2 (by rw [z, h1] at g2; rw [z]; exact Option.some.inj g2)]
    exact g2
/-- the owned object of a slot -/
def Sl.own : Sl → Option Ct
  | .o c => some c
  | .io c => some c
  | _ => none
def SlOk (K : PySem.W.Frag) (pa : Addr) (H0 F H : Hp) (v : V) : Sl → Prop
  | .unk => True
  | .v d => Rp K F v d
  | .o c => ∃ a, v = .ref a ∧ F a = none ∧ H0 a = none ∧ CtOk K F H a c
  | .io c => v = .ref pa ∧ F pa = none ∧ H0 pa = none ∧ CtOk K F H pa c
  | .pin => v = .ref pa
theorem SlOk.owned {K : PySem.W.Frag} {pa : Addr} {H0 F H : Hp} {v : V} {s : Sl} {c : Ct} (h : SlOk K pa H0 F H v s) (e : s.own = some c) : ∃ a, v = .ref a ∧ F a = none ∧ H0 a = none ∧ CtOk K F H a c := by
  cases s with
  | unk => cases e
  | pin => cases e
  | v d => cases e
  | o c' => cases e; exact h
  | io c' => cases e; exact ⟨pa, h⟩
/-- p is no slot's object, nor within one -/
def Nob (H : Hp) (st : L2.St) (r : En) (p : Addr) : Prop := ∀ (i : Nat) (s : Sl) (c : Ct) (a : Addr), r[i]? = some s → s.own = some c → st[i]? = some (some (.ref a)) → a ≠ p ∧ ¬ Inn H a c p
variable [TabT]
/-- THE STATE: what must stand as it was (H0), what was frozen at the start (F0), what is frozen by now (F), the heap, the slots -/
structure Ok (K : PySem.W.Frag) (pa : Nat → Addr) (H0 F0 F H : Hp) (st : L2.St) (r : En) : Prop where
  hH : Ex H0 H
  fF : Ex F0 F
  fH : Ex F H
  sep : ∀ a, H0 a ≠ none → F a ≠ none → F0 a ≠ none
  len : st.length = r.length
  sl : ∀ (i : Nat) (s : Sl), r[i]? = some s → s ≠ .unk → ∃ v, st[i]? = some (some v) ∧ SlOk K (pa i) H0 F H v s
  tb : LamX.Tabs (TabT.T K) H
  dis : ∀ (i j : Nat) (s q : Sl) (c c' : Ct) (a : Addr), i ≠ j → r[i]? = some s → r[j]? = some q → s.own = some c → q.own = some c' → st[i]? = some (some (.ref a)) → st[j]? = some (some (.ref a)) → False
  inn : ∀ (i : Nat) (s : Sl) (c : Ct) (a b : Addr), r[i]? = some s → s.own = some c → st[i]? = some (some (.ref a)) → Inn H a c b → F b = none ∧ H0 b = none ∧ ∀ (j : Nat) (q : Sl) (c' : Ct) (a' : Addr), r[j]? = some q → q.own = some c' → st[j]? = some (some (.ref a')) → a' ≠ b ∧ (j ≠ i → ¬ Inn H a' c' b)
section
variable {K : PySem.W.Frag} {pa : Nat → Addr} {H0 F0 F H F' H' : Hp} {st : L2.St} {r : En}
theorem ne_none {α : Type} {o : Option α} {a : α} (h : o = some a) : o ≠ none := by
  rw [h]
  exact fun z => nomatch z
theorem none_of_not {α : Type} {o : Option α} (h : ¬ o ≠ none) : o = none := by
  cases o with
  | none => rfl
  | some a => exact absurd (ne_none rfl) h
/-- new objects only, some of them frozen -/
theorem Ok.grow (k : Ok K pa H0 F0 F H st r) (eH : Ex H H') (eF : Ex F F') (fh : Ex F' H') (new : ∀ a, F' a ≠ none → H a ≠ none → F a ≠ none) (tb : LamX.Tabs (TabT.T K) H') : Ok K pa H0 F0 F' H' st r where
  hH := k.hH.trans eH
  fF := k.fF.trans eF
  fH := fh
  sep := fun a h1 h2 => k.sep a h1 (new a h2 (by
    cases q : H0 a with
    | none => exact absurd q h1
    | some o =>
      obtain ⟨o', q'⟩ := k.hH.some q
      exact ne_none q'))
  len := k.len
  sl := fun i s h n => by
    obtain ⟨v, h1, h2⟩ := k.sl i s h n
    refine ⟨v, h1, ?_⟩
    have own : ∀ a c, F a = none → CtOk K F H a c → F' a = none ∧ CtOk K F' H' a c := fun a c hf hc => by
      obtain ⟨o, ho, hnt⟩ := hc.there'
      refine ⟨none_of_not fun z => new a z (ne_none ho) hf, hc.mono eF ((eH.at_ a o ho hnt).trans ho.symm) fun b hb => ?_⟩
      obtain ⟨ws, hw⟩ := hc.inn hb
      exact (eH.at_ b _ hw fun ps z => nomatch z).trans hw.symm
    cases s with
    | unk => trivial
    | pin => exact h2
    | v d => exact dp_mono eF h2
    | o c =>
      obtain ⟨a, e1, e2, e3, e4⟩ := h2
      obtain ⟨z1, z2⟩ := own a c e2 e4
      exact ⟨a, e1, z1, e3, z2⟩
    | io c =>
      obtain ⟨e1, e2, e3, e4⟩ := h2
      obtain ⟨z1, z2⟩ := own _ c e2 e4
      exact ⟨e1, z1, e3, z2⟩
  tb := tb
  dis := k.dis
  inn := fun i s c a b h1 h2 h3 h4 => by
    have own : ∀ (j : Nat) (q : Sl) (c' : Ct) (a' : Addr), r[j]? = some q → q.own = some c' → st[j]? = some (some (.ref a')) → H' a' = H a' ∧ CtOk K F H a' c' := fun j q c' a' g1 g2 g3 => by
      obtain ⟨v, w1, w2⟩ := k.sl j q g1 (by
        intro z
        subst z
        cases g2)
      obtain ⟨a2, z1, z2, z3, z4⟩ := w2.owned g2
      rw [g3] at w1
      cases w1
      cases z1
      obtain ⟨o, ho, hnt⟩ := z4.there'
      exact ⟨(eH.at_ _ o ho hnt).trans ho.symm, z4⟩
    obtain ⟨e1, ok1⟩ := own i s c a h1 h2 h3
    have h5 : Inn H a c b := h4.cg e1.symm
    obtain ⟨f1, f2, f3⟩ := k.inn i s c a b h1 h2 h3 h5
    obtain ⟨ws, hw⟩ := ok1.inn h5
    refine ⟨none_of_not fun z => new b z (ne_none hw) f1, f2, fun j q c' a' g1 g2 g3 => ?_⟩
    obtain ⟨y1, y2⟩ := f3 j q c' a' g1 g2 g3
    exact ⟨y1, fun nj n => y2 nj (n.cg (own j q c' a' g1 g2 g3).1.symm)⟩
/-- a new tracked object that nobody freezes -/
theorem Ok.lay (k : Ok K pa H0 F0 F H st r) {p : Addr} {o : HO} (n : H p = none) : Ok K pa H0 F0 F (upd H p o) st r :=
  k.grow (Ex.new n) (Ex.refl F) (k.fH.mut (k.fH.nn n)) (fun _ h _ => h) (k.tb.ext fun a u e => by rw [upd_ne (ne_of_none e n)]; exact e)
/-- a new object, frozen at once -/
theorem Ok.layF (k : Ok K pa H0 F0 F H st r) {p : Addr} {o : HO} (n : H p = none) : Ok K pa H0 F0 (upd F p o) (upd H p o) st r := by
  have nF := k.fH.nn n
  refine k.grow (Ex.new n) (Ex.new nF) ⟨fun a u e nt => ?_, fun a ps e => ?_⟩ (fun a h1 h2 => ?_) (k.tb.ext fun a u e => by rw [upd_ne (ne_of_none e n)]; exact e)
  · by_cases ha : a = p
    · subst ha
      rw [upd_same] at e ⊢
      exact e
    · rw [upd_ne ha] at e ⊢
      exact k.fH.at_ a u e nt
  · by_cases ha : a = p
    · subst ha
      rw [upd_same] at e ⊢
      exact ⟨#[], by rw [Array.append_empty]; exact e⟩
    · rw [upd_ne ha] at e ⊢
      exact k.fH.tb a ps e
  · by_cases ha : a = p
    · subst ha
      exact absurd n h2
    · rw [upd_ne ha] at h1
      exact h1
/-- a tracked object that is nobody's is frozen -/
theorem Ok.frz (k : Ok K pa H0 F0 F H st r) {p : Addr} {o : HO} (h : H p = some o) (n0 : H0 p = none) (nO : Nob H st r p) (nF : F p = none) : Ok K pa H0 F0 (upd F p o) H st r where
  hH := k.hH
  fF := k.fF.trans (Ex.new nF)
  fH := ⟨fun a u e nt => by
    by_cases ha : a = p
    · subst ha
      rw [upd_same] at e
      rw [h]
      exact e
    · rw [upd_ne ha] at e
      exact k.fH.at_ a u e nt, fun a ps e => by
    by_cases ha : a = p
    · subst ha
      rw [upd_same] at e
      rw [h]
      exact ⟨#[], by rw [Array.append_empty]; exact e⟩
    · rw [upd_ne ha] at e
      exact k.fH.tb a ps e⟩
  sep := fun a h1 h2 => by
    by_cases ha : a = p
    · subst ha
      exact absurd n0 h1
    · rw [upd_ne ha] at h2
      exact k.sep a h1 h2
  len := k.len
  sl := fun i s h1 n => by
    obtain ⟨v, h2, h3⟩ := k.sl i s h1 n
    refine ⟨v, h2, ?_⟩
    cases s with
    | unk => trivial
    | pin => exact h3
    | v d => exact dp_mono (Ex.new nF) h3
    | o c =>
      obtain ⟨a, e1, e2, e3, e4⟩ := h3
      have ne : a ≠ p := (nO i _ c a h1 rfl (by rw [h2, e1])).1
      exact ⟨a, e1, by rw [upd_ne ne]; exact e2, e3, e4.mono (Ex.new nF) rfl fun _ _ => rfl⟩
    | io c =>
      obtain ⟨e1, e2, e3, e4⟩ := h3
      have ne : pa i ≠ p := (nO i _ c _ h1 rfl (by rw [h2, e1])).1
      exact ⟨e1, by rw [upd_ne ne]; exact e2, e3, e4.mono (Ex.new nF) rfl fun _ _ => rfl⟩
  tb := k.tb
  dis := k.dis
  inn := fun i s c a b h1 h2 h3 h4 => by
    obtain ⟨f1, f2, f3⟩ := k.inn i s c a b h1 h2 h3 h4
    have ne : b ≠ p := fun z => (nO i s c a h1 h2 h3).2 (z ▸ h4)
    exact ⟨by rw [upd_ne ne]; exact f1, f2, f3⟩
/-- a new address is nobody's -/
theorem Ok.nobody (k : Ok K pa H0 F0 F H st r) {p : Addr} (n : H p = none) : Nob H st r p := fun i s c a h1 h2 h3 => by
  obtain ⟨v, e1, e2⟩ := k.sl i s h1 (by
    intro z
    subst z
    cases h2)
  obtain ⟨a', z1, _, _, z4⟩ := e2.owned h2
  rw [h3] at e1
  cases e1
  cases z1
  refine ⟨fun z => ?_, fun z => ?_⟩
  · subst z
    obtain ⟨o, ho⟩ := z4.there
    rw [n] at ho
    cases ho
  · obtain ⟨ws, hw⟩ := z4.inn z
    rw [n] at hw
    cases hw
/-- another frame to be kept -/
theorem Ok.frame (k : Ok K pa H0 F0 F H st r) {H0' : Hp} (h1 : Ex H0' H) (h2 : ∀ a, H0' a ≠ none → F a ≠ none → F0 a ≠ none) (h3 : ∀ (i : Nat) (s : Sl) (c : Ct) (a : Addr), r[i]? = some s → s.own = some c → st[i]? = some (some (.ref a)) → H0' a = none ∧ ∀ b, Inn H a c b → H0' b = none) : Ok K pa H0' F0 F H st r where
  hH := h1
  fF := k.fF
  fH := k.fH
  sep := h2
  len := k.len
  sl := fun i s e n => by
    obtain ⟨v, e1, e2⟩ := k.sl i s e n
    refine ⟨v, e1, ?_⟩
    cases s with
    | unk => trivial
    | pin => exact e2
    | v d => exact e2
    | o c =>
      obtain ⟨a, z1, z2, z3, z4⟩ := e2
      exact ⟨a, z1, z2, (h3 i _ c a e rfl (by rw [e1, z1])).1, z4⟩
    | io c =>
      obtain ⟨z1, z2, z3, z4⟩ := e2
      exact ⟨z1, z2, (h3 i _ c (pa i) e rfl (by rw [e1, z1])).1, z4⟩
  tb := k.tb
  dis := k.dis
  inn := fun i s c a b g1 g2 g3 g4 => by
    obtain ⟨f1, f2, f3⟩ := k.inn i s c a b g1 g2 g3 g4
    exact ⟨f1, (h3 i s c a g1 g2 g3).2 b g4, f3⟩
end
end Pu
namespace Pu
open PySem PySem.Spec PyProof.Rows L2
variable [TabT]
/-! ### slots changed -/
def Sl.isIo : Sl → Bool
  | .io _ => true
  | .pin => true
  | _ => false
def Sl.put (c : Ct) : Sl → Sl
  | .io _ => .io c
  | _ => .o c
section
variable {K : PySem.W.Frag} {pa : Nat → Addr} {H0 F0 F H F' H' : Hp} {st : L2.St} {r : En}
theorem Ok.lookup (k : Ok K pa H0 F0 F H st r) {i : Nat} {s : Sl} (h : r[i]? = some s) (n : s ≠ .unk) : ∃ v, st[i]? = some (some v) ∧ SlOk K (pa i) H0 F H v s := k.sl i s h n
theorem Ok.val (k : Ok K pa H0 F0 F H st r) {i : Nat} {d : D} (h : r[i]? = some (.v d)) : ∃ v, st[i]? = some (some v) ∧ Rp K F v d := k.sl i _ h (fun z => nomatch z)
theorem Ok.ownd (k : Ok K pa H0 F0 F H st r) {i : Nat} {s : Sl} {c : Ct} (h : r[i]? = some s) (hc : s.own = some c) : ∃ a, st[i]? = some (some (.ref a)) ∧ F a = none ∧ H0 a = none ∧ CtOk K F H a c := by
  obtain ⟨v, e1, e2⟩ := k.sl i s h (by
    intro z
    subst z
    cases hc)
  obtain ⟨a, rfl, z⟩ := e2.owned hc
  exact ⟨a, e1, z⟩
/-- the object at a, with what is within it, is no slot's -/
def Away (H0 F H : Hp) (st : L2.St) (r : En) (a : Addr) (c : Ct) : Prop := Nob H st r a ∧ ∀ b, Inn H a c b → F b = none ∧ H0 b = none ∧ a ≠ b ∧ Nob H st r b
omit [TabT] in
theorem Away.l {a : Addr} {ds : List D} (h : Nob H st r a) : Away H0 F H st r a (.l ds) := ⟨h, fun _ z => (inn_l z).elim⟩
omit [TabT] in
theorem Away.d {a : Addr} {ds : List (Key × D)} (h : Nob H st r a) : Away H0 F H st r a (.d ds) := ⟨h, fun _ z => (inn_d z).elim⟩
omit [TabT] in
theorem Away.t {a : Addr} {ds : List (List Key × D)} (h : Nob H st r a) : Away H0 F H st r a (.t ds) := ⟨h, fun _ z => (inn_t z).elim⟩
omit [TabT] in
theorem Nob.cg {a : Addr} (h : Nob H st r a) (e : ∀ (i : Nat) (s : Sl) (c : Ct) (b : Addr), r[i]? = some s → s.own = some c → st[i]? = some (some (.ref b)) → H' b = H b) : Nob H' st r a := fun i s c b h1 h2 h3 => by
  obtain ⟨g1, g2⟩ := h i s c b h1 h2 h3
  exact ⟨g1, fun n => g2 (n.cg (e i s c b h1 h2 h3).symm)⟩
omit [TabT] in
theorem Nob.upd {a : Addr} {o : HO} (h : Nob H st r a) : Nob (upd H a o) st r a := h.cg fun i s c b h1 h2 h3 => upd_ne (h i s c b h1 h2 h3).1
omit [TabT] in
/-- fewer slots -/
theorem Nob.unk {a : Addr} (h : Nob H st r a) {i : Nat} {x : Option V} : Nob H (st.set i x) (r.set i .unk) a := fun j s c b hj hc hst => by
  by_cases e : i = j
  · subst e
    rw [List.getElem?_set_self'] at hj
    cases hr : r[i]? with
    | none =>
      rw [hr] at hj
      cases hj
    | some z =>
      rw [hr] at hj
      cases hj
      cases hc
  · rw [List.getElem?_set_ne e] at hj hst
    exact h j s c b hj hc hst
/-- a slot is stored -/
theorem Ok.set (k : Ok K pa H0 F0 F H st r) {i : Nat} {v : V} {s : Sl} (hi : ∀ q, r[i]? = some q → q.isIo = false) (hs : s.isIo = false) (ok : SlOk K (pa i) H0 F H v s)
    (hd : ∀ (a : Addr) (c : Ct), s.own = some c → v = .ref a → Away H0 F H (st.set i none) (r.set i .unk) a c) : Ok K pa H0 F0 F H (st.set i (some v)) (r.set i s) where
  hH := k.hH
  fF := k.fF
  fH := k.fH
  sep := k.sep
  len := by rw [List.length_set, List.length_set, k.len]
  sl := fun j q h n => by
    by_cases e : i = j
    · subst e
      rw [List.getElem?_set_self'] at h
      by_cases hl : i < r.length
      · rw [List.getElem?_eq_getElem hl] at h
        cases h
        refine ⟨v, ?_, ok⟩
        rw [List.getElem?_set_self (by rw [k.len]; exact hl)]
      · rw [List.getElem?_eq_none (by omega)] at h
        cases h
    · rw [List.getElem?_set_ne e] at h
      obtain ⟨w, z1, z2⟩ := k.sl j q h n
      exact ⟨w, by rw [List.getElem?_set_ne e]; exact z1, z2⟩
  tb := k.tb
  dis := fun j1 j2 q1 q2 c1 c2 a ne h1 h2 o1 o2 s1 s2 => by
    by_cases e1 : i = j1
    · subst e1
      have e2 : i ≠ j2 := ne
      rw [List.getElem?_set_ne e2] at h2 s2
      rw [List.getElem?_set_self'] at h1 s1
      by_cases hl : i < r.length
      · rw [List.getElem?_eq_getElem hl] at h1
        rw [List.getElem?_eq_getElem (by rw [k.len]; exact hl)] at s1
        cases h1
        cases s1
        exact ((hd a c1 o1 rfl).1 j2 q2 c2 a (by rw [List.getElem?_set_ne e2]; exact h2) o2 (by rw [List.getElem?_set_ne e2]; exact s2)).1 rfl
      · rw [List.getElem?_eq_none (by omega)] at h1
        cases h1
    · rw [List.getElem?_set_ne e1] at h1 s1
      by_cases e2 : i = j2
      · subst e2
        rw [List.getElem?_set_self'] at h2 s2
        by_cases hl : i < r.length
        · rw [List.getElem?_eq_getElem hl] at h2
          rw [List.getElem?_eq_getElem (by rw [k.len]; exact hl)] at s2
          cases h2
          cases s2
          exact ((hd a c2 o2 rfl).1 j1 q1 c1 a (by rw [List.getElem?_set_ne e1]; exact h1) o1 (by rw [List.getElem?_set_ne e1]; exact s1)).1 rfl
        · rw [List.getElem?_eq_none (by omega)] at h2
          cases h2
      · rw [List.getElem?_set_ne e2] at h2 s2
        exact k.dis j1 j2 q1 q2 c1 c2 a ne h1 h2 o1 o2 s1 s2
  inn := by
    have old : ∀ (j : Nat) (q : Sl) (x : Option V), i ≠ j → (r.set i s)[j]? = some q → (st.set i (some v))[j]? = some x → r[j]? = some q ∧ st[j]? = some x ∧ (r.set i .unk)[j]? = some q ∧ (st.set i none)[j]? = some x := fun j q x e h1 h2 => by
      rw [List.getElem?_set_ne e] at h1 h2
      exact ⟨h1, h2, by rw [List.getElem?_set_ne e]; exact h1, by rw [List.getElem?_set_ne e]; exact h2⟩
    have new : ∀ (q : Sl) (x : Option V), (r.set i s)[i]? = some q → (st.set i (some v))[i]? = some x → q = s ∧ x = some v := fun q x h1 h2 => by
      rw [List.getElem?_set_self'] at h1 h2
      cases hr : r[i]? with
      | none =>
        rw [hr] at h1
        cases h1
      | some z =>
        cases hs : st[i]? with
        | none =>
          rw [hs] at h2
          cases h2
        | some y =>
          rw [hr] at h1
          rw [hs] at h2
          cases h1
          cases h2
          exact ⟨rfl, rfl⟩
    intro j q c a b h1 h2 h3 h4
    by_cases e : i = j
    · subst e
      obtain ⟨rfl, hx⟩ := new q _ h1 h3
      cases hx
      obtain ⟨n1, n2⟩ := hd a c h2 rfl
      obtain ⟨g1, g2, g3, g4⟩ := n2 b h4
      refine ⟨g1, g2, fun j q' c' a' w1 w2 w3 => ?_⟩
      by_cases e : i = j
      · subst e
        obtain ⟨rfl, hx⟩ := new q' _ w1 w3
        cases hx
        exact ⟨g3, fun z => absurd rfl z⟩
      · obtain ⟨y1, y2, y3, y4⟩ := old j q' _ e w1 w3
        obtain ⟨u1, u2⟩ := g4 j q' c' a' y3 w2 y4
        exact ⟨u1, fun _ => u2⟩
    · obtain ⟨x1, x2, x3, x4⟩ := old j q _ e h1 h3
      obtain ⟨g1, g2, g3⟩ := k.inn j q c a b x1 h2 x2 h4
      refine ⟨g1, g2, fun j2 q' c' a' w1 w2 w3 => ?_⟩
      by_cases e2 : i = j2
      · subst e2
        obtain ⟨rfl, hx⟩ := new q' _ w1 w3
        cases hx
        obtain ⟨n1, n2⟩ := hd a' c' w2 rfl
        refine ⟨fun z => (n1 j q c a x3 h2 x4).2 (z ▸ h4), fun _ n => ?_⟩
        exact ((n2 b n).2.2.2 j q c a x3 h2 x4).2 h4
      · obtain ⟨y1, y2, y3, y4⟩ := old j2 q' _ e2 w1 w3
        exact g3 j2 q' c' a' y1 w2 y2
theorem Ok.setV (k : Ok K pa H0 F0 F H st r) {i : Nat} {v : V} {d : D} (hi : ∀ q, r[i]? = some q → q.isIo = false) (ok : Rp K F v d) : Ok K pa H0 F0 F H (st.set i (some v)) (r.set i (.v d)) :=
  k.set (s := .v d) hi rfl ok fun _ _ z => nomatch z
/-- a slot is forgotten -/
theorem Ok.forget (k : Ok K pa H0 F0 F H st r) {i : Nat} {x : Option V} : Ok K pa H0 F0 F H (st.set i x) (r.set i .unk) where
  hH := k.hH
  fF := k.fF
  fH := k.fH
  sep := k.sep
  len := by rw [List.length_set, List.length_set, k.len]
  sl := fun j q h n => by
    by_cases e : i = j
    · subst e
      rw [List.getElem?_set_self'] at h
      by_cases hl : i < r.length
      · rw [List.getElem?_eq_getElem hl] at h
        cases h
        exact absurd rfl n
      · rw [List.getElem?_eq_none (by omega)] at h
        cases h
    · rw [List.getElem?_set_ne e] at h
      obtain ⟨w, z1, z2⟩ := k.sl j q h n
      exact ⟨w, by rw [List.getElem?_set_ne e]; exact z1, z2⟩
  tb := k.tb
  dis := fun j1 j2 q1 q2 c1 c2 a ne h1 h2 o1 o2 s1 s2 => by
    have no : ∀ (j : Nat) (q : Sl) (c : Ct), (r.set i .unk)[j]? = some q → q.own = some c → i ≠ j := fun j q c h o e => by
      subst e
      rw [List.getElem?_set_self'] at h
      by_cases hl : i < r.length
      · rw [List.getElem?_eq_getElem hl] at h
        cases h
        cases o
      · rw [List.getElem?_eq_none (by omega)] at h
        cases h
    have e1 := no j1 q1 c1 h1 o1
    have e2 := no j2 q2 c2 h2 o2
    rw [List.getElem?_set_ne e1] at h1 s1
    rw [List.getElem?_set_ne e2] at h2 s2
    exact k.dis j1 j2 q1 q2 c1 c2 a ne h1 h2 o1 o2 s1 s2
  inn := by
    have no : ∀ (j : Nat) (q : Sl) (c : Ct), (r.set i .unk)[j]? = some q → q.own = some c → i ≠ j := fun j q c h o e => by
      subst e
      rw [List.getElem?_set_self'] at h
      by_cases hl : i < r.length
      · rw [List.getElem?_eq_getElem hl] at h
        cases h
        cases o
      · rw [List.getElem?_eq_none (by omega)] at h
        cases h
    intro j q c a b h1 h2 h3 h4
    have e1 := no j q c h1 h2
    rw [List.getElem?_set_ne e1] at h1 h3
    obtain ⟨g1, g2, g3⟩ := k.inn j q c a b h1 h2 h3 h4
    refine ⟨g1, g2, fun j2 q' c' a' w1 w2 w3 => ?_⟩
    have e2 := no j2 q' c' w1 w2
    rw [List.getElem?_set_ne e2] at w1 w3
    exact g3 j2 q' c' a' w1 w2 w3
/-- an owned object is changed -/
theorem Ok.put (k : Ok K pa H0 F0 F H st r) {i : Nat} {s : Sl} {c c' : Ct} {a : Addr} {o : HO} (h : r[i]? = some s) (hc : s.own = some c) (ha : st[i]? = some (some (.ref a))) (new : CtOk K F (upd H a o) a c')
    (newI : ∀ b, Inn (upd H a o) a c' b → Inn H a c b ∨ (F b = none ∧ H0 b = none ∧ a ≠ b ∧ Nob H st r b) := by intro b hb; first | exact (inn_l hb).elim | exact (inn_d hb).elim | exact (inn_t hb).elim) : Ok K pa H0 F0 F (upd H a o) st (r.set i (s.put c')) := by
  obtain ⟨a', z1, z2, z3, z4⟩ := k.ownd h hc
  rw [ha] at z1
  cases z1
  have hl : i < r.length := (List.getElem?_eq_some_iff.mp h).1
  have po : (s.put c').own = some c' := by cases s <;> rfl
  have other : ∀ (j : Nat) (q : Sl) (c2 : Ct) (b : Addr), i ≠ j → r[j]? = some q → q.own = some c2 → st[j]? = some (some (.ref b)) → b ≠ a := fun j q c2 b e hq hq2 hb z => by
    subst z
    exact k.dis i j s q c c2 b e h hq hc hq2 ha hb
  have get : ∀ (j : Nat) (q : Sl) (c2 : Ct), (r.set i (s.put c'))[j]? = some q → q.own = some c2 → (i = j ∧ q = s.put c' ∧ c2 = c') ∨ (i ≠ j ∧ r[j]? = some q) := fun j q c2 hq ho => by
    by_cases e : i = j
    · subst e
      rw [List.getElem?_set_self hl] at hq
      cases hq
      rw [po] at ho
      cases ho
      exact .inl ⟨rfl, rfl, rfl⟩
    · rw [List.getElem?_set_ne e] at hq
      exact .inr ⟨e, hq⟩
  refine ⟨k.hH.mut z3, k.fF, k.fH.mut z2, k.sep, by rw [List.length_set, k.len], fun j q hq n => ?_, tabs_put k.tb z4, fun j1 j2 q1 q2 c1 c2 b ne h1 h2 o1 o2 s1 s2 => ?_, fun j q c2 b b2 hq ho hst hin => ?_⟩
  · by_cases e : i = j
    · subst e
      rw [List.getElem?_set_self hl] at hq
      cases hq
      obtain ⟨v, w1, w2⟩ := k.sl i s h (by
        intro z
        subst z
        cases hc)
      rw [ha] at w1
      cases w1
      refine ⟨_, ha, ?_⟩
      cases s with
      | unk => cases hc
      | pin => cases hc
      | v d => cases hc
      | o c1 => exact ⟨a, rfl, z2, z3, new⟩
      | io c1 =>
        obtain ⟨y1, y2, y3, y4⟩ := w2
        cases y1
        exact ⟨rfl, z2, z3, new⟩
    · rw [List.getElem?_set_ne e] at hq
      obtain ⟨v, w1, w2⟩ := k.sl j q hq n
      refine ⟨v, w1, ?_⟩
      cases q with
      | unk => trivial
      | pin => exact w2
      | v d => exact w2
      | o c1 =>
        obtain ⟨b, y1, y2, y3, y4⟩ := w2
        have nb : b ≠ a := other j _ c1 b e hq rfl (by rw [w1, y1])
        exact ⟨b, y1, y2, y3, y4.mono (Ex.refl F) (upd_ne nb) fun b2 hb2 => upd_ne fun z => ((k.inn j _ c1 b b2 hq rfl (by rw [w1, y1]) hb2).2.2 i s c a h hc ha).1 z.symm⟩
      | io c1 =>
        obtain ⟨y1, y2, y3, y4⟩ := w2
        have nb : pa j ≠ a := other j _ c1 (pa j) e hq rfl (by rw [w1, y1])
        exact ⟨y1, y2, y3, y4.mono (Ex.refl F) (upd_ne nb) fun b2 hb2 => upd_ne fun z => ((k.inn j _ c1 _ b2 hq rfl (by rw [w1, y1]) hb2).2.2 i s c a h hc ha).1 z.symm⟩
  · have get : ∀ (j : Nat) (q : Sl) (c2 : Ct), (r.set i (s.put c'))[j]? = some q → q.own = some c2 → ∃ q' c3, r[j]? = some q' ∧ q'.own = some c3 := fun j q c2 hq ho => by
      by_cases e : i = j
      · subst e
        exact ⟨s, c, h, hc⟩
      · rw [List.getElem?_set_ne e] at hq
        exact ⟨q, c2, hq, ho⟩
    obtain ⟨q1', c1', g1, g2⟩ := get j1 q1 c1 h1 o1
    obtain ⟨q2', c2', g3, g4⟩ := get j2 q2 c2 h2 o2
    exact k.dis j1 j2 q1' q2' c1' c2' b ne g1 g3 g2 g4 s1 s2
  · -- what is within
    have far : ∀ (j : Nat) (q : Sl) (c3 : Ct) (b3 b4 : Addr), i ≠ j → r[j]? = some q → q.own = some c3 → st[j]? = some (some (.ref b3)) → Inn (upd H a o) b3 c3 b4 → Inn H b3 c3 b4 := fun j q c3 b3 b4 e g1 g2 g3 g4 => g4.cg (upd_ne (other j q c3 b3 e g1 g2 g3)).symm
    rcases get j q c2 hq ho with ⟨rfl, rfl, rfl⟩ | ⟨e, hq'⟩
    · rw [ha] at hst
      cases hst
      rcases newI b2 hin with hi | ⟨f1, f2, f3, f4⟩
      · obtain ⟨f1, f2, f3⟩ := k.inn i s c a b2 h hc ha hi
        refine ⟨f1, f2, fun j2 q2 c3 b3 g1 g2 g3 => ?_⟩
        rcases get j2 q2 c3 g1 g2 with ⟨rfl, rfl, rfl⟩ | ⟨e, g1⟩
        · rw [ha] at g3
          cases g3
          exact ⟨(f3 i s c a h hc ha).1, fun z => absurd rfl z⟩
        · obtain ⟨y1, y2⟩ := f3 j2 q2 c3 b3 g1 g2 g3
          exact ⟨y1, fun nj n => y2 nj (far j2 q2 c3 b3 b2 e g1 g2 g3 n)⟩
      · refine ⟨f1, f2, fun j2 q2 c3 b3 g1 g2 g3 => ?_⟩
        rcases get j2 q2 c3 g1 g2 with ⟨rfl, rfl, rfl⟩ | ⟨e, g1⟩
        · rw [ha] at g3
          cases g3
          exact ⟨f3, fun z => absurd rfl z⟩
        · obtain ⟨y1, y2⟩ := f4 j2 q2 c3 b3 g1 g2 g3
          exact ⟨y1, fun _ n => y2 (far j2 q2 c3 b3 b2 e g1 g2 g3 n)⟩
    · have hin2 := far j q c2 b b2 e hq' ho hst hin
      obtain ⟨f1, f2, f3⟩ := k.inn j q c2 b b2 hq' ho hst hin2
      refine ⟨f1, f2, fun j2 q2 c3 b3 g1 g2 g3 => ?_⟩
      rcases get j2 q2 c3 g1 g2 with ⟨rfl, rfl, rfl⟩ | ⟨e2, g1⟩
      · rw [ha] at g3
        cases g3
        obtain ⟨y1, y2⟩ := f3 i s c a h hc ha
        refine ⟨y1, fun _ n => ?_⟩
        rcases newI b2 n with hi | ⟨_, _, _, f4⟩
        · exact y2 (fun z => e z) hi
        · exact (f4 j q c2 b hq' ho hst).2 hin2
      · obtain ⟨y1, y2⟩ := f3 j2 q2 c3 b3 g1 g2 g3
        exact ⟨y1, fun nj n => y2 nj (far j2 q2 c3 b3 b2 e2 g1 g2 g3 n)⟩
/-- a slot's object is no other slot's -/
theorem Ok.away (k : Ok K pa H0 F0 F H st r) {i : Nat} {s : Sl} {c : Ct} {a : Addr} (h : r[i]? = some s) (hc : s.own = some c) (ha : st[i]? = some (some (.ref a))) {x : Option V} : Away H0 F H (st.set i x) (r.set i .unk) a c := by
  have hl : i < r.length := (List.getElem?_eq_some_iff.mp h).1
  have old : ∀ (j : Nat) (q : Sl) (c2 : Ct) (b : Addr), (r.set i .unk)[j]? = some q → q.own = some c2 → (st.set i x)[j]? = some (some (.ref b)) → i ≠ j ∧ r[j]? = some q ∧ st[j]? = some (some (.ref b)) := fun j q c2 b hj hc2 hst => by
    by_cases e : i = j
    · subst e
      rw [List.getElem?_set_self hl] at hj
      cases hj
      cases hc2
    · rw [List.getElem?_set_ne e] at hj hst
      exact ⟨e, hj, hst⟩
  refine ⟨fun j q c2 b hj hc2 hst => ?_, fun b hb => ?_⟩
  · obtain ⟨e, hj, hst⟩ := old j q c2 b hj hc2 hst
    refine ⟨fun z => ?_, fun z => ((k.inn j q c2 b a hj hc2 hst z).2.2 i s c a h hc ha).1 rfl⟩
    subst z
    exact k.dis i j s q c c2 b e h hj hc hc2 ha hst
  · obtain ⟨g1, g2, g3⟩ := k.inn i s c a b h hc ha hb
    refine ⟨g1, g2, (g3 i s c a h hc ha).1, fun j q c2 b2 hj hc2 hst => ?_⟩
    obtain ⟨e, hj, hst⟩ := old j q c2 b2 hj hc2 hst
    obtain ⟨y1, y2⟩ := g3 j q c2 b2 hj hc2 hst
    exact ⟨y1, y2 fun z => e z.symm⟩
/-- an owned list is frozen -/
theorem Ok.freeze (k : Ok K pa H0 F0 F H st r) {i : Nat} {ds : List D} (h : r[i]? = some (.o (.l ds))) : ∃ F', Ok K pa H0 F0 F' H st (r.set i (.v (.list ds))) ∧ Ex F F' := by
  obtain ⟨a, z1, z2, z3, vs, z4, z5⟩ := k.ownd h rfl
  have hl : i < r.length := (List.getElem?_eq_some_iff.mp h).1
  have k2 : Ok K pa H0 F0 F H (st.set i none) (r.set i .unk) := k.forget
  have nO : Nob H (st.set i none) (r.set i .unk) a := (k.away h rfl z1).1
  have k3 := k2.frz z4 z3 nO z2
  refine ⟨upd F a (.lst vs), ?_, Ex.new z2⟩
  have k4 := k3.setV (i := i) (v := .ref a) (d := .list ds) (fun q hq => by
    rw [List.getElem?_set_self hl] at hq
    cases hq
    rfl) (.lst (.inl (.inl upd_same)) (dpa_mono (Ex.new z2) z5))
  rw [List.set_set, List.set_set] at k4
  have e : st.set i (some (.ref a)) = st := by
    apply List.ext_getElem?
    intro j
    by_cases e : i = j
    · subst e
      rw [List.getElem?_set_self (by rw [k.len]; exact hl), z1]
    · rw [List.getElem?_set_ne e]
  rw [e] at k4
  exact k4
/-- objects that are nobody's are frozen -/
theorem Ok.frzS (k : Ok K pa H0 F0 F H st r) (S : Addr → Bool) (h1 : ∀ b, S b = true → ∃ o, H b = some o) (n0 : ∀ b, S b = true → H0 b = none) (nF : ∀ b, S b = true → F b = none) (nO : ∀ b, S b = true → Nob H st r b) :
    Ok K pa H0 F0 (fun b => if S b = true then H b else F b) H st r ∧ Ex F (fun b => if S b = true then H b else F b) := by
  have ne : ∀ {b o}, F b = some o → ¬ S b = true := fun {b o} e z => by
    rw [nF b z] at e
    cases e
  have eF : Ex F (fun b => if S b = true then H b else F b) := ⟨fun b o e nt => by
    show (if S b = true then H b else F b) = _
    rw [if_neg (ne e)]
    exact e, fun b ps e => ⟨#[], by
    show (if S b = true then H b else F b) = _
    rw [if_neg (ne e), Array.append_empty]
    exact e⟩⟩
  refine ⟨⟨k.hH, k.fF.trans eF, ⟨fun b o e nt => ?_, fun b ps e => ?_⟩, fun b z1 z2 => ?_, k.len, fun i s h n => ?_, k.tb, k.dis, fun i s c a b g1 g2 g3 g4 => ?_⟩, eF⟩
  · have e : (if S b = true then H b else F b) = some o := e
    by_cases hb : S b = true
    · rw [if_pos hb] at e
      exact e
    · rw [if_neg hb] at e
      exact k.fH.at_ b o e nt
  · have e : (if S b = true then H b else F b) = some (.tbl ps) := e
    by_cases hb : S b = true
    · rw [if_pos hb] at e
      exact ⟨#[], by rw [Array.append_empty]; exact e⟩
    · rw [if_neg hb] at e
      exact k.fH.tb b ps e
  · have z2 : (if S b = true then H b else F b) ≠ none := z2
    by_cases hb : S b = true
    · exact absurd (n0 b hb) z1
    · rw [if_neg hb] at z2
      exact k.sep b z1 z2
  · obtain ⟨v, w1, w2⟩ := k.sl i s h n
    refine ⟨v, w1, ?_⟩
    have far : ∀ (c : Ct) (a : Addr), s.own = some c → v = .ref a → ¬ S a = true := fun c a g1 g2 z => by
      subst g2
      exact (nO a z i s c a h g1 w1).1 rfl
    cases s with
    | unk => trivial
    | pin => exact w2
    | v d => exact dp_mono eF w2
    | o c =>
      obtain ⟨a, e1, e2, e3, e4⟩ := w2
      exact ⟨a, e1, by
        show (if S a = true then H a else F a) = none
        rw [if_neg (far c a rfl e1)]
        exact e2, e3, e4.mono eF rfl fun _ _ => rfl⟩
    | io c =>
      obtain ⟨e1, e2, e3, e4⟩ := w2
      exact ⟨e1, by
        show (if S (pa i) = true then H (pa i) else F (pa i)) = none
        rw [if_neg (far c _ rfl e1)]
        exact e2, e3, e4.mono eF rfl fun _ _ => rfl⟩
  · obtain ⟨f1, f2, f3⟩ := k.inn i s c a b g1 g2 g3 g4
    have hb : ¬ S b = true := fun z => (nO b z i s c a g1 g2 g3).2 g4
    exact ⟨by
      show (if S b = true then H b else F b) = none
      rw [if_neg hb]
      exact f1, f2, f3⟩
theorem its_rp {K : PySem.W.Frag} {F H F' : Hp} (e : Ex F F') : ∀ {vs : List V} {is : List Im}, ItAll K F H vs is → (∀ (j : Nat) (b : Addr) (ds : List D), vs[j]? = some (.ref b) → is[j]? = some (.l ds) → F' b = H b) → RpAll K F' vs (is.map Im.data)
  | _, _, .nil, _ => .nil
  | _, _, @ItAll.cons _ _ _ v vs i is h t, q => by
    refine .cons ?_ (its_rp e t fun j b ds h1 h2 => q (j + 1) b ds (by simpa using h1) (by simpa using h2))
    cases i with
    | v d => exact dp_mono e h
    | l ds =>
      obtain ⟨b, ws, rfl, h1, h2⟩ := h
      exact .lst (.inl (.inl ((q 0 b ds rfl rfl).trans h1))) (dpa_mono e h2)
/-- a deep object as data, within a heap where it stands -/
theorem nt_rp {K : PySem.W.Frag} {F H F' : Hp} {a : Addr} {t : Nt} {d : D} (h : CtOk K F H a (.n t)) (e : Ex F F') (hd : t.data = some d) (ha : F' a = H a) (hi : ∀ b, Inn H a (.n t) b → F' b = H b) : Rp K F' (.ref a) d := by
  obtain ⟨vs, h1, h2, h3⟩ := h
  have h4 := its_rp e h2 fun j b ds g1 g2 => hi b ⟨j, vs, ds, h1.vals, g1, g2⟩
  cases t with
  | l its =>
    cases hd
    exact .lst (.inl (.inl (ha.trans h1))) h4
  | u its =>
    cases hd
    exact .tup (ha.trans h1) h4
  | d kvs => cases hd
open Classical in
/-- a deep object is frozen -/
theorem Ok.freezeN (k : Ok K pa H0 F0 F H st r) {i : Nat} {t : Nt} {d : D} (h : r[i]? = some (.o (.n t))) (hd : t.data = some d) : ∃ F', Ok K pa H0 F0 F' H st (r.set i (.v d)) ∧ Ex F F' := by
  obtain ⟨a, z1, z2, z3, z4⟩ := k.ownd h rfl
  have hl : i < r.length := (List.getElem?_eq_some_iff.mp h).1
  have aw := k.away (x := none) h rfl z1
  have k2 : Ok K pa H0 F0 F H (st.set i none) (r.set i .unk) := k.forget
  have hS : ∀ b, decide (b = a ∨ Inn H a (.n t) b) = true → b = a ∨ Inn H a (.n t) b := fun b hb => of_decide_eq_true hb
  obtain ⟨k3, eF⟩ := k2.frzS (fun b => decide (b = a ∨ Inn H a (.n t) b)) (fun b hb => by
      rcases hS b hb with rfl | hb
      · exact z4.there
      · obtain ⟨ws, hw⟩ := z4.inn hb
        exact ⟨_, hw⟩) (fun b hb => by
      rcases hS b hb with rfl | hb
      · exact z3
      · exact (aw.2 b hb).2.1) (fun b hb => by
      rcases hS b hb with rfl | hb
      · exact z2
      · exact (aw.2 b hb).1) (fun b hb => by
      rcases hS b hb with rfl | hb
      · exact aw.1
      · exact (aw.2 b hb).2.2.2)
  refine ⟨_, ?_, eF⟩
  have rp := nt_rp z4 eF hd (if_pos (decide_eq_true (.inl rfl))) fun b hb => if_pos (decide_eq_true (.inr hb))
  have k4 := k3.setV (i := i) (v := .ref a) (d := d) (fun q hq => by
    rw [List.getElem?_set_self hl] at hq
    cases hq
    rfl) rp
  rw [List.set_set, List.set_set] at k4
  have e : st.set i (some (.ref a)) = st := by
    apply List.ext_getElem?
    intro j
    by_cases e : i = j
    · subst e
      rw [List.getElem?_set_self (by rw [k.len]; exact hl), z1]
    · rw [List.getElem?_set_ne e]
  rw [e] at k4
  exact k4
end
/-! ### readings -/
structure Cc where
  K : PySem.W.Frag
  mg : Str → Option Value
  W : WX
def ExOk (c : Cc) (F H : Hp) (e : Exn) (cls : Value) (dd : Option Addr) : Prop := cls = .ref (He.ga c.K e.name) ∧
  ((e.flds = [] ∧ dd = none) ∨ ∃ d fs, dd = some d ∧ F d = some (.xd fs) ∧ fs.map (·.1) = e.flds.map (·.1) ∧ RpAll c.K F (fs.map (·.2)) (e.flds.map (·.2)))
def XW (c : Cc) (pa : Nat → Addr) (H0 F0 F : Hp) : Exn → En → Prop := fun e r' => ∀ F' H' st' cls dd, Ok c.K pa H0 F0 F' H' st' r' → Ex F F' → ExOk c F' H' e cls dd → c.W cls dd st' H'
theorem XW.mono {c : Cc} {pa : Nat → Addr} {H0 F0 F F1 : Hp} (e : Ex F F1) : ∀ x r, XW c pa H0 F0 F x r → XW c pa H0 F0 F1 x r := fun x r h F' H' st' cls dd ok ex => h F' H' st' cls dd ok (e.trans ex)
/-- a value, or a new object of one's own -/
def RvOk (K : PySem.W.Frag) (H0 F H : Hp) (st : L2.St) (r : En) (v : V) : RV → Prop
  | .v d => Rp K F v d
  | .o c => ∃ a, v = .ref a ∧ F a = none ∧ H0 a = none ∧ CtOk K F H a c ∧ Away H0 F H st r a c
def tM (c : Cc) (m : M D) : TE := fun st H Q => ∃ pa H0 F0 F r, Ok c.K pa H0 F0 F H st r ∧ Po (XW c pa H0 F0 F) (m r) fun d r' => ∀ F' H' v, Ok c.K pa H0 F0 F' H' st r' → Ex F F' → Rp c.K F' v d → Q v H'
def tO (c : Cc) (m : M RV) : TE := fun st H Q => ∃ pa H0 F0 F r, Ok c.K pa H0 F0 F H st r ∧ Po (XW c pa H0 F0 F) (m r) fun d r' => ∀ F' H' v, Ok c.K pa H0 F0 F' H' st r' → Ex F F' → RvOk c.K H0 F' H' st r' v d → Q v H'
def tT (c : Cc) (m : M Bool) : TT := fun st H Q => ∃ pa H0 F0 F r, Ok c.K pa H0 F0 F H st r ∧ Po (XW c pa H0 F0 F) (m r) fun b r' => ∀ F' H', Ok c.K pa H0 F0 F' H' st r' → Ex F F' → Q b H'
def tA (c : Cc) (m : M (List D)) : TA := fun st H Q => ∃ pa H0 F0 F r, Ok c.K pa H0 F0 F H st r ∧ Po (XW c pa H0 F0 F) (m r) fun ds r' => ∀ F' H' vs, Ok c.K pa H0 F0 F' H' st r' → Ex F F' → RpAll c.K F' vs ds → Q vs H'
inductive Fl where
  | nx | bk | ct | rt (r : RV)
def flEnd (K : PySem.W.Frag) (pa : Nat → Addr) (H0 F0 F : Hp) (Dd : Ends) (r' : En) : Fl → Prop
  | .nx => ∀ F' H' st', Ok K pa H0 F0 F' H' st' r' → Ex F F' → Dd.nx st' H'
  | .bk => ∀ F' H' st', Ok K pa H0 F0 F' H' st' r' → Ex F F' → Dd.bk st' H'
  | .ct => ∀ F' H' st', Ok K pa H0 F0 F' H' st' r' → Ex F F' → Dd.ct st' H'
  | .rt rv => ∀ F' H' st' v, Ok K pa H0 F0 F' H' st' r' → Ex F F' → RvOk K H0 F' H' st' r' v rv → Dd.rt v H'
def sM (c : Cc) (m : M Fl) : TS := fun Dd st H => ∃ pa H0 F0 F r, Ok c.K pa H0 F0 F H st r ∧ Po (XW c pa H0 F0 F) (m r) fun fl r' => flEnd c.K pa H0 F0 F Dd r' fl
theorem flEnd.mono {K : PySem.W.Frag} {pa : Nat → Addr} {H0 F0 F F1 : Hp} {Dd : Ends} {r' : En} {fl : Fl} (e : Ex F F1) (h : flEnd K pa H0 F0 F Dd r' fl) : flEnd K pa H0 F0 F1 Dd r' fl := by
  cases fl with
  | nx => exact fun F' H' st' k ex => h F' H' st' k (e.trans ex)
  | bk => exact fun F' H' st' k ex => h F' H' st' k (e.trans ex)
  | ct => exact fun F' H' st' k ex => h F' H' st' k (e.trans ex)
  | rt rv => exact fun F' H' st' v k ex => h F' H' st' v k (e.trans ex)
section
variable {X : Cx} {c : Cc}
theorem pe_cq {e : Expr} {t t' : TE} (h : PE X e t) (i : ∀ st H Q, t' st H Q → t st H Q) : PE X e t' := ⟨fun pins s st H Q I q => h.run pins s st H Q I (i st H Q q)⟩
theorem pt_cq {e : Expr} {t t' : TT} (h : PT X e t) (i : ∀ st H Q, t' st H Q → t st H Q) : PT X e t' := ⟨fun pins s st H Q I q => h.run pins s st H Q I (i st H Q q)⟩
theorem pw_cq {e : Expr} {t t' : TT} (h : PW X e t) (i : ∀ st H Q, t' st H Q → t st H Q) : PW X e t' := ⟨fun wh pins s st H Q I q => h.run wh pins s st H Q I (i st H Q q)⟩
theorem pa_cq {e : List Expr} {t t' : TA} (h : PA X e t) (i : ∀ st H Q, t' st H Q → t st H Q) : PA X e t' := ⟨fun pos pins s st H Q I q => h.run pos pins s st H Q I (i st H Q q)⟩
theorem ps_cq {e : Stmt} {t t' : TS} (h : PS X e t) (i : ∀ Dd st H, t' Dd st H → t Dd st H) : PS X e t' := ⟨fun pins s st H Dd I q => h.run pins s st H Dd I (i Dd st H q)⟩
theorem pss_cq {e : List Stmt} {t t' : TS} (h : PSs X e t) (i : ∀ Dd st H, t' Dd st H → t Dd st H) : PSs X e t' := ⟨fun pins s st H Dd I q => h.run pins s st H Dd I (i Dd st H q)⟩
/-! ### the chaining of two parts -/
theorem seqM {α : Type} {pa : Nat → Addr} {H0 F0 F H : Hp} {st : L2.St} {r : En} {ma : M D} {f : D → M α} {k : α → En → Prop} {Q : VK} (ok : Ok c.K pa H0 F0 F H st r) (po : Po (XW c pa H0 F0 F) (ma.bind f r) k)
    (h : ∀ d r1 F1 H1 v, Ok c.K pa H0 F0 F1 H1 st r1 → Ex F F1 → Rp c.K F1 v d → Po (XW c pa H0 F0 F1) (f d r1) k → Q v H1) : tM c ma st H Q :=
  ⟨pa, H0, F0, F, r, ok, (Po.bind po).mono (fun _ _ x => x) fun d r1 q F1 H1 v k1 e1 dp => h d r1 F1 H1 v k1 e1 dp (q.mono (XW.mono e1) fun _ _ x => x)⟩
theorem seqO {α : Type} {pa : Nat → Addr} {H0 F0 F H : Hp} {st : L2.St} {r : En} {ma : M RV} {f : RV → M α} {k : α → En → Prop} {Q : VK} (ok : Ok c.K pa H0 F0 F H st r) (po : Po (XW c pa H0 F0 F) (ma.bind f r) k)
    (h : ∀ d r1 F1 H1 v, Ok c.K pa H0 F0 F1 H1 st r1 → Ex F F1 → RvOk c.K H0 F1 H1 st r1 v d → Po (XW c pa H0 F0 F1) (f d r1) k → Q v H1) : tO c ma st H Q :=
  ⟨pa, H0, F0, F, r, ok, (Po.bind po).mono (fun _ _ x => x) fun d r1 q F1 H1 v k1 e1 dp => h d r1 F1 H1 v k1 e1 dp (q.mono (XW.mono e1) fun _ _ x => x)⟩
theorem seqT {α : Type} {pa : Nat → Addr} {H0 F0 F H : Hp} {st : L2.St} {r : En} {ma : M Bool} {f : Bool → M α} {k : α → En → Prop} {Q : Bool → Hp → Prop} (ok : Ok c.K pa H0 F0 F H st r) (po : Po (XW c pa H0 F0 F) (ma.bind f r) k)
    (h : ∀ d r1 F1 H1, Ok c.K pa H0 F0 F1 H1 st r1 → Ex F F1 → Po (XW c pa H0 F0 F1) (f d r1) k → Q d H1) : tT c ma st H Q :=
  ⟨pa, H0, F0, F, r, ok, (Po.bind po).mono (fun _ _ x => x) fun d r1 q F1 H1 k1 e1 => h d r1 F1 H1 k1 e1 (q.mono (XW.mono e1) fun _ _ x => x)⟩
theorem seqA {α : Type} {pa : Nat → Addr} {H0 F0 F H : Hp} {st : L2.St} {r : En} {ma : M (List D)} {f : List D → M α} {k : α → En → Prop} {Q : List V → Hp → Prop} (ok : Ok c.K pa H0 F0 F H st r) (po : Po (XW c pa H0 F0 F) (ma.bind f r) k)
    (h : ∀ d r1 F1 H1 vs, Ok c.K pa H0 F0 F1 H1 st r1 → Ex F F1 → RpAll c.K F1 vs d → Po (XW c pa H0 F0 F1) (f d r1) k → Q vs H1) : tA c ma st H Q :=
  ⟨pa, H0, F0, F, r, ok, (Po.bind po).mono (fun _ _ x => x) fun d r1 q F1 H1 v k1 e1 dp => h d r1 F1 H1 v k1 e1 dp (q.mono (XW.mono e1) fun _ _ x => x)⟩
theorem againM {pa : Nat → Addr} {H0 F0 F F1 H : Hp} {st : L2.St} {r : En} {m : M D} {Q : VK} (ok : Ok c.K pa H0 F0 F1 H st r) (e : Ex F F1) (po : Po (XW c pa H0 F0 F1) (m r) fun d r' => ∀ F' H' v, Ok c.K pa H0 F0 F' H' st r' → Ex F F' → Rp c.K F' v d → Q v H') : tM c m st H Q :=
  ⟨pa, H0, F0, F1, r, ok, po.mono (fun _ _ x => x) fun d r' q F' H' v k e' => q F' H' v k (e.trans e')⟩
theorem againT {pa : Nat → Addr} {H0 F0 F F1 H : Hp} {st : L2.St} {r : En} {m : M Bool} {Q : Bool → Hp → Prop} (ok : Ok c.K pa H0 F0 F1 H st r) (e : Ex F F1) (po : Po (XW c pa H0 F0 F1) (m r) fun d r' => ∀ F' H', Ok c.K pa H0 F0 F' H' st r' → Ex F F' → Q d H') : tT c m st H Q :=
  ⟨pa, H0, F0, F1, r, ok, po.mono (fun _ _ x => x) fun d r' q F' H' k e' => q F' H' k (e.trans e')⟩
theorem againS {pa : Nat → Addr} {H0 F0 F F1 H : Hp} {st : L2.St} {r : En} {m : M Fl} {Dd : Ends} (ok : Ok c.K pa H0 F0 F1 H st r) (e : Ex F F1) (po : Po (XW c pa H0 F0 F1) (m r) fun fl r' => flEnd c.K pa H0 F0 F Dd r' fl) : sM c m Dd st H :=
  ⟨pa, H0, F0, F1, r, ok, po.mono (fun _ _ x => x) fun d r' q => q.mono e⟩
/-! ### names and constants -/
def getS (i : Nat) : M D := fun r => match r[i]? with
  | some (.v d) => .ok d r
  | _ => .no
theorem getS_po {i : Nat} {r : En} {Xp : Exn → En → Prop} {k : D → En → Prop} (h : Po Xp (getS i r) k) : ∃ d, r[i]? = some (.v d) ∧ k d r := by
  unfold getS at h
  split at h
  · exact ⟨_, by assumption, h⟩
  · exact h.elim
theorem e_var (i : Nat) {x : Str} {pos : Pos} (hN : X.N[i]? = some x := by rfl) (hv : Vis X.env.scope x := by first | exact Or.inl rfl | exact Or.inr (Or.inl rfl) | exact Or.inr (Or.inr rfl)) (hd : (x == ("__debug__" : Str)) = false := by decide)
    (hcd : (x == ("__classdict__" : Str)) = false := by decide) : PE X (.Name x pos) (tM c (getS i)) :=
  pe_cq (pe_var (i := i) hN hv hd hcd) fun st H Q ⟨pa, H0, F0, F, r, ok, po⟩ => by
    obtain ⟨d, h1, h2⟩ := getS_po po
    obtain ⟨v, e1, e2⟩ := ok.val h1
    exact ⟨v, e1, h2 F H v ok (Ex.refl F) e2⟩
theorem e_cst {e : Expr} {v : V} {d : D} (h : PE X e (tC v)) (hr : ∀ F, Rp c.K F v d) : PE X e (tM c (M.ret d)) :=
  pe_cq h fun st H Q ⟨pa, H0, F0, F, r, ok, po⟩ => po F H v ok (Ex.refl F) (hr F)
theorem e_int {i j pos} : PE X (.Constant (.int i) j pos) (tM c (M.ret (.int i))) := e_cst pe_int fun _ => .int i
theorem e_bl {b j pos} : PE X (.Constant (.bool b) j pos) (tM c (M.ret (.bool b))) := e_cst pe_bl fun _ => .bl b
/-! ### a value from an owned one -/
def RV.data : RV → Option D
  | .v d => some d
  | .o (.l ds) => some (.list ds)
  | .o (.d _) => none
  | .o (.t _) => none
  | .o (.n t) => t.data
theorem opt_po' {α : Type} {o : Option α} {r : En} {Xp : Exn → En → Prop} {k : α → En → Prop} (h : Po Xp (M.opt o r) k) : ∃ a, o = some a ∧ k a r := by
  cases o with
  | none => exact h.elim
  | some a => exact ⟨a, rfl, h⟩
def frzM (m : M RV) : M D := m.bind fun rv => M.opt rv.data
open Classical in
theorem Ok.frzRv {K : PySem.W.Frag} {pa : Nat → Addr} {H0 F0 F H : Hp} {st : L2.St} {r : En} (k : Ok K pa H0 F0 F H st r) {a : Addr} {t : Nt} {d : D} (z : F a = none ∧ H0 a = none ∧ CtOk K F H a (.n t) ∧ Away H0 F H st r a (.n t)) (hd : t.data = some d) : ∃ F', Ok K pa H0 F0 F' H st r ∧ Ex F F' ∧ Rp K F' (.ref a) d := by
  obtain ⟨z1, z2, z4, z5⟩ := z
  have hS : ∀ b, decide (b = a ∨ Inn H a (.n t) b) = true → b = a ∨ Inn H a (.n t) b := fun b hb => of_decide_eq_true hb
  obtain ⟨k3, eF⟩ := k.frzS (fun b => decide (b = a ∨ Inn H a (.n t) b)) (fun b hb => by
      rcases hS b hb with rfl | hb
      · exact z4.there
      · obtain ⟨ws, hw⟩ := z4.inn hb
        exact ⟨_, hw⟩) (fun b hb => by
      rcases hS b hb with rfl | hb
      · exact z2
      · exact (z5.2 b hb).2.1) (fun b hb => by
      rcases hS b hb with rfl | hb
      · exact z1
      · exact (z5.2 b hb).1) (fun b hb => by
      rcases hS b hb with rfl | hb
      · exact z5.1
      · exact (z5.2 b hb).2.2.2)
  exact ⟨_, k3, eF, nt_rp z4 eF hd (if_pos (decide_eq_true (.inl rfl))) fun b hb => if_pos (decide_eq_true (.inr hb))⟩
theorem e_val {e : Expr} {m : M RV} (h : PE X e (tO c m)) : PE X e (tM c (frzM m)) :=
  pe_cq h fun st H Q ⟨pa, H0, F0, F, r, ok, po⟩ => seqO ok po fun rv r1 F1 H1 v k1 e1 dp q => by
    cases rv with
    | v d => exact q F1 H1 v k1 e1 dp
    | o ct =>
      cases ct with
      | l ds =>
        obtain ⟨a, rfl, z1, z2, ⟨vs, z3, z4⟩, z5⟩ := dp
        have k2 := k1.frz z3 z2 z5.1 z1
        exact q _ H1 _ k2 (e1.trans (Ex.new z1)) (.lst (.inl (.inl upd_same)) (dpa_mono (Ex.new z1) z4))
      | t kvs => exact q.elim
      | d kvs => exact q.elim
      | n t =>
        obtain ⟨d, hd, q⟩ := opt_po' q
        obtain ⟨a, rfl, z⟩ := dp
        obtain ⟨F2, k2, eF, rp⟩ := k1.frzRv z hd
        exact q F2 H1 _ k2 (e1.trans eF) rp
theorem o_val {e : Expr} {m : M D} (h : PE X e (tM c m)) : PE X e (tO c (m.bind fun d => M.ret (.v d))) :=
  pe_cq h fun st H Q ⟨pa, H0, F0, F, r, ok, po⟩ => seqM ok po fun d r1 F1 H1 v k1 e1 dp q => q F1 H1 v k1 e1 dp
/-! ### argument lists -/
def aNil : M (List D) := M.ret []
def aCons (m : M D) (ms : M (List D)) : M (List D) := m.bind fun d => ms.bind fun ds => M.ret (d :: ds)
theorem a_nil : PA X [] (tA c aNil) := pa_cq pa_nil fun st H Q ⟨pa, H0, F0, F, r, ok, po⟩ => po F H [] ok (Ex.refl F) .nil
theorem a_cons {e : Expr} {es : List Expr} {m : M D} {ms : M (List D)} (h : PE X e (tM c m)) (hr : PA X es (tA c ms)) (hs : starEach (e :: es) X.env = (false, eval e X.env) :: starEach es X.env := by rfl) : PA X (e :: es) (tA c (aCons m ms)) :=
  pa_cq (pa_cons h hr hs) fun st H Q ⟨pa, H0, F0, F, r, ok, po⟩ => seqM ok po fun d r1 F1 H1 v k1 e1 dp q => seqA k1 q fun ds r2 F2 H2 vs k2 e2 dps q2 => q2 F2 H2 _ k2 (e1.trans e2) (.cons (dp_mono e2 dp) dps)
/-! ### displays -/
def szC (n : Nat) {α : Type} (a : α) : Option α := if n ≤ 16777216 then some a else none
theorem szC_po {α : Type} {n : Nat} {a : α} {r : En} {Xp : Exn → En → Prop} {k : α → En → Prop} (h : Po Xp (M.opt (szC n a) r) k) : n ≤ sizeLine ∧ k a r := by
  unfold szC at h
  split at h
  · exact ⟨by rw [sizeLine_eq]; assumption, h⟩
  · exact h.elim
def eTup (ms : M (List D)) : M D := ms.bind fun ds => M.opt (szC ds.length (.tuple ds))
def oLst (ms : M (List D)) : M RV := ms.bind fun ds => M.opt (szC ds.length (.o (.l ds)))
theorem e_tup {es : List Expr} {x1 : Nat} {pos : Pos} {ms : M (List D)} (h : PA X es (tA c ms)) : PE X (.Tuple es x1 pos) (tM c (eTup ms)) :=
  pe_cq (pe_tup h) fun st H Q ⟨pa, H0, F0, F, r, ok, po⟩ => seqA ok po fun ds r1 F1 H1 vs k1 e1 dps q => by
    obtain ⟨hz, q⟩ := szC_po q
    refine ⟨by rw [dpa_len dps]; exact hz, fun p np => ?_⟩
    have nF := k1.fH.nn np
    exact q _ _ _ (k1.layF np) (e1.trans (Ex.new nF)) (.tup upd_same (dpa_mono (Ex.new nF) dps))
theorem o_lst {es : List Expr} {pos : Pos} {ms : M (List D)} (h : PA X es (tA c ms)) : PE X (.List es pos) (tO c (oLst ms)) :=
  pe_cq (pe_lst h) fun st H Q ⟨pa, H0, F0, F, r, ok, po⟩ => seqA ok po fun ds r1 F1 H1 vs k1 e1 dps q => by
    obtain ⟨hz, q⟩ := szC_po q
    refine ⟨by rw [dpa_len dps]; exact hz, fun p np => ?_⟩
    have nF := k1.fH.nn np
    exact q F1 _ _ (k1.lay np) e1 ⟨p, rfl, nF, k1.hH.nn np, ⟨vs, upd_same, dps⟩, .l (k1.nobody np).upd⟩
/-! ### operators on data: g tells the answer -/
/-- nothing new, or one new frozen object -/
def NewF (F H F' H' : Hp) : Prop := (F' = F ∧ H' = H) ∨ ∃ p o, H p = none ∧ F' = upd F p o ∧ H' = upd H p o
theorem NewF.ok {K : PySem.W.Frag} {pa : Nat → Addr} {H0 F0 F H F' H' : Hp} {st : L2.St} {r : En} (n : NewF F H F' H') (k : Ok K pa H0 F0 F H st r) : Ok K pa H0 F0 F' H' st r ∧ Ex F F' := by
  rcases n with ⟨rfl, rfl⟩ | ⟨p, o, np, rfl, rfl⟩
  · exact ⟨k, Ex.refl _⟩
  · exact ⟨k.layF np, Ex.new (k.fH.nn np)⟩
def rD2 (K : PySem.W.Frag) (g : D → D → Option D) : R2 := fun x y H Q => ∃ F d e z, Ex F H ∧ Rp K F x d ∧ Rp K F y e ∧ g d e = some z ∧ ∀ v F' H', NewF F H F' H' → Rp K F' v z → Q v H'
def rD1 (K : PySem.W.Frag) (g : D → Option D) : V → Hp → VK → Prop := fun x H Q => ∃ F d z, Ex F H ∧ Rp K F x d ∧ g d = some z ∧ ∀ v F' H', NewF F H F' H' → Rp K F' v z → Q v H'
def rDA (K : PySem.W.Frag) (g : List D → Option D) : List V → Hp → VK → Prop := fun xs H Q => ∃ F ds z, Ex F H ∧ RpAll K F xs ds ∧ g ds = some z ∧ ∀ v F' H', NewF F H F' H' → Rp K F' v z → Q v H'
/-- .. with a new list of one's own -/
def rDAo (K : PySem.W.Frag) (g : List D → Option (List D)) : List V → Hp → VK → Prop := fun xs H Q => ∃ F ds z, Ex F H ∧ RpAll K F xs ds ∧ g ds = some z ∧ ∀ p vs, H p = none → RpAll K F vs z → Q (.ref p) (upd H p (.lst vs))
def bin (g : D → D → Option D) (ma mb : M D) : M D := ma.bind fun x => mb.bind fun y => M.opt (g x y)
def una (g : D → Option D) (ma : M D) : M D := ma.bind fun x => M.opt (g x)
def nry (g : List D → Option D) (ms : M (List D)) : M D := ms.bind fun ds => M.opt (g ds)
def nryO (g : List D → Option (List D)) (ms : M (List D)) : M RV := ms.bind fun ds => M.opt ((g ds).map fun z => .o (.l z))
theorem opt_po {α : Type} {o : Option α} {r : En} {Xp : Exn → En → Prop} {k : α → En → Prop} (h : Po Xp (M.opt o r) k) : ∃ a, o = some a ∧ k a r := by
  cases o with
  | none => exact h.elim
  | some a => exact ⟨a, rfl, h⟩
theorem op_end {pa : Nat → Addr} {H0 F0 F H : Hp} {st : L2.St} {r r' : En} {d : D} {Q : VK} (k : Ok c.K pa H0 F0 F H st r) (q : ∀ F' H' v, Ok c.K pa H0 F0 F' H' st r → Ex F F' → Rp c.K F' v d → Q v H') :
    ∀ v F' H', NewF F H F' H' → Rp c.K F' v d → Q v H' := fun v F' H' n dp => by
  obtain ⟨k2, e2⟩ := n.ok k
  exact q F' H' v k2 e2 dp
theorem bin_ok {g : D → D → Option D} {ta tb : M D} {st : L2.St} {H : Hp} {Q : VK} (h : tM c (bin g ta tb) st H Q) : tOp (rD2 c.K g) (tM c ta) (tM c tb) st H Q := by
  obtain ⟨pa, H0, F0, F, r, ok, po⟩ := h
  refine seqM ok po fun d r1 F1 H1 v k1 e1 dp q => seqM k1 q fun d2 r2 F2 H2 v2 k2 e2 dp2 q2 => ?_
  obtain ⟨z, hz, q3⟩ := opt_po q2
  exact ⟨F2, d, d2, z, k2.fH, dp_mono e2 dp, dp2, hz, op_end (r' := r2) k2 fun F' H' v ok ex dp => q3 F' H' v ok ((e1.trans e2).trans ex) dp⟩
theorem e_op {op : Operator} {g : D → D → Option D} {a b : Expr} {ma mb : M D} {pos : Pos} (ho : OpR X (binaryOp op) (rD2 c.K g)) (ha : PE X a (tM c ma)) (hb : PE X b (tM c mb)) : PE X (.BinOp a op b pos) (tM c (bin g ma mb)) :=
  pe_cq (pe_op ho ha hb) fun _ _ _ h => bin_ok h
theorem e_cmp {op : CmpOp} {g : D → D → Option D} {a b : Expr} {ma mb : M D} {pos : Pos} (ho : OpR X (compareOp op) (rD2 c.K g)) (ha : PE X a (tM c ma)) (hb : PE X b (tM c mb)) (hm : behindInMarks op b = false := by first | exact nomark _ | rfl) : PE X (.Compare a [op] [b] pos) (tM c (bin g ma mb)) :=
  pe_cq (pe_cmpR ho ha hb hm) fun _ _ _ h => bin_ok h
theorem e_un {op : UnaryOp} {g : D → Option D} {a : Expr} {ma : M D} {pos : Pos} (ho : UnR X (unaryOp op) (rD1 c.K g)) (ha : PE X a (tM c ma)) : PE X (.UnaryOp op a pos) (tM c (una g ma)) :=
  pe_cq (pe_un ho ha) fun _ _ _ ⟨pa, H0, F0, F, r, ok, po⟩ => seqM ok po fun d r1 F1 H1 v k1 e1 dp q => by
    obtain ⟨z, hz, q3⟩ := opt_po q
    exact ⟨F1, d, z, k1.fH, dp, hz, op_end (r' := r1) k1 fun F' H' v ok ex dp => q3 F' H' v ok (e1.trans ex) dp⟩
theorem e_ix {g : D → D → Option D} {a b : Expr} {ma mb : M D} {pos : Pos} (ho : IxR X (rD2 c.K g)) (ha : PE X a (tM c ma)) (hb : PE X b (tM c mb)) (hs : PlainIx b := by exact fun _ _ => rfl) : PE X (.Subscript a b pos) (tM c (bin g ma mb)) :=
  pe_cq (pe_ix ho ha hb hs) fun _ _ _ h => bin_ok h
theorem e_callB {id : String} {g : List D → Option D} {x : Str} {e : Expr} {es : List Expr} {p pos : Pos} {ms : M (List D)} (hc : CallR X (.builtin id) (rDA c.K g)) (hm : X.mg x = none) (ha : PA X (e :: es) (tA c ms)) (hg : Gl X x := by rfl) (hv : bootBuiltins x = some (.builtin id) := by decide +kernel) (hn : x ≠ "__name__" := by decide) (hdb : (x == ("__debug__" : Str)) = false := by decide)
    (he : starEach (e :: es) X.env = (false, eval e X.env) :: starEach es X.env := by rfl) (hpl : (backTo pos (starEach es X.env)).any (·.1) = false := by rfl) : PE X (.Call (.Name x p) (e :: es) [] pos) (tM c (nry g ms)) :=
  pe_cq (pe_callB hc hg hm hv ha hn hdb he hpl) fun _ _ _ ⟨pa, H0, F0, F, r, ok, po⟩ => seqA ok po fun ds r1 F1 H1 vs k1 e1 dps q => by
    obtain ⟨z, hz, q3⟩ := opt_po q
    exact ⟨F1, ds, z, k1.fH, dps, hz, op_end (r' := r1) k1 fun F' H' v ok ex dp => q3 F' H' v ok (e1.trans ex) dp⟩
theorem e_callT {T : String} {g : List D → Option D} {x : Str} {e : Expr} {es : List Expr} {p pos : Pos} {ms : M (List D)} (hc : CallR X (.type T) (rDA c.K g)) (hm : X.mg x = none) (ha : PA X (e :: es) (tA c ms)) (hg : Gl X x := by rfl) (hv : bootBuiltins x = some (.type T) := by decide +kernel) (hn : x ≠ "__name__" := by decide) (hdb : (x == ("__debug__" : Str)) = false := by decide)
    (he : starEach (e :: es) X.env = (false, eval e X.env) :: starEach es X.env := by rfl) (hpl : (backTo pos (starEach es X.env)).any (·.1) = false := by rfl) : PE X (.Call (.Name x p) (e :: es) [] pos) (tM c (nry g ms)) :=
  pe_cq (pe_callTy hc hg hm hv ha hn hdb he hpl) fun _ _ _ ⟨pa, H0, F0, F, r, ok, po⟩ => seqA ok po fun ds r1 F1 H1 vs k1 e1 dps q => by
    obtain ⟨z, hz, q3⟩ := opt_po q
    exact ⟨F1, ds, z, k1.fH, dps, hz, op_end (r' := r1) k1 fun F' H' v ok ex dp => q3 F' H' v ok (e1.trans ex) dp⟩
theorem oA_end {pa : Nat → Addr} {H0 F0 F H : Hp} {st : L2.St} {r : En} {z : List D} {Q : VK} (k : Ok c.K pa H0 F0 F H st r) (q : ∀ F' H' v, Ok c.K pa H0 F0 F' H' st r → Ex F F' → RvOk c.K H0 F' H' st r v (.o (.l z)) → Q v H') :
    ∀ p vs, H p = none → RpAll c.K F vs z → Q (.ref p) (upd H p (.lst vs)) := fun p vs np dp => q F _ _ (k.lay np) (Ex.refl F) ⟨p, rfl, k.fH.nn np, k.hH.nn np, ⟨vs, upd_same, dp⟩, .l (k.nobody np).upd⟩
theorem o_callB {id : String} {g : List D → Option (List D)} {x : Str} {e : Expr} {es : List Expr} {p pos : Pos} {ms : M (List D)} (hc : CallR X (.builtin id) (rDAo c.K g)) (hm : X.mg x = none) (ha : PA X (e :: es) (tA c ms)) (hg : Gl X x := by rfl) (hv : bootBuiltins x = some (.builtin id) := by decide +kernel) (hn : x ≠ "__name__" := by decide) (hdb : (x == ("__debug__" : Str)) = false := by decide)
    (he : starEach (e :: es) X.env = (false, eval e X.env) :: starEach es X.env := by rfl) (hpl : (backTo pos (starEach es X.env)).any (·.1) = false := by rfl) : PE X (.Call (.Name x p) (e :: es) [] pos) (tO c (nryO g ms)) :=
  pe_cq (pe_callB hc hg hm hv ha hn hdb he hpl) fun _ _ _ ⟨pa, H0, F0, F, r, ok, po⟩ => seqA ok po fun ds r1 F1 H1 vs k1 e1 dps q => by
    obtain ⟨z, hz, q3⟩ := opt_po q
    cases hg2 : g ds with
    | none =>
      rw [hg2] at hz
      cases hz
    | some w =>
      rw [hg2] at hz
      cases hz
      exact ⟨F1, ds, w, k1.fH, dps, hg2, oA_end k1 fun F' H' v ok ex dp => q3 F' H' v ok (e1.trans ex) dp⟩
/-! ### tests -/
def tru : D → Option Bool
  | .none => some false
  | .bool b => some b
  | .int i => some (i != 0)
  | .str x => if x.length ≤ 16777216 then some ((x.length : Int) != 0) else none
  | .list ds => some (!ds.isEmpty)
  | .tuple ds => some (!ds.isEmpty)
  | .dict _ => none
def tBool (m : M D) : M Bool := m.bind fun d => M.opt (match d with
  | .bool b => some b
  | _ => none)
def tTru (m : M D) : M Bool := m.bind fun d => M.opt (tru d)
def tNotM (m : M Bool) : M Bool := m.bind fun b => M.ret (!b)
def tAndM (m n : M Bool) : M Bool := m.bind fun b => if b = true then n else M.ret false
def tOrM (m n : M Bool) : M Bool := m.bind fun b => if b = true then M.ret true else n
theorem dpa_emp {K : PySem.W.Frag} {F : Hp} : ∀ {vs : List V} {ds : List D}, RpAll K F vs ds → (!ds.isEmpty) = !vs.isEmpty
  | _, _, .nil => rfl
  | _, _, .cons _ _ => rfl
/-- a comparison as a test -/
theorem t_cmp {op : CmpOp} {g : D → D → Option D} {a b : Expr} {ma mb : M D} {pos : Pos} (ho : OpR X (compareOp op) (rD2 c.K g)) (ha : PE X a (tM c ma)) (hb : PE X b (tM c mb)) (hm : behindInMarks op b = false := by first | exact nomark _ | rfl) : PT X (.Compare a [op] [b] pos) (tT c (tBool (bin g ma mb))) :=
  pt_cq (pt_cmpR ho ha hb hm) fun st H Q h => by
    obtain ⟨pa, H0, F0, F, r, ok, po⟩ := h
    refine bin_ok ?_
    refine seqM ok po fun d r1 F1 H1 v k1 e1 dp q => ?_
    obtain ⟨b, hb, q⟩ := opt_po q
    cases dp with
    | bl b' =>
      cases hb
      exact ⟨_, rfl, q F1 H1 k1 e1⟩
    | _ => cases hb
theorem t_tru {e : Expr} {m : M D} (h : PE X e (tM c m)) (hK : c.K = X.K := by rfl) (he : ∀ whole, isTrue e X.env whole = (do let v ← whole; standAt e.pos; holding [v] (truthy v)) := by intro _; rfl) : PT X e (tT c (tTru m)) :=
  pt_cq (pt_truth h he) fun st H Q ⟨pa, H0, F0, F, r, ok, po⟩ => seqM ok po fun d r1 F1 H1 v k1 e1 dp q => by
    obtain ⟨b, hb, q⟩ := opt_po q
    have fin := q F1 H1 k1 e1
    cases dp with
    | non => cases hb; exact ⟨_, rfl, fin⟩
    | bl b' => cases hb; exact ⟨_, rfl, fin⟩
    | int i => cases hb; exact ⟨_, rfl, fin⟩
    | str x =>
      have hb : (if x.length ≤ 16777216 then some ((x.length : Int) != 0) else none) = some b := hb
      by_cases hx : x.length ≤ 16777216
      · rw [if_pos hx] at hb
        cases hb
        exact ⟨_, ⟨by rw [sizeLine_eq]; exact hx, rfl⟩, fin⟩
      · rw [if_neg hx] at hb
        cases hb
    | lst h1 h2 =>
      cases hb
      exact ⟨_, .inl ⟨_, by rw [← hK]; exact k1.fH.l h1, dpa_emp h2⟩, fin⟩
    | tup h1 h2 =>
      cases hb
      exact ⟨_, .inr (.inl ⟨_, by rw [← hK]; exact k1.fH.t h1, dpa_emp h2⟩), fin⟩
    | _ => cases hb
theorem t_not {e : Expr} {m : M Bool} {pos : Pos} (h : PT X e (tT c m)) : PT X (.UnaryOp .Not e pos) (tT c (tNotM m)) :=
  pt_cq (pt_not h) fun st H Q ⟨pa, H0, F0, F, r, ok, po⟩ => seqT ok po fun b r1 F1 H1 k1 e1 q => q F1 H1 k1 e1
theorem w_and1 {e : Expr} {m : M Bool} {pos : Pos} (h : PT X e (tT c m)) : PW X (.BoolOp .And [e] pos) (tT c m) := pw_and1 h
theorem w_or1 {e : Expr} {m : M Bool} {pos : Pos} (h : PT X e (tT c m)) : PW X (.BoolOp .Or [e] pos) (tT c m) := pw_or1 h
theorem w_and {a b : Expr} {rest : List Expr} {m n : M Bool} {pos : Pos} (h : PT X a (tT c m)) (h2 : PW X (.BoolOp .And (b :: rest) pos) (tT c n)) : PW X (.BoolOp .And (a :: b :: rest) pos) (tT c (tAndM m n)) :=
  pw_cq (pw_and h h2) fun st H Q ⟨pa, H0, F0, F, r, ok, po⟩ => seqT ok po fun b r1 F1 H1 k1 e1 q => by
    cases b with
    | true => exact againT k1 e1 q
    | false => exact q F1 H1 k1 e1
theorem w_or {a b : Expr} {rest : List Expr} {m n : M Bool} {pos : Pos} (h : PT X a (tT c m)) (h2 : PW X (.BoolOp .Or (b :: rest) pos) (tT c n)) : PW X (.BoolOp .Or (a :: b :: rest) pos) (tT c (tOrM m n)) :=
  pw_cq (pw_or h h2) fun st H Q ⟨pa, H0, F0, F, r, ok, po⟩ => seqT ok po fun b r1 F1 H1 k1 e1 q => by
    cases b with
    | true => exact q F1 H1 k1 e1
    | false => exact againT k1 e1 q
/-! ### and, or, not as values -/
def eNot (m : M D) : M D := (tBool m).bind fun b => M.ret (.bool (!b))
def eAnd (m n : M D) : M D := (tBool m).bind fun b => if b = true then n else M.ret (.bool false)
def eOr (m n : M D) : M D := (tBool m).bind fun b => if b = true then M.ret (.bool true) else n
theorem seqB {α : Type} {pa : Nat → Addr} {H0 F0 F H : Hp} {st : L2.St} {r : En} {ma : M D} {f : Bool → M α} {k : α → En → Prop} {Q : VK} (ok : Ok c.K pa H0 F0 F H st r) (po : Po (XW c pa H0 F0 F) ((tBool ma).bind f r) k)
    (h : ∀ b r1 F1 H1, Ok c.K pa H0 F0 F1 H1 st r1 → Ex F F1 → Po (XW c pa H0 F0 F1) (f b r1) k → Q (.bl b) H1) : tM c ma st H Q := by
  have po2 : Po (XW c pa H0 F0 F) (ma.bind (fun d => (M.opt (match d with
    | .bool b => some b
    | _ => none)).bind f) r) k := by
    unfold tBool M.bind at po
    unfold M.bind
    cases hm : ma r with
    | ok d r1 =>
      rw [hm] at po
      exact po
    | ex e r1 =>
      rw [hm] at po
      exact po
    | no =>
      rw [hm] at po
      exact po
  refine seqM ok po2 fun d r1 F1 H1 v k1 e1 dp q => ?_
  cases dp with
  | bl b => exact h b r1 F1 H1 k1 e1 q
  | _ => exact q.elim
theorem e_not {e : Expr} {m : M D} {pos : Pos} (h : PE X e (tM c m)) : PE X (.UnaryOp .Not e pos) (tM c (eNot m)) :=
  pe_cq (pe_not h) fun st H Q ⟨pa, H0, F0, F, r, ok, po⟩ => seqB ok po fun b r1 F1 H1 k1 e1 q => ⟨b, rfl, q F1 H1 _ k1 e1 (.bl _)⟩
theorem e_one {op} {e : Expr} {m : M D} {pos : Pos} (h : PE X e (tM c m)) : PE X (.BoolOp op [e] pos) (tM c m) := pe_one h
theorem e_and {a b : Expr} {rest : List Expr} {m n : M D} {pos : Pos} (h : PE X a (tM c m)) (h2 : PE X (.BoolOp .And (b :: rest) pos) (tM c n)) : PE X (.BoolOp .And (a :: b :: rest) pos) (tM c (eAnd m n)) :=
  pe_cq (pe_and h h2) fun st H Q ⟨pa, H0, F0, F, r, ok, po⟩ => seqB ok po fun b r1 F1 H1 k1 e1 q => ⟨b, rfl, by
    cases b with
    | true => exact againM k1 e1 q
    | false => exact q F1 H1 _ k1 e1 (.bl _)⟩
/-- a if t else b -/
def eIf (t : M Bool) (m n : M D) : M D := t.bind fun b => if b = true then m else n
end
end Pu
namespace Pu
open PySem PySem.Spec PyProof.Rows L2
variable [TabT]
/-! ### storing -/
def setN (i : Nat) (s : Sl) (r : En) : Option En := match r[i]? with
  | some (.io _) => none
  | some .pin => none
  | some _ => some (r.set i s)
  | none => none
theorem setN_some {i : Nat} {s : Sl} {r r' : En} (h : setN i s r = some r') : r' = r.set i s ∧ ∀ q, r[i]? = some q → q.isIo = false := by
  unfold setN at h
  split at h
  · cases h
  · cases h
  · rename_i q hn hp hq
    cases h
    refine ⟨rfl, fun q' e => ?_⟩
    rw [hq] at e
    cases e
    cases q with
    | io c => exact absurd rfl (hn c)
    | pin => exact absurd rfl hp
    | _ => rfl
  · cases h
def setM (i : Nat) (s : Sl) : M Fl := fun r => match setN i s r with
  | some r' => .ok .nx r'
  | none => .no
theorem setM_po {i : Nat} {s : Sl} {r : En} {Xp : Exn → En → Prop} {k : Fl → En → Prop} (h : Po Xp (setM i s r) k) : k .nx (r.set i s) ∧ ∀ q, r[i]? = some q → q.isIo = false := by
  unfold setM at h
  cases e : setN i s r with
  | none =>
    rw [e] at h
    exact h.elim
  | some r' =>
    rw [e] at h
    obtain ⟨rfl, h2⟩ := setN_some e
    exact ⟨h, h2⟩
def slOf : RV → Sl
  | .v d => .v d
  | .o c => .o c
def sSet (i : Nat) (m : M D) : M Fl := m.bind fun d => setM i (.v d)
def sSetO (i : Nat) (m : M RV) : M Fl := m.bind fun d => setM i (slOf d)
def sNil : M Fl := M.ret .nx
def sSeq (m n : M Fl) : M Fl := m.bind fun fl => match fl with
  | .nx => n
  | f => M.ret f
def sIf (t : M Bool) (a b : M Fl) : M Fl := t.bind fun x => if x = true then a else b
def sRet (m : M RV) : M Fl := m.bind fun d => M.ret (.rt d)
def sDrop (m : M D) : M Fl := m.bind fun _ => M.ret .nx
def sDropO (m : M RV) : M Fl := m.bind fun _ => M.ret .nx
section
variable {X : Cx} {c : Cc} {K : PySem.W.Frag} {pa : Nat → Addr} {H0 F0 F H : Hp} {st0 : L2.St} {r0 : En}
theorem Ok.setRv (k : Ok K pa H0 F0 F H st0 r0) {i : Nat} {v : V} {d : RV} (hi : ∀ q, r0[i]? = some q → q.isIo = false) (h : RvOk K H0 F H st0 r0 v d) : Ok K pa H0 F0 F H (st0.set i (some v)) (r0.set i (slOf d)) := by
  cases d with
  | v d => exact k.setV hi h
  | o ct =>
    obtain ⟨a, rfl, z1, z2, z3, z4⟩ := h
    refine k.set (s := .o ct) hi rfl ⟨a, rfl, z1, z2, z3⟩ fun a' c' e0 e => ?_
    cases e
    cases e0
    exact ⟨z4.1.unk, fun b hb => by
      obtain ⟨g1, g2, g3, g4⟩ := z4.2 b hb
      exact ⟨g1, g2, g3, g4.unk⟩⟩
theorem s_set {i : Nat} {x : Str} {e : Expr} {m : M D} {pos pos' : Pos} (he : PE X e (tM c m)) (hN : X.N.Nodup) (hi : X.N[i]? = some x := by rfl) (hx : Loc X.env.scope x := by first | exact Or.inl rfl | exact Or.inr rfl)
    (hs : swapsWith e (some (.Name x pos')) pos.line X.env = pure false := by rfl) (hf : X.fn x = true ∨ X.env.scope.names.lookup x = some .local := by first | exact .inl rfl | exact .inr rfl) : PS X (.Assign [.Name x pos'] e pos) (sM c (sSet i m)) :=
  ps_cq (ps_set hN hi hx he hs hf) fun Dd st H ⟨pa, H0, F0, F, r, ok, po⟩ => seqM ok po fun d r1 F1 H1 v k1 e1 dp q => by
    obtain ⟨q, hi⟩ := setM_po q
    exact q F1 H1 _ (k1.setV hi dp) e1
theorem s_setO {i : Nat} {x : Str} {e : Expr} {m : M RV} {pos pos' : Pos} (he : PE X e (tO c m)) (hN : X.N.Nodup) (hi : X.N[i]? = some x := by rfl) (hx : Loc X.env.scope x := by first | exact Or.inl rfl | exact Or.inr rfl)
    (hs : swapsWith e (some (.Name x pos')) pos.line X.env = pure false := by rfl) (hf : X.fn x = true ∨ X.env.scope.names.lookup x = some .local := by first | exact .inl rfl | exact .inr rfl) : PS X (.Assign [.Name x pos'] e pos) (sM c (sSetO i m)) :=
  ps_cq (ps_set hN hi hx he hs hf) fun Dd st H ⟨pa, H0, F0, F, r, ok, po⟩ => seqO ok po fun d r1 F1 H1 v k1 e1 dp q => by
    obtain ⟨q, hi⟩ := setM_po q
    exact q F1 H1 _ (k1.setRv hi dp) e1
theorem ss_nil : PSs X [] (sM c sNil) := pss_cq pss_nil fun Dd st H ⟨pa, H0, F0, F, r, ok, po⟩ => po F H st ok (Ex.refl F)
theorem seqS {s1 : M Fl} {t : TS} {n : M Fl} {Dd : Ends} {st : L2.St} {H : Hp} (h : sM c (sSeq s1 n) Dd st H) (ht : ∀ Dd st H, sM c n Dd st H → t Dd st H) : sM c s1 { Dd with nx := t Dd } st H := by
  obtain ⟨pa, H0, F0, F, r, ok, po⟩ := h
  refine ⟨pa, H0, F0, F, r, ok, (Po.bind po).mono (fun _ _ x => x) fun fl r1 q => ?_⟩
  cases fl with
  | nx => exact fun F' H' st' k e => ht Dd st' H' (againS k e (q.mono (XW.mono e) fun _ _ x => x))
  | bk => exact q
  | ct => exact q
  | rt rv => exact q
theorem ss_cons {s : Stmt} {rest : List Stmt} {m n : M Fl} (h1 : PS X s (sM c m)) (h2 : PSs X rest (sM c n)) : PSs X (s :: rest) (sM c (sSeq m n)) :=
  pss_cq (pss_cons h1 h2) fun Dd st H h => seqS h fun _ _ _ x => x
theorem ss_one {s : Stmt} {m : M Fl} (h1 : PS X s (sM c m)) : PSs X [s] (sM c m) := pss_one h1
theorem s_if {t : Expr} {a b : List Stmt} {mt : M Bool} {ma mb : M Fl} {pos : Pos} (ht : PT X t (tT c mt)) (ha : PSs X a (sM c ma)) (hb : PSs X b (sM c mb)) : PS X (.If t a b pos) (sM c (sIf mt ma mb)) :=
  ps_cq (ps_if ht ha hb) fun Dd st H ⟨pa, H0, F0, F, r, ok, po⟩ => seqT ok po fun b r1 F1 H1 k1 e1 q => by
    cases b with
    | true => exact againS k1 e1 q
    | false => exact againS k1 e1 q
theorem s_ret {e : Expr} {m : M RV} {pos : Pos} (h : PE X e (tO c m)) : PS X (.Return (some e) pos) (sM c (sRet m)) :=
  ps_cq (ps_ret h) fun Dd st H ⟨pa, H0, F0, F, r, ok, po⟩ => seqO ok po fun d r1 F1 H1 v k1 e1 dp q => q F1 H1 st v k1 e1 dp
/-! ### an owned variable frozen, taken -/
def frzE (i : Nat) (r : En) : En := match r[i]? with
  | some (.o (.l ds)) => r.set i (.v (.list ds))
  | some (.o (.n t)) => (match t.data with
    | some d => r.set i (.v d)
    | none => r)
  | _ => r
def frz (i : Nat) {α : Type} (m : M α) : M α := fun r => m (frzE i r)
theorem Ok.frzE (k : Ok K pa H0 F0 F H st0 r0) (i : Nat) : ∃ F', Ok K pa H0 F0 F' H st0 (frzE i r0) ∧ Ex F F' := by
  unfold Pu.frzE
  split
  · exact k.freeze (by assumption)
  · split
    · exact k.freezeN (by assumption) (by assumption)
    · exact ⟨F, k, Ex.refl F⟩
  · exact ⟨F, k, Ex.refl F⟩
theorem s_frz (i : Nat) {s : Stmt} {m : M Fl} (h : PS X s (sM c m)) : PS X s (sM c (frz i m)) :=
  ps_cq h fun Dd st H ⟨pa, H0, F0, F, r, ok, po⟩ => by
    obtain ⟨F', k, e⟩ := ok.frzE i
    exact ⟨pa, H0, F0, F', _, k, po.mono (XW.mono e) fun _ _ q => q.mono e⟩
def takeS (i : Nat) : M RV := fun r => match r[i]? with
  | some (.v d) => .ok (.v d) r
  | some (.o ct) => .ok (.o ct) (r.set i .unk)
  | _ => .no
theorem set_same {st : L2.St} {i : Nat} {v : Option V} (h : st[i]? = some v) : st.set i v = st := by
  apply List.ext_getElem?
  intro j
  by_cases e : i = j
  · subst e
    rw [List.getElem?_set_self (List.getElem?_eq_some_iff.mp h).1, h]
  · rw [List.getElem?_set_ne e]
theorem o_take (i : Nat) {x : Str} {pos : Pos} (hN : X.N[i]? = some x := by rfl) (hv : Vis X.env.scope x := by first | exact Or.inl rfl | exact Or.inr (Or.inl rfl) | exact Or.inr (Or.inr rfl)) (hd : (x == ("__debug__" : Str)) = false := by decide)
    (hcd : (x == ("__classdict__" : Str)) = false := by decide) : PE X (.Name x pos) (tO c (takeS i)) :=
  pe_cq (pe_var (i := i) hN hv hd hcd) fun st H Q ⟨pa, H0, F0, F, r, ok, po⟩ => by
    unfold takeS at po
    split at po
    · rename_i d h
      obtain ⟨v, e1, e2⟩ := ok.val h
      exact ⟨v, e1, po F H v ok (Ex.refl F) e2⟩
    · rename_i ct h
      obtain ⟨a, z1, z2, z3, z4⟩ := ok.ownd h rfl
      have k2 := ok.forget (i := i) (x := some (V.ref a))
      rw [set_same z1] at k2
      have aw := ok.away (x := some (V.ref a)) h rfl z1
      rw [set_same z1] at aw
      exact ⟨_, z1, po F H _ k2 (Ex.refl F) ⟨a, rfl, z2, z3, z4, aw⟩⟩
    · exact po.elim
end
/-! ### targets -/
def Agr (is : List Nat) (st st' : L2.St) : Prop := st'.length = st.length ∧ ∀ j, j ∉ is → st'[j]? = st[j]?
/-- what is stored where: a datum to a target -/
abbrev Tg := D → En → Option En
abbrev Tgs := List D → En → Option En
def gM (K : PySem.W.Frag) (is : List Nat) (tg : Tg) : TG := fun v st H Q => ∃ pa H0 F0 F r d r', Ok K pa H0 F0 F H st r ∧ Rp K F v d ∧ tg d r = some r' ∧ ∀ st', Ok K pa H0 F0 F H st' r' → Agr is st st' → Q st' H
def gMs (K : PySem.W.Frag) (is : List Nat) (tg : Tgs) : TGs := fun vs st H Q => ∃ pa H0 F0 F r ds r', Ok K pa H0 F0 F H st r ∧ RpAll K F vs ds ∧ tg ds r = some r' ∧ ∀ st', Ok K pa H0 F0 F H st' r' → Agr is st st' → Q st' H
def gN (i : Nat) : Tg := fun d r => setN i (.v d) r
def gT (tg : Tgs) : Tg := fun d r => match d with
  | .tuple ds => tg ds r
  | .list ds => tg ds r
  | _ => none
def gNl : Tgs := fun ds r => match ds with
  | [] => some r
  | _ => none
def gCn (t : Tg) (ts : Tgs) : Tgs := fun ds r => match ds with
  | d :: ds => (t d r).bind fun r' => ts ds r'
  | _ => none
section
variable {X : Cx} {c : Cc}
theorem pg_cq {e : Expr} {t t' : TG} (h : PG X e t) (i : ∀ v st H Q, t' v st H Q → t v st H Q) : PG X e t' := ⟨fun pins s st H v u Q I rv q => h.run pins s st H v u Q I rv (i v st H Q q)⟩
theorem pgs_cq {e : List Expr} {t t' : TGs} (h : PGs X e t) (i : ∀ v st H Q, t' v st H Q → t v st H Q) : PGs X e t' := ⟨fun pins s st H v u Q I rv q => h.run pins s st H v u Q I rv (i v st H Q q)⟩
theorem g_name (i : Nat) {K : PySem.W.Frag} {x : Str} {pos : Pos} (hN : X.N.Nodup) (hi : X.N[i]? = some x := by rfl) (hx : Loc X.env.scope x := by first | exact Or.inl rfl | exact Or.inr rfl) (hf : X.fn x = true ∨ X.env.scope.names.lookup x = some .local := by first | exact .inl rfl | exact .inr rfl) : PG X (.Name x pos) (gM K [i] (gN i)) :=
  pg_cq (pg_name hN hi hx hf) fun v st H Q ⟨pa, H0, F0, F, r, d, r', ok, dp, e, q⟩ => by
    obtain ⟨rfl, h2⟩ := setN_some e
    exact q _ (ok.setV h2 dp) ⟨List.length_set, fun j hj => List.getElem?_set_ne (fun z => hj (by rw [z]; exact List.mem_singleton.mpr rfl))⟩
theorem g_nil {K : PySem.W.Frag} : PGs X [] (gMs K [] gNl) := pgs_cq pgs_nil fun v st H Q ⟨pa, H0, F0, F, r, ds, r', ok, dp, e, q⟩ => by
  cases dp with
  | nil =>
    cases e
    exact ⟨rfl, q st ok ⟨rfl, fun _ _ => rfl⟩⟩
  | cons _ _ => cases e
theorem g_cons {K : PySem.W.Frag} {e : Expr} {es : List Expr} {is js : List Nat} {t : Tg} {ts : Tgs} (h1 : PG X e (gM K is t)) (h2 : PGs X es (gMs K js ts)) (hs : (assignEach (e :: es) X.env).map (·.2) = assign e X.env :: (assignEach es X.env).map (·.2) := by rfl) : PGs X (e :: es) (gMs K (is ++ js) (gCn t ts)) :=
  pgs_cq (pgs_cons h1 h2 hs) fun v st H Q ⟨pa, H0, F0, F, r, ds, r', ok, dp, e, q⟩ => by
    cases dp with
    | nil => cases e
    | @cons v0 vs d ds d0 dr =>
      have e : (t d r).bind (fun r' => ts ds r') = some r' := e
      cases ht : t d r with
      | none =>
        rw [ht] at e
        cases e
      | some r1 =>
        rw [ht] at e
        refine ⟨v0, vs, rfl, pa, H0, F0, F, r, d, r1, ok, d0, ht, fun st' k1 ag => ⟨pa, H0, F0, F, r1, ds, r', k1, dr, e, fun st2 k2 ag2 => q st2 k2 ⟨ag2.1.trans ag.1, fun j hj => ?_⟩⟩⟩
        rw [ag2.2 j (fun z => hj (List.mem_append_right _ z)), ag.2 j (fun z => hj (List.mem_append_left _ z))]
theorem pg_or' {e : Expr} {t t' : TG} (h : PG X e t) (h' : PG X e t') : PG X e (fun v st H Q => t v st H Q ∨ t' v st H Q) := ⟨fun pins s st H v u Q I rv q => q.elim (h.run pins s st H v u Q I rv) (h'.run pins s st H v u Q I rv)⟩
theorem g_tup {es : List Expr} {k : Nat} {pos : Pos} {is : List Nat} {ts : Tgs} {n : Nat} (h : PGs X es (gMs X.K is ts)) (hl : ∀ ds r r', ts ds r = some r' → ds.length = n) (hc : X.calm = true := by rfl) (hn : (assignEach es X.env).length = n := by rfl) (hst : (assignEach es X.env).findIdx? (·.1) = none := by rfl) : PG X (.Tuple es k pos) (gM X.K is (gT ts)) :=
  pg_cq (pg_or' (pg_tup hc h hn hst) (pg_unl hc h hn hst)) fun v st H Q ⟨pa, H0, F0, F, r, d, r', ok, dp, e, q⟩ => by
    cases dp with
    | @tup a xs ds h1 h2 =>
      have e : ts ds r = some r' := e
      exact .inl ⟨a, xs, rfl, ok.fH.t h1, (dpa_len h2).trans (hl _ _ _ e), pa, H0, F0, F, r, ds, r', ok, h2, e, q⟩
    | @lst a xs ds h1 h2 =>
      have e : ts ds r = some r' := e
      exact .inr ⟨a, xs, rfl, ok.fH.l h1, (dpa_len h2).trans (hl _ _ _ e), pa, H0, F0, F, r, ds, r', ok, h2, e, q⟩
    | _ => cases e
theorem gNl_len : ∀ ds r r', gNl ds r = some r' → ds.length = 0 := fun ds r r' h => by
  cases ds with
  | nil => rfl
  | cons _ _ => cases h
theorem gCn_len {t : Tg} {ts : Tgs} {n : Nat} (h : ∀ ds r r', ts ds r = some r' → ds.length = n) : ∀ ds r r', gCn t ts ds r = some r' → ds.length = n + 1 := fun ds r r' e => by
  cases ds with
  | nil => cases e
  | cons d ds =>
    have e : (t d r).bind (fun r' => ts ds r') = some r' := e
    cases ht : t d r with
    | none =>
      rw [ht] at e
      cases e
    | some r1 =>
      rw [ht] at e
      exact congrArg Nat.succ (h ds r1 r' e)
/-- target = e -/
def sAsg (tg : Tg) (m : M D) : M Fl := m.bind fun d r => match tg d r with
  | some r' => .ok .nx r'
  | none => .no
theorem s_asg {tg e : Expr} {m : M D} {is : List Nat} {t : Tg} {pos : Pos} (he : PE X e (tM c m)) (hg : PG X tg (gM c.K is t)) (hs : swapsWithSole [tg] e pos.line X.env = pure false := by rfl) (hw : swappedStores [tg] e X.env = pure none := by rfl)
    (h1 : (assignEach [tg] X.env).map (·.2) = [assign tg X.env] := by rfl) : PS X (.Assign [tg] e pos) (sM c (sAsg t m)) :=
  ps_cq (ps_asg he hg hs hw h1) fun Dd st H ⟨pa, H0, F0, F, r, ok, po⟩ => seqM ok po fun d r1 F1 H1 v k1 e1 dp q => by
    cases ht : t d r1 with
    | none =>
      rw [ht] at q
      exact q.elim
    | some r2 =>
      rw [ht] at q
      exact ⟨pa, H0, F0, F1, r1, d, r2, k1, dp, ht, fun st' k2 _ => q F1 H1 st' k2 e1⟩
/-- x, y = a, b -/
def sPar (i j : Nat) (ms : M (List D)) : M Fl := ms.bind fun ds => match ds with
  | [a, b] => fun r => match (setN i (.v a) r).bind (setN j (.v b)) with
    | some r' => .ok .nx r'
    | none => .no
  | _ => M.no
theorem s_par {i j : Nat} {x y : Str} {a b : Expr} {ms : M (List D)} {px py pt pos : Pos} {kt k2 pt2} (ha : PA X [a, b] (tA c ms)) (hN : X.N.Nodup) (hc : X.calm = true := by rfl) (hi : X.N[i]? = some x := by rfl) (hj : X.N[j]? = some y := by rfl) (hij : i ≠ j := by decide)
    (hx : X.env.scope.names.lookup x = some .local := by rfl) (hy : X.env.scope.names.lookup y = some .local := by rfl)
    (hw : swappedStores [.Tuple [.Name x px, .Name y py] kt pt] (.Tuple [a, b] k2 pt2) X.env = pure (some [x, y]) := by rfl)
    (hs : swapsWithSole [.Tuple [.Name x px, .Name y py] kt pt] (.Tuple [a, b] k2 pt2) pos.line X.env = pure false := by rfl) :
    PS X (.Assign [.Tuple [.Name x px, .Name y py] kt pt] (.Tuple [a, b] k2 pt2) pos) (sM c (sPar i j ms)) :=
  ps_cq (ps_par hc hN hi hj hij hx hy ha hw hs) fun Dd st H ⟨pa, H0, F0, F, r, ok, po⟩ => seqA ok po fun ds r1 F1 H1 vs k1 e1 dps q => by
    cases dps with
    | nil => exact q.elim
    | @cons v1 _ da _ d1 t1 =>
      cases t1 with
      | nil => exact q.elim
      | @cons v2 _ db _ d2 t2 =>
        cases t2 with
        | cons _ _ => exact q.elim
        | nil =>
          refine ⟨v1, v2, rfl, ?_⟩
          have q : Po (XW c pa H0 F0 F1) (match (setN i (.v da) r1).bind (setN j (.v db)) with
            | some r' => .ok .nx r'
            | none => .no) (fun fl r' => flEnd c.K pa H0 F0 F Dd r' fl) := q
          cases h1 : setN i (.v da) r1 with
          | none =>
            rw [h1] at q
            exact q.elim
          | some r2 =>
            rw [h1] at q
            cases h2 : setN j (.v db) r2 with
            | none =>
              have q : Po (XW c pa H0 F0 F1) (match setN j (.v db) r2 with
                | some r' => .ok .nx r'
                | none => .no) (fun fl r' => flEnd c.K pa H0 F0 F Dd r' fl) := q
              rw [h2] at q
              exact q.elim
            | some r3 =>
              have q : Po (XW c pa H0 F0 F1) (match setN j (.v db) r2 with
                | some r' => .ok .nx r'
                | none => .no) (fun fl r' => flEnd c.K pa H0 F0 F Dd r' fl) := q
              rw [h2] at q
              obtain ⟨rfl, z1⟩ := setN_some h1
              obtain ⟨rfl, z2⟩ := setN_some h2
              exact q F1 H1 _ ((k1.setV z1 d1).setV z2 d2) e1
end
/-! ### loops -/
def forL (tg : Tg) (b : M Fl) : List D → M Fl
  | [], r => .ok .nx r
  | x :: xs, r => match tg x r with
    | none => .no
    | some r1 => match b r1 with
      | .ok .nx r2 => forL tg b xs r2
      | .ok .ct r2 => forL tg b xs r2
      | .ok .bk r2 => .ok .nx r2
      | .ok (.rt v) r2 => .ok (.rt v) r2
      | .ex e r2 => .ex e r2
      | .no => .no
def sFor (src : M (List D)) (tg : Tg) (b : M Fl) : M Fl := src.bind fun xs => forL tg b xs
def wloop (t : M Bool) (b : M Fl) : Nat → M Fl
  | 0, _ => .no
  | n + 1, r => match t r with
    | .ok true r1 => (match b r1 with
      | .ok .nx r2 => wloop t b n r2
      | .ok .ct r2 => wloop t b n r2
      | .ok .bk r2 => .ok .nx r2
      | .ok (.rt v) r2 => .ok (.rt v) r2
      | .ex e r2 => .ex e r2
      | .no => .no)
    | .ok false r1 => .ok .nx r1
    | .ex e r1 => .ex e r1
    | .no => .no
open Classical in
noncomputable def sWhile (t : M Bool) (b : M Fl) : M Fl := fun r => if h : ∃ n, wloop t b n r ≠ .no then wloop t b (Classical.choose h) r else .no
theorem wloop_mono {t : M Bool} {b : M Fl} : ∀ {n : Nat} {r : En}, wloop t b n r ≠ .no → ∀ m, n ≤ m → wloop t b m r = wloop t b n r := by
  intro n
  induction n with
  | zero => intro r h; exact absurd rfl h
  | succ n ih =>
    intro r h m hm
    cases m with
    | zero => omega
    | succ m =>
      have hm : n ≤ m := by omega
      unfold wloop at h ⊢
      cases ht : t r with
      | no => rfl
      | ex e r1 => rfl
      | ok x r1 =>
        rw [ht] at h
        cases x with
        | false => rfl
        | true =>
          have h : (match b r1 with
            | .ok .nx r2 => wloop t b n r2
            | .ok .ct r2 => wloop t b n r2
            | .ok .bk r2 => .ok .nx r2
            | .ok (.rt v) r2 => .ok (.rt v) r2
            | .ex e r2 => .ex e r2
            | .no => .no) ≠ .no := h
          show (match b r1 with
            | .ok .nx r2 => wloop t b m r2
            | .ok .ct r2 => wloop t b m r2
            | .ok .bk r2 => .ok .nx r2
            | .ok (.rt v) r2 => .ok (.rt v) r2
            | .ex e r2 => .ex e r2
            | .no => .no) = (match b r1 with
            | .ok .nx r2 => wloop t b n r2
            | .ok .ct r2 => wloop t b n r2
            | .ok .bk r2 => .ok .nx r2
            | .ok (.rt v) r2 => .ok (.rt v) r2
            | .ex e r2 => .ex e r2
            | .no => .no)
          cases hb : b r1 with
          | no => rfl
          | ex e r2 => rfl
          | ok fl r2 =>
            rw [hb] at h
            cases fl with
            | nx => exact ih h m hm
            | ct => exact ih h m hm
            | bk => rfl
            | rt v => rfl
theorem sWhile_of {t : M Bool} {b : M Fl} {n : Nat} {r : En} {x : Re Fl} (h : wloop t b n r = x) (hx : x ≠ .no) : sWhile t b r = x := by
  have ex : ∃ n, wloop t b n r ≠ .no := ⟨n, by rw [h]; exact hx⟩
  have e : sWhile t b r = wloop t b (Classical.choose ex) r := by
    unfold sWhile
    rw [dif_pos ex]
  have sp := Classical.choose_spec ex
  rw [e]
  rcases Nat.le_total n (Classical.choose ex) with l | l
  · rw [wloop_mono (by rw [h]; exact hx) _ l, h]
  · rw [← wloop_mono sp _ l, h]
theorem sWhile_ex {t : M Bool} {b : M Fl} {r : En} {Xp : Exn → En → Prop} {k : Fl → En → Prop} (h : Po Xp (sWhile t b r) k) : ∃ n, Po Xp (wloop t b n r) k := by
  unfold sWhile at h
  split at h
  · exact ⟨_, h⟩
  · exact h.elim
/-- what is walked: its items -/
structure Yl (K : PySem.W.Frag) (F1 : Hp) (J : It) (xs : List D) : Prop where
  go : ∀ i H, i < xs.length → Ex F1 H → J.go i H
  stop : ∀ H, Ex F1 H → J.stop xs.length H
  yld : ∀ (i : Nat) (H : Hp) (x : V) (H' : Hp) (d : D), xs[i]? = some d → Ex F1 H → J.yld i H x H' → (H' = H ∧ Rp K F1 x d) ∨ ∃ T vs ds, x = .ref T ∧ H T = none ∧ H' = upd H T (.tup vs) ∧ d = .tuple ds ∧ RpAll K F1 vs ds
def iM (c : Cc) (m : M (List D)) : TI := fun st H R => ∃ pa H0 F0 F r, Ok c.K pa H0 F0 F H st r ∧ Po (XW c pa H0 F0 F) (m r) fun xs r' => ∀ F' H' J, Ok c.K pa H0 F0 F' H' st r' → Ex F F' → Yl c.K F' J xs → R J H'
theorem Yl.step {K : PySem.W.Frag} {F1 : Hp} {J : It} {xs : List D} (y : Yl K F1 J xs) {pa : Nat → Addr} {H0 F0 F H : Hp} {st : L2.St} {r : En} (k : Ok K pa H0 F0 F H st r) (e : Ex F1 F) {i : Nat} {x : V} {H' : Hp} {d : D} (hd : xs[i]? = some d) (hy : J.yld i H x H') :
    ∃ F', Ok K pa H0 F0 F' H' st r ∧ Ex F F' ∧ Rp K F' x d := by
  rcases y.yld i H x H' d hd (e.trans k.fH) hy with ⟨rfl, dp⟩ | ⟨T, vs, ds, rfl, nT, rfl, rfl, dps⟩
  · exact ⟨F, k, Ex.refl F, dp_mono e dp⟩
  · have nF := k.fH.nn nT
    exact ⟨_, k.layF nT, Ex.new nF, .tup upd_same (dpa_mono (e.trans (Ex.new nF)) dps)⟩
theorem drop_cons {α : Type} {xs : List α} {i : Nat} {x : α} (h : xs[i]? = some x) : xs.drop i = x :: xs.drop (i + 1) := by
  obtain ⟨hl, e⟩ := List.getElem?_eq_some_iff.mp h
  rw [List.drop_eq_getElem_cons hl, e]
section
variable {X : Cx} {c : Cc}
theorem pi_cq {tg e : Expr} {t t' : TI} (h : PI X tg e t) (i : ∀ st H R, t' st H R → t st H R) : PI X tg e t' := ⟨fun pins s st H R I q => h.run pins s st H R I (i st H R q)⟩
theorem s_for {tg iter : Expr} {body : List Stmt} {src : M (List D)} {is : List Nat} {t : Tg} {mb : M Fl} {pos : Pos} (hi : PI X tg iter (iM c src)) (hg : PG X tg (gM c.K is t)) (hb : PSs X body (sM c mb)) (hp : PassesOwn (model X.prog X.w) X.A X.env X.xe) (hc : X.calm = true := by rfl)
    (hs : ∀ x, foldedSetIterable iter X.env x = pure x := by intro _; rfl) : PS X (.For tg iter body [] pos) (sM c (sFor src t mb)) :=
  ps_cq (ps_for hp hc hi hg hb hs) fun Dd st H ⟨pa, H0, F0, F, r, ok, po⟩ => by
    refine ⟨pa, H0, F0, F, r, ok, (Po.bind po).mono (fun _ _ x => x) fun xs r1 q F1 H1 J k1 e1 y => ?_⟩
    refine ⟨fun i m st H => i + m = xs.length ∧ ∃ F' r', Ok c.K pa H0 F0 F' H st r' ∧ Ex F1 F' ∧ Po (XW c pa H0 F0 F') (forL t mb (xs.drop i) r') (fun fl r' => flEnd c.K pa H0 F0 F' Dd r' fl), ⟨xs.length, by omega, F1, r1, k1, Ex.refl F1, q.mono (XW.mono e1) fun _ _ x => x.mono e1⟩, fun i m st H hW => ?_⟩
    obtain ⟨hm, F', r', k, e, po⟩ := hW
    by_cases hl : i < xs.length
    · have hx : xs[i]? = some xs[i] := List.getElem?_eq_getElem hl
      rw [drop_cons hx] at po
      refine .inr ⟨y.go i H hl (e.trans k.fH), fun st2 H2 => ∃ F2 r2, Ok c.K pa H0 F0 F2 H2 st2 r2 ∧ Ex F1 F2 ∧ Po (XW c pa H0 F0 F2) (forL t mb (xs.drop (i + 1)) r2) (fun fl r' => flEnd c.K pa H0 F0 F2 Dd r' fl), fun st2 H2 ⟨F2, r2, a1, a2, a3⟩ => ⟨m - 1, by omega, by omega, F2, r2, a1, a2, a3⟩, fun x H2 hy => ?_⟩
      obtain ⟨F2, k2, e2, dp2⟩ := y.step k e hx hy
      unfold forL at po
      cases ht : t xs[i] r' with
      | none =>
        rw [ht] at po
        exact po.elim
      | some r2 =>
        rw [ht] at po
        refine ⟨pa, H0, F0, F2, r', xs[i], r2, k2, dp2, ht, fun st3 k3 _ => ?_⟩
        refine ⟨pa, H0, F0, F2, r2, k3, ?_⟩
        have po : Po (XW c pa H0 F0 F') (match mb r2 with
          | .ok .nx r2 => forL t mb (xs.drop (i + 1)) r2
          | .ok .ct r2 => forL t mb (xs.drop (i + 1)) r2
          | .ok .bk r2 => .ok .nx r2
          | .ok (.rt v) r2 => .ok (.rt v) r2
          | .ex e r2 => .ex e r2
          | .no => .no) (fun fl r' => flEnd c.K pa H0 F0 F' Dd r' fl) := po
        cases hb : mb r2 with
        | no =>
          rw [hb] at po
          exact po.elim
        | ex ee r3 =>
          rw [hb] at po
          exact XW.mono e2 _ _ po
        | ok fl r3 =>
          rw [hb] at po
          cases fl with
          | nx => exact fun F4 H4 st4 k4 e4 => ⟨F4, r3, k4, (e.trans e2).trans e4, po.mono (XW.mono (e2.trans e4)) fun _ _ x => x.mono (e2.trans e4)⟩
          | ct => exact fun F4 H4 st4 k4 e4 => ⟨F4, r3, k4, (e.trans e2).trans e4, po.mono (XW.mono (e2.trans e4)) fun _ _ x => x.mono (e2.trans e4)⟩
          | bk => exact fun F4 H4 st4 k4 e4 => po F4 H4 st4 k4 (e2.trans e4)
          | rt rv => exact fun F4 H4 st4 v k4 e4 => po F4 H4 st4 v k4 (e2.trans e4)
    · have ei : i = xs.length := by omega
      subst ei
      rw [List.drop_length] at po
      exact .inl ⟨y.stop H (e.trans k.fH), po F' H st k (Ex.refl F')⟩
theorem s_while {t : Expr} {body : List Stmt} {mt : M Bool} {mb : M Fl} {pos : Pos} (ht : PT X t (tT c mt)) (hb : PSs X body (sM c mb)) (hp : PassesOwn (model X.prog X.w) X.A X.env X.xe) : PS X (.While t body [] pos) (sM c (sWhile mt mb)) :=
  ps_cq (ps_while hp ht hb) fun Dd st H ⟨pa, H0, F0, F, r, ok, po⟩ => by
    obtain ⟨n, po⟩ := sWhile_ex po
    refine ⟨fun m st H => ∃ F' r', Ok c.K pa H0 F0 F' H st r' ∧ Ex F F' ∧ Po (XW c pa H0 F0 F') (wloop mt mb m r') (fun fl r' => flEnd c.K pa H0 F0 F' Dd r' fl), ⟨n, F, r, ok, Ex.refl F, po⟩, fun m st H hW => ?_⟩
    obtain ⟨F', r', k, e, po⟩ := hW
    cases m with
    | zero => exact po.elim
    | succ m =>
      unfold wloop at po
      refine ⟨pa, H0, F0, F', r', k, ?_⟩
      cases h1 : mt r' with
      | no =>
        rw [h1] at po
        exact po.elim
      | ex ee r1 =>
        rw [h1] at po
        exact po
      | ok x r1 =>
        rw [h1] at po
        intro F2 H2 k2 e2
        cases x with
        | false =>
          show Dd.nx st H2
          exact po F2 H2 st k2 e2
        | true =>
          show ∃ N : L2.St → Hp → Prop, _
          refine ⟨fun st2 H2 => ∃ F2 r2, Ok c.K pa H0 F0 F2 H2 st2 r2 ∧ Ex F F2 ∧ Po (XW c pa H0 F0 F2) (wloop mt mb m r2) (fun fl r' => flEnd c.K pa H0 F0 F2 Dd r' fl), fun st2 H2 ⟨F2, r2, a1, a2, a3⟩ => ⟨m, Nat.lt_succ_self m, F2, r2, a1, a2, a3⟩, ?_⟩
          refine ⟨pa, H0, F0, F2, r1, k2, ?_⟩
          have po : Po (XW c pa H0 F0 F') (match mb r1 with
            | .ok .nx r2 => wloop mt mb m r2
            | .ok .ct r2 => wloop mt mb m r2
            | .ok .bk r2 => .ok .nx r2
            | .ok (.rt v) r2 => .ok (.rt v) r2
            | .ex e r2 => .ex e r2
            | .no => .no) (fun fl r' => flEnd c.K pa H0 F0 F' Dd r' fl) := po
          cases hb : mb r1 with
          | no =>
            rw [hb] at po
            exact po.elim
          | ex ee r3 =>
            rw [hb] at po
            exact XW.mono e2 _ _ po
          | ok fl r3 =>
            rw [hb] at po
            cases fl with
            | nx => exact fun F4 H4 st4 k4 e4 => ⟨F4, r3, k4, (e.trans e2).trans e4, po.mono (XW.mono (e2.trans e4)) fun _ _ x => x.mono (e2.trans e4)⟩
            | ct => exact fun F4 H4 st4 k4 e4 => ⟨F4, r3, k4, (e.trans e2).trans e4, po.mono (XW.mono (e2.trans e4)) fun _ _ x => x.mono (e2.trans e4)⟩
            | bk => exact fun F4 H4 st4 k4 e4 => po F4 H4 st4 k4 (e2.trans e4)
            | rt rv => exact fun F4 H4 st4 v k4 e4 => po F4 H4 st4 v k4 (e2.trans e4)
end
end Pu
namespace Pu
open PySem PySem.Spec PyProof.Rows L2
variable [TabT]
/-! ### what is walked -/
theorem pi_or {X : Cx} {tg e : Expr} {t t' : TI} (h : PI X tg e t) (h' : PI X tg e t') : PI X tg e (fun st H R => t st H R ∨ t' st H R) :=
  ⟨fun pins s st H R I q => q.elim (h.run pins s st H R I) (h'.run pins s st H R I)⟩
def seqOf : D → Option (List D)
  | .list ds => some ds
  | .tuple ds => some ds
  | _ => none
def iSeq (m : M D) : M (List D) := m.bind fun d => M.opt (seqOf d)
theorem yl_list {K : PySem.W.Frag} {F : Hp} {a : Addr} {vs : List V} {ds : List D} (h : SqL K F a vs) (hr : RpAll K F vs ds) : Yl K F (Itl K a) ds where
  go := fun i H hi e => by
    have hl := dpa_len hr
    exact ⟨vs, vs[i]'(by omega), e.l h, List.getElem?_eq_getElem (by omega)⟩
  stop := fun H e => ⟨vs, e.l h, by rw [dpa_len hr]; exact Nat.le_refl _⟩
  yld := fun i H x H' d hd e hy => by
    obtain ⟨rfl, q⟩ := hy
    obtain ⟨v, h1, h2⟩ := dpa_get hr hd
    have z := q vs (e.l h)
    rw [h1] at z
    cases z
    exact .inl ⟨rfl, h2⟩
theorem yl_tup {K : PySem.W.Frag} {F : Hp} {a : Addr} {vs : List V} {ds : List D} (h : SqT K F a vs) (hr : RpAll K F vs ds) : Yl K F (Itt K a) ds where
  go := fun i H hi e => by
    have hl := dpa_len hr
    exact ⟨vs, vs[i]'(by omega), e.t h, List.getElem?_eq_getElem (by omega)⟩
  stop := fun H e => ⟨vs, e.t h, by rw [dpa_len hr]; exact Nat.le_refl _⟩
  yld := fun i H x H' d hd e hy => by
    obtain ⟨rfl, q⟩ := hy
    obtain ⟨v, h1, h2⟩ := dpa_get hr hd
    have z := q vs (e.t h)
    rw [h1] at z
    cases z
    exact .inl ⟨rfl, h2⟩
section
variable {X : Cx} {c : Cc}
theorem i_seq {tg e : Expr} {m : M D} (h : PE X e (tM c m)) (hK : c.K = X.K := by rfl) : PI X tg e (iM c (iSeq m)) :=
  pi_cq (pi_or (pi_list h) (pi_tup h)) fun st H R ⟨pa, H0, F0, F, r, ok, po⟩ => by
    have po : Po (XW c pa H0 F0 F) ((m r).bind fun d => M.opt (seqOf d)) _ := po
    cases hm : m r with
    | no =>
      rw [hm] at po
      exact po.elim
    | ex e r1 =>
      rw [hm] at po
      exact .inl ⟨pa, H0, F0, F, r, ok, by rw [hm]; exact po⟩
    | ok d r1 =>
      rw [hm] at po
      obtain ⟨xs, hx, q⟩ := opt_po (show Po (XW c pa H0 F0 F) (M.opt (seqOf d) r1) _ from po)
      cases d with
      | list ds =>
        cases hx
        refine .inl ⟨pa, H0, F0, F, r, ok, ?_⟩
        rw [hm]
        intro F' H' v k e dp
        cases dp with
        | @lst a vs _ h1 h2 => exact ⟨a, rfl, ⟨vs, by rw [← hK]; exact k.fH.l h1⟩, q F' H' _ k e (by rw [← hK]; exact yl_list h1 h2)⟩
      | tuple ds =>
        cases hx
        refine .inr ⟨pa, H0, F0, F, r, ok, ?_⟩
        rw [hm]
        intro F' H' v k e dp
        cases dp with
        | @tup a vs _ h1 h2 => exact ⟨a, rfl, ⟨vs, by rw [← hK]; exact k.fH.t h1⟩, q F' H' _ k e (by rw [← hK]; exact yl_tup h1 h2)⟩
      | _ => cases hx
/-! range -/
def rngD (lo : Int) (n : Nat) : List D := (List.range n).map fun k => .int (lo + (k : Nat))
/-- a choice that nothing can reckon out -/
noncomputable def cI {α : Type} (p : Prop) (a b : α) : α := @ite α p (Classical.propDecidable p) a b
theorem cI_eq {α : Type} (p : Prop) [Decidable p] (a b : α) : cI p a b = if p then a else b := by
  unfold cI
  by_cases h : p
  · rw [if_pos h, if_pos h]
  · rw [if_neg h, if_neg h]
noncomputable def cd (p : Prop) : Bool := @decide p (Classical.propDecidable p)
theorem cd_eq (p : Prop) [Decidable p] : cd p = decide p := by
  unfold cd
  by_cases h : p
  · exact (@decide_eq_true p (Classical.propDecidable p) h).trans (decide_eq_true h).symm
  · exact (@decide_eq_false p (Classical.propDecidable p) h).trans (decide_eq_false h).symm
noncomputable def rng1 : List D → Option (List D)
  | [.int j] => cI (-(2 ^ 62) ≤ j ∧ j < 2 ^ 62) (some (rngD 0 j.toNat)) none
  | _ => none
noncomputable def rng2 : List D → Option (List D)
  | [.int i, .int j] => cI ((-(2 ^ 62) ≤ i ∧ i < 2 ^ 62) ∧ (-(2 ^ 62) ≤ j ∧ j < 2 ^ 62)) (some (rngD i (j - i).toNat)) none
  | _ => none
def iBy (g : List D → Option (List D)) (ms : M (List D)) : M (List D) := ms.bind fun ds => M.opt (g ds)
theorem rng1_some {ds xs : List D} (h : rng1 ds = some xs) : ∃ j : Int, ds = [.int j] ∧ (-(2 ^ 62) ≤ j ∧ j < 2 ^ 62) ∧ xs = rngD 0 j.toNat := by
  unfold rng1 at h
  split at h
  · rw [cI_eq] at h
    split at h
    · cases h
      exact ⟨_, rfl, by assumption, rfl⟩
    · cases h
  · cases h
theorem rpa_one {K : PySem.W.Frag} {F : Hp} {vs : List V} {d : D} (h : RpAll K F vs [d]) : ∃ v, vs = [v] ∧ Rp K F v d := by
  cases h with
  | cons h t =>
    cases t
    exact ⟨_, rfl, h⟩
theorem rp_int {K : PySem.W.Frag} {F : Hp} {v : V} {i : Int} (h : Rp K F v (.int i)) : v = .int i := by
  cases h
  rfl
theorem rngD_len (lo : Int) (n : Nat) : (rngD lo n).length = n := by simp [rngD]
theorem yl_rng {K : PySem.W.Frag} {F : Hp} (lo : Int) (n : Nat) : Yl K F (Itr lo n) (rngD lo n) where
  go := fun i H hi e => by
    rw [rngD_len] at hi
    exact hi
  stop := fun H e => by
    rw [rngD_len]
    exact Nat.le_refl _
  yld := fun i H x H' d hd e hy => by
    obtain ⟨rfl, rfl⟩ := hy
    refine .inl ⟨rfl, ?_⟩
    unfold rngD at hd
    rw [List.getElem?_map] at hd
    cases hr : (List.range n)[i]? with
    | none =>
      rw [hr] at hd
      cases hd
    | some k =>
      rw [hr] at hd
      cases hd
      obtain ⟨h1, h2⟩ := List.getElem?_eq_some_iff.mp hr
      rw [List.getElem_range] at h2
      subst h2
      exact .int _
theorem i_rng1 {tg a : Expr} {ms : M (List D)} {p pos : Pos} (ha : PA X [a] (tA c ms)) (hm : X.mg "range" = none) (hg : Gl X "range" := by rfl) (hs : starEach [a] X.env = [(false, eval a X.env)] := by rfl) : PI X tg (.Call (.Name "range" p) [a] [] pos) (iM c (iBy rng1 ms)) :=
  pi_cq (pi_range1 hg hm ha hs) fun st H R ⟨pa, H0, F0, F, r, ok, po⟩ => seqA ok po fun ds r1 F1 H1 vs k1 e1 dps q => by
    obtain ⟨xs, hx, q⟩ := opt_po q
    obtain ⟨j, rfl, hj, rfl⟩ := rng1_some hx
    obtain ⟨v, rfl, d⟩ := rpa_one dps
    cases rp_int d
    exact ⟨j, rfl, hj.1, hj.2, q F1 H1 _ k1 e1 (yl_rng 0 j.toNat)⟩
end
/-! ### enumerate -/
/-- the tuple at a, each item in a new pair -/
def ItE (K : PySem.W.Frag) (a : Addr) : It where
  go := fun i H => ∃ (xs : List V) (x : V), SqT K H a xs ∧ xs[i]? = some x
  yld := fun i H v H' => ∃ T x, v = .ref T ∧ H T = none ∧ H' = upd H T (.tup [.int (i : Nat), x]) ∧ ∀ xs, SqT K H a xs → xs[i]? = some x
  stop := fun i H => ∃ xs : List V, SqT K H a xs ∧ xs.length ≤ i
theorem turn_en {P : Program} {w : World} {K : PySem.W.Frag} {elts : List Expr} {kk : Nat} {tpos : Pos} (a q it : Addr) :
    Turn P w K (.Tuple elts kk tpos) (ItE K a) [q, it] q (fun i h => (∃ old, IsEnum h q it ((i : Nat) : Int) old) ∧ h.IsTupleIter it a i ∧ q ≠ it ∧ a ≠ it ∧ a ≠ q) where
  mem := List.mem_cons_self
  obj := fun i h hst b hb => by
    obtain ⟨⟨old, h1⟩, ⟨o, h2, h3, h4⟩, _⟩ := hst
    rcases List.mem_cons.mp hb with rfl | hb
    · exact ⟨_, h1, fun v z => nomatch z⟩
    · rw [List.mem_singleton.mp hb]
      exact ⟨o, h2, fun v z => by rw [h4] at z; cases z⟩
  keep := fun i h h' hst kp => by
    obtain ⟨⟨old, h1⟩, h2, h3⟩ := hst
    exact ⟨⟨old, kp q List.mem_cons_self _ h1⟩, h2.at fun o z => kp it (List.mem_cons_of_mem _ (List.mem_singleton.mpr rfl)) o z, h3⟩
  item := by
    intro X hP hw hK hc i pins s st H E I hf hst hg
    subst hP hw hK
    obtain ⟨⟨old, h1⟩, h2, h3, h4, h5⟩ := hst
    obtain ⟨xs, x, hq, hx⟩ := hg
    obtain ⟨us, rv, ht, hz⟩ := I.tuple hq
    obtain ⟨u, hu, ru⟩ := rv.get hx
    have lq : q < s.heap.objs.size := Heap.lt_size h1
    have li : it < s.heap.objs.size := by
      obtain ⟨o, z, _⟩ := h2
      exact Heap.lt_size z
    have dr : Draws X.prog X.w X.A.in1 it [it, a] us.toArray.size (fun i v => us.toArray[i]? = some v) (fun i h => h.IsTupleIter it a i ∧ h.IsTuple a us.toArray) := Draws.tuple (A := X.A.in1) (show X.A.in1.handled = none from I.ok.hd hc) it a h4 us.toArray
    have hlt : i < us.toArray.size := by
      have := (List.getElem?_eq_some_iff.mp hu).1
      simpa using this
    have nq : q ∉ [it, a] := fun z => by
      rcases List.mem_cons.mp z with z | z
      · exact h3 z
      · exact h5 (List.mem_singleton.mp z).symm
    refine wpAny_pyNext_enum_itemD dr h1 ⟨h2, ht⟩ hlt h3 nq fun y h' tk hy out hs' hT hsz hk => ?_
    have ey : y = u := by
      have z : us.toArray[i]? = some y := hy
      rw [show us.toArray[i]? = us[i]? by simp, hu] at z
      cases z
      rfl
    subst ey
    refine ⟨_, rfl, wpAny_letOwnedTupleGo_enum (s := { s with heap := h', toks := tk + 1 }) out fun h2' hen sb => ?_⟩
    have hT2 : h2'.get? s.heap.objs.size = some { cls := .type "tuple", data := .seq #[.int i tk, y] } := (sb.2 _ (Nat.ne_of_gt lq)).trans hT
    have new : ObjOk X.prog X.w (upd H s.heap.objs.size (.tup [.int (i : Nat), x])) h2' s.heap.objs.size (.tup [.int (i : Nat), x]) := by
      refine ⟨?_, [.int i tk, y], .cons ⟨_, rfl⟩ (.cons ru .nil), ⟨_, hT2, rfl, _, rfl⟩⟩
      show 2 ≤ sizeLine
      decide
    have kp : ∀ b o, b ∉ [q, it] → s.heap.get? b = some o → h2'.get? b = some o := fun b o hb z => by
      have b1 : b ≠ q := fun z => hb (by rw [z]; exact List.mem_cons_self)
      have b2 : b ≠ it := fun z => hb (by rw [z]; exact List.mem_cons_of_mem _ (List.mem_singleton.mpr rfl))
      exact (sb.2 b b1).trans (hk b o b1 b2 z)
    have J := I.turnedNew (t' := tk + 1) kp hf (Nat.le_refl _) new
    refine ⟨.ref s.heap.objs.size, _, J, rfl, ⟨_, x, rfl, I.hok.fresh (Nat.le_refl _), rfl, fun ys hy2 => by rw [I.tuple_inj hy2 hq]; exact hx⟩, ⟨⟨y, ?_⟩, ?_, h3, h4, h5⟩, fun b hb => ?_⟩
    · rw [show ((i + 1 : Nat) : Int) = (i : Int) + 1 by omega]
      exact hen
    · exact hs'.1.at fun o z => (sb.2 it (Ne.symm h3)).trans z
    · have lb : b < s.heap.objs.size := by
        rcases List.mem_cons.mp hb with z | z
        · rw [z]
          exact lq
        · rw [List.mem_singleton.mp z]
          exact li
      rw [upd_ne (Nat.ne_of_lt lb)]
      exact (hf b hb).1
  done := by
    intro X hP hw hK hc i pins s st H E I hf hst hg
    subst hP hw hK
    obtain ⟨⟨old, h1⟩, h2, h3, h4, h5⟩ := hst
    obtain ⟨xs, hq, hx⟩ := hg
    obtain ⟨us, rv, ht, hz⟩ := I.tuple hq
    obtain ⟨f0, f1, f2, f3, f4, f5⟩ := hf it (List.mem_cons_of_mem _ (List.mem_singleton.mpr rfl))
    have hl := rv.length
    have hT : s.TypeIs (.ref q) "enumerate" := ⟨_, h1, rfl⟩
    unfold pyNext
    refine wpAny_bind (wpAny_attempt (wpAny_callSpecial?_slot (name := Str.ofString "__next__") hT F.slot_enumerate_next (wpAny_call_entry F.slot_enumerate_next hT F.entry_enumerate_next ?_ (F.args_enumerate_next_1 _))))
    show wpAny _ _ (field (.ref q) 2 >>= _) _ _ _
    refine wpAny_bind (wpAny_field h1 rfl (x := .ref it) rfl ?_)
    refine wpAny_bind (wpAny_nextOf_tuple_end (I.ok.hd hc) h2 ht (by simp; omega) fun h' x he' hx' => ?_)
    obtain ⟨o, ho, hcl⟩ := hx'
    refine wpAny_bind (wpAny_isInstance (T := "StopIteration") (b := true) ⟨o, ho, hcl⟩ isSubtype_stop ?_)
    exact wpAny_pure ⟨rfl, I.turned (t' := s.toks) (fun b o hb z => he' b o hb z) f0 f1 f3 f4 f5⟩
  self := fun A i s Q E hst h => by
    obtain ⟨⟨_, h1⟩, _⟩ := hst
    exact wpAny_pyIter_enum h1 h
end Pu
namespace Pu
open PySem PySem.Spec PyProof.Rows L2 RZ
variable [TabT]
set_option maxHeartbeats 1000000 in
theorem meets_en1 {v : Value} {o : Obj} {Hh : Heap → Prop} (B : Begins v o Hh) : Meets (Builtin.«enumerate.__new__» ⟨[.type "enumerate", v], []⟩) (fun _ R s => Hh s.heap ∧
    R (.ok (.ret (.ref (s.heap.push o).objs.size))) { s with heap := (s.heap.push o).push { cls := .type "enumerate", data := .fields #[.none, .bool false, .ref s.heap.objs.size, rawInt 0, .none, .none] } }) :=
  .of_wp fun prog w A R s h => by
    obtain ⟨hp, gg, dd, tk, os⟩ := s
    obtain ⟨h1, h⟩ := h
    have hsub := sub_enumerate
    have q1 : ∀ {A' : Around} {E : Value → Shared → Prop} {Q : Value → Shared → Prop}, Q (.ref hp.objs.size) ⟨hp.push o, gg, dd, tk, os⟩ → wpAny (model prog w) A' (pyIter v) Q E ⟨hp, gg, dd, tk, os⟩ :=
      fun q => B.iter prog w _ _ ⟨hp, gg, dd, tk, os⟩ _ h1 q
    wp_walk using q1
    refine wpAny_stack_any fun sk => wpAny_pure ?_
    split
    · rename_i cc _ _ _ _ _
      cases (cc == Value.type "enumerate")
      · wp_walk using q1
        exact ⟨_, rfl, h⟩
      · wp_walk using q1
        exact ⟨_, rfl, h⟩
    · wp_walk using q1
      exact ⟨_, rfl, h⟩
theorem call_en {prog : Program} {w : World} {A : Around} {E : Value → Shared → Prop} {s : Shared} {v : Value} {o : Obj} {Hh : Heap → Prop} {Q : Value → Shared → Prop} (B : Begins v o Hh) (h1 : Hh s.heap)
    (h : ∀ h', IsEnum h' (s.heap.objs.size + 1) s.heap.objs.size 0 .none → h'.get? s.heap.objs.size = some o → (∀ b o, s.heap.get? b = some o → h'.get? b = some o) → Q (.ref (s.heap.objs.size + 1)) { s with heap := h' }) :
    wpAny (model prog w) A (call (.type "enumerate") [v]) Q E s := by
  refine callType_new F.called_enumerate (by decide) (F.typeCall_enumerate_1 _) (F.newCall_enumerate_1 _) (fun obj => F.args_object_init_2 obj _) F.entry_enumerate_new (meets_en1 B) ⟨h1, ?_⟩
  have hz : (s.heap.push o).objs.size = s.heap.objs.size + 1 := Heap.size_push ..
  show _ ∧ _
  rw [hz]
  have he : IsEnum ((s.heap.push o).push { cls := .type "enumerate", data := .fields #[.none, .bool false, .ref s.heap.objs.size, rawInt 0, .none, .none] }) (s.heap.objs.size + 1) s.heap.objs.size 0 .none := by
    have z := Heap.get?_push_size (s.heap.push o) (o := { cls := .type "enumerate", data := .fields #[.none, .bool false, .ref s.heap.objs.size, rawInt 0, .none, .none] }) rfl
    rw [hz] at z
    exact z
  exact ⟨⟨_, he, rfl⟩, h _ he (Heap.get?_push_of_some _ (Heap.get?_push_size _ B.free)) fun b o x => Heap.get?_push_of_some _ (Heap.get?_push_of_some _ x)⟩
def iEnT (K : PySem.W.Frag) (ta : TA) : TI := fun st H R => ta st H fun vs H1 => ∃ a xs, vs = [.ref a] ∧ SqT K H1 a xs ∧ R (ItE K a) H1
theorem pi_enT {X : Cx} {e : Expr} {ta : TA} {p pos tpos : Pos} {elts : List Expr} {kk : Nat} (hg : Gl X "enumerate") (hm : X.mg "enumerate" = none) (ha : PA X [e] ta) (hs : starEach [e] X.env = [(false, eval e X.env)] := by rfl) :
    PI X (.Tuple elts kk tpos) (.Call (.Name "enumerate" p) [e] [] pos) (iEnT X.K ta) := by
  refine ⟨fun pins s st H R I h => ?_⟩
  refine Call_ (ld_blt I hg hm boot_enumerate (PyProof.Rows.callWith_type1 (thn (ha.run pos pins s st H _ I h) fun us s1 hh => ?_) hs rfl))
  obtain ⟨vs, H1, I1, r1, a, xs, ex, hq, q⟩ := hh
  subst ex
  cases r1 with
  | cons ra rr =>
    cases rr
    cases ra
    obtain ⟨its, rv, ht, hz⟩ := I1.tuple hq
    have la : a < s1.heap.objs.size := ht.lt
    refine call_en (begins_tuple a its.toArray) ht fun h' hen hit kp => wpAny_pyIter_enum hen ?_
    have I2 : Inv X pins st H1 { s1 with heap := h' } := I1.kept (t' := s1.toks) kp
    refine ⟨s1.heap.objs.size + 1, [s1.heap.objs.size + 1, s1.heap.objs.size], _, _, H1, rfl, I2, turn_en a (s1.heap.objs.size + 1) s1.heap.objs.size, ⟨⟨.none, hen⟩, ⟨_, hit, rfl, rfl⟩, Nat.succ_ne_self _, Nat.ne_of_lt la, Nat.ne_of_lt (Nat.lt_succ_of_lt la)⟩, fun b hb => ?_, q⟩
    have lb : s1.heap.objs.size ≤ b := by
      rcases List.mem_cons.mp hb with z | z
      · rw [z]
        exact Nat.le_succ _
      · rw [List.mem_singleton.mp z]
        exact Nat.le_refl _
    exact I1.fpOk lb (I1.hok.fresh lb)
/-- the pairs (k, d) -/
def enF : Nat → List D → List D
  | _, [] => []
  | k, d :: ds => .tuple [.int (k : Nat), d] :: enF (k + 1) ds
theorem enF_len : ∀ (k : Nat) (ds : List D), (enF k ds).length = ds.length
  | _, [] => rfl
  | k, d :: ds => congrArg Nat.succ (enF_len (k + 1) ds)
theorem enF_get : ∀ (k : Nat) (ds : List D) (i : Nat), (enF k ds)[i]? = (ds[i]?).map fun d => .tuple [.int ((k + i : Nat) : Int), d]
  | _, [], _ => rfl
  | k, d :: ds, 0 => rfl
  | k, d :: ds, i + 1 => by
    show (enF (k + 1) ds)[i]? = (ds[i]?).map _
    rw [enF_get (k + 1) ds i, show k + 1 + i = k + (i + 1) by omega]
def enOf : List D → Option (List D)
  | [d] => (seqOf d).map (enF 0)
  | _ => none
theorem enF_some {ds : List D} {i : Nat} {d : D} (h : (enF 0 ds)[i]? = some d) : ∃ x, ds[i]? = some x ∧ d = .tuple [.int (i : Nat), x] := by
  rw [enF_get, Nat.zero_add] at h
  cases hd : ds[i]? with
  | none =>
    rw [hd] at h
    cases h
  | some x =>
    rw [hd] at h
    cases h
    exact ⟨x, rfl, rfl⟩
theorem yl_enL {K : PySem.W.Frag} {F : Hp} {a : Addr} {vs : List V} {ds : List D} (h : SqL K F a vs) (hr : RpAll K F vs ds) : Yl K F (Ite K a) (enF 0 ds) where
  go := fun i H hi e => by
    rw [enF_len] at hi
    have hl := dpa_len hr
    exact ⟨vs, vs[i]'(by omega), e.l h, List.getElem?_eq_getElem (by omega)⟩
  stop := fun H e => ⟨vs, e.l h, by rw [enF_len, dpa_len hr]; exact Nat.le_refl _⟩
  yld := fun i H x H' d hd e hy => by
    obtain ⟨T, y, rfl, nT, rfl, q⟩ := hy
    obtain ⟨dx, h1, rfl⟩ := enF_some hd
    obtain ⟨v, h2, h3⟩ := dpa_get hr h1
    have z := q vs (e.l h)
    rw [h2] at z
    cases z
    exact .inr ⟨T, _, _, rfl, nT, rfl, rfl, .cons (.int _) (.cons h3 .nil)⟩
theorem yl_enT {K : PySem.W.Frag} {F : Hp} {a : Addr} {vs : List V} {ds : List D} (h : SqT K F a vs) (hr : RpAll K F vs ds) : Yl K F (ItE K a) (enF 0 ds) where
  go := fun i H hi e => by
    rw [enF_len] at hi
    have hl := dpa_len hr
    exact ⟨vs, vs[i]'(by omega), e.t h, List.getElem?_eq_getElem (by omega)⟩
  stop := fun H e => ⟨vs, e.t h, by rw [enF_len, dpa_len hr]; exact Nat.le_refl _⟩
  yld := fun i H x H' d hd e hy => by
    obtain ⟨T, y, rfl, nT, rfl, q⟩ := hy
    obtain ⟨dx, h1, rfl⟩ := enF_some hd
    obtain ⟨v, h2, h3⟩ := dpa_get hr h1
    have z := q vs (e.t h)
    rw [h2] at z
    cases z
    exact .inr ⟨T, _, _, rfl, nT, rfl, rfl, .cons (.int _) (.cons h3 .nil)⟩
section
variable {X : Cx} {c : Cc}
theorem i_enum {e : Expr} {ms : M (List D)} {p pos tpos : Pos} {elts : List Expr} {kk : Nat} (ha : PA X [e] (tA c ms)) (hm : X.mg "enumerate" = none) (hK : c.K = X.K := by rfl) (hg : Gl X "enumerate" := by rfl) (hs : starEach [e] X.env = [(false, eval e X.env)] := by rfl) :
    PI X (.Tuple elts kk tpos) (.Call (.Name "enumerate" p) [e] [] pos) (iM c (iBy enOf ms)) :=
  pi_cq (pi_or (pi_enum hg hm ha hs) (pi_enT hg hm ha hs)) fun st H R ⟨pa, H0, F0, F, r, ok, po⟩ => by
    have po : Po (XW c pa H0 F0 F) ((ms r).bind fun ds => M.opt (enOf ds)) _ := po
    cases hm : ms r with
    | no =>
      rw [hm] at po
      exact po.elim
    | ex e r1 =>
      rw [hm] at po
      exact .inl ⟨pa, H0, F0, F, r, ok, by rw [hm]; exact po⟩
    | ok ds r1 =>
      rw [hm] at po
      obtain ⟨xs, hx, q⟩ := opt_po (show Po (XW c pa H0 F0 F) (M.opt (enOf ds) r1) _ from po)
      unfold enOf at hx
      split at hx
      · rename_i d
        cases d with
        | list ys =>
          cases hx
          refine .inl ⟨pa, H0, F0, F, r, ok, ?_⟩
          rw [hm]
          intro F' H' vs k e dps
          obtain ⟨v, rfl, dp⟩ := rpa_one dps
          cases dp with
          | @lst a us _ h1 h2 => exact ⟨a, us, rfl, by rw [← hK]; exact k.fH.l h1, q F' H' _ k e (by rw [← hK]; exact yl_enL h1 h2)⟩
        | tuple ys =>
          cases hx
          refine .inr ⟨pa, H0, F0, F, r, ok, ?_⟩
          rw [hm]
          intro F' H' vs k e dps
          obtain ⟨v, rfl, dp⟩ := rpa_one dps
          cases dp with
          | @tup a us _ h1 h2 => exact ⟨a, us, rfl, by rw [← hK]; exact k.fH.t h1, q F' H' _ k e (by rw [← hK]; exact yl_enT h1 h2)⟩
        | _ => cases hx
      · cases hx
/-! zip of two lists, of two tuples -/
def zipD (xs ys : List D) : List D := List.zipWith (fun x y => .tuple [x, y]) xs ys
def zipOf : List D → Option (List D)
  | [.list xs, .list ys] => some (zipD xs ys)
  | [.tuple xs, .tuple ys] => some (zipD xs ys)
  | _ => none
end
/-! ### list comprehensions -/
def wipeE (r : En) : List Nat → En
  | [] => r
  | i :: is => (wipeE r is).set i .unk
/-- behind the block: the block's own slots as they were -/
def backE (r : En) (q : En) : List Nat → En
  | [] => q
  | i :: is => (backE r q is).set i (r.getD i .unk)
def noOwn (r : En) (is : List Nat) : Bool := is.all fun i => match r[i]? with
  | some s => s.own.isNone
  | none => false
def compL (is : List Nat) (tg : Tg) (tt : M Bool) (te : M D) : List D → List D → M (List D)
  | [], acc, r => .ok acc r
  | x :: xs, acc, r => match tg x (wipeE r is) with
    | none => .no
    | some r1 => match tt r1 with
      | .ok true r2 => (match te r2 with
        | .ok y r3 => if acc.length < 16777216 then compL is tg tt te xs (acc ++ [y]) r3 else .no
        | _ => .no)
      | .ok false r2 => compL is tg tt te xs acc r2
      | _ => .no
def oComp (src : M (List D)) (is : List Nat) (tg : Tg) (tt : M Bool) (te : M D) : M RV := src.bind fun xs r => if noOwn r is = true then (match compL is tg tt te xs [] r with
  | .ok ys q => .ok (.o (.l ys)) (backE r (wipeE q is) is)
  | _ => .no) else .no
def yes : M Bool := M.ret true
theorem wipe_get {st : L2.St} {j : Nat} : ∀ {is : List Nat}, (wipe st is)[j]? = if j ∈ is then (if j < st.length then some none else none) else st[j]?
  | [] => by simp [wipe]
  | i :: is => by
    unfold wipe
    by_cases e : i = j
    · subst e
      rw [if_pos (List.mem_cons_self), List.getElem?_set_self']
      by_cases hl : i < st.length
      · rw [if_pos hl, List.getElem?_eq_getElem (by rw [wipe_length]; exact hl)]
        rfl
      · rw [if_neg hl, List.getElem?_eq_none (by rw [wipe_length]; omega)]
        rfl
    · rw [List.getElem?_set_ne e, wipe_get (is := is)]
      have : (j ∈ i :: is) ↔ j ∈ is := by
        rw [List.mem_cons]
        exact ⟨fun h => h.elim (fun z => absurd z.symm e) id, .inr⟩
      by_cases hj : j ∈ is
      · rw [if_pos hj, if_pos (this.mpr hj)]
      · rw [if_neg hj, if_neg (fun z => hj (this.mp z))]
theorem wipeE_len (r : En) : ∀ is : List Nat, (wipeE r is).length = r.length
  | [] => rfl
  | i :: is => by
    unfold wipeE
    rw [List.length_set, wipeE_len r is]
theorem backE_len (r q : En) : ∀ is : List Nat, (backE r q is).length = q.length
  | [] => rfl
  | i :: is => by
    unfold backE
    rw [List.length_set, backE_len r q is]
theorem backE_get {r q : En} {j : Nat} : ∀ {is : List Nat}, (backE r q is)[j]? = if j ∈ is then (if j < q.length then some (r.getD j .unk) else none) else q[j]?
  | [] => by simp [backE]
  | i :: is => by
    unfold backE
    by_cases e : i = j
    · subst e
      rw [if_pos (List.mem_cons_self), List.getElem?_set_self']
      by_cases hl : i < q.length
      · rw [if_pos hl, List.getElem?_eq_getElem (by rw [backE_len]; exact hl)]
        rfl
      · rw [if_neg hl, List.getElem?_eq_none (by rw [backE_len]; omega)]
        rfl
    · rw [List.getElem?_set_ne e, backE_get (is := is)]
      have : (j ∈ i :: is) ↔ j ∈ is := by
        rw [List.mem_cons]
        exact ⟨fun h => h.elim (fun z => absurd z.symm e) id, .inr⟩
      by_cases hj : j ∈ is
      · rw [if_pos hj, if_pos (this.mpr hj)]
      · rw [if_neg hj, if_neg (fun z => hj (this.mp z))]
section
variable {K : PySem.W.Frag} {pa : Nat → Addr} {H0 F0 F H : Hp} {st : L2.St} {r : En}
omit [TabT] in
theorem Nob.wiped {a : Addr} (h : Nob H st r a) : ∀ is : List Nat, Nob H (wipe st is) (wipeE r is) a
  | [] => h
  | i :: is => (Nob.wiped h is).unk
theorem Ok.wiped (k : Ok K pa H0 F0 F H st r) : ∀ is : List Nat, Ok K pa H0 F0 F H (wipe st is) (wipeE r is)
  | [] => k
  | i :: is => (Ok.wiped k is).forget
/-- an object that is nobody's changes -/
theorem Ok.aside (k : Ok K pa H0 F0 F H st r) {p : Addr} {o : HO} (n0 : H0 p = none) (nF : F p = none) (nO : Nob H st r p) (tb : LamX.Tabs (TabT.T K) (upd H p o)) : Ok K pa H0 F0 F (upd H p o) st r where
  hH := k.hH.mut n0
  fF := k.fF
  fH := k.fH.mut nF
  sep := k.sep
  len := k.len
  sl := fun i s h n => by
    obtain ⟨v, h1, h2⟩ := k.sl i s h n
    refine ⟨v, h1, ?_⟩
    cases s with
    | unk => trivial
    | pin => exact h2
    | v d => exact h2
    | o ct =>
      obtain ⟨a, rfl, z1, z2, z3⟩ := h2
      obtain ⟨ne, ni⟩ := nO i _ ct a h rfl (by rw [h1])
      exact ⟨a, rfl, z1, z2, z3.mono (Ex.refl F) (upd_ne ne) fun b hb => upd_ne fun z => ni (z ▸ hb)⟩
    | io ct =>
      obtain ⟨rfl, z1, z2, z3⟩ := h2
      obtain ⟨ne, ni⟩ := nO i _ ct _ h rfl (by rw [h1])
      exact ⟨rfl, z1, z2, z3.mono (Ex.refl F) (upd_ne ne) fun b hb => upd_ne fun z => ni (z ▸ hb)⟩
  tb := tb
  dis := k.dis
  inn := fun i s c a b h1 h2 h3 h4 => by
    obtain ⟨f1, f2, f3⟩ := k.inn i s c a b h1 h2 h3 (h4.cg (upd_ne (nO i s c a h1 h2 h3).1).symm)
    exact ⟨f1, f2, fun j q c' a' g1 g2 g3 => by
      obtain ⟨y1, y2⟩ := f3 j q c' a' g1 g2 g3
      exact ⟨y1, fun nj n => y2 nj (n.cg (upd_ne (nO j q c' a' g1 g2 g3).1).symm)⟩⟩
/-- the block's end -/
theorem Ok.back (k : Ok K pa H0 F0 F H st r) {F' H' : Hp} {q : En} {is : List Nat} (hn : noOwn r is = true) (e : Ex F F') (k2 : Ok K pa H0 F0 F' H' (wipe st is) (wipeE q is)) : Ok K pa H0 F0 F' H' st (backE r (wipeE q is) is) := by
  have l1 : st.length = q.length := by
    have := k2.len
    rw [wipe_length, wipeE_len] at this
    exact this
  have l2 := k.len
  have own : ∀ (j : Nat) (s : Sl) (c : Ct), (backE r (wipeE q is) is)[j]? = some s → s.own = some c → j ∉ is ∧ (wipeE q is)[j]? = some s := fun j s c h hc => by
    rw [backE_get] at h
    by_cases hj : j ∈ is
    · rw [if_pos hj] at h
      have hz := List.all_eq_true.mp hn j hj
      split at h
      · cases h
        rw [List.getD_eq_getElem?_getD] at hc
        cases hr : r[j]? with
        | none =>
          rw [hr] at hz
          cases hz
        | some x =>
          rw [hr] at hz hc
          have hz : x.own.isNone = true := hz
          have hc : x.own = some c := hc
          rw [hc] at hz
          cases hz
      · cases h
    · rw [if_neg hj] at h
      exact ⟨hj, h⟩
  refine ⟨k2.hH, k2.fF, k2.fH, k2.sep, by rw [backE_len, wipeE_len]; exact l1, fun j s h n => ?_, k2.tb, fun i j s q2 c c' a ne h1 h2 o1 o2 s1 s2 => ?_, fun i s c a b h1 h2 h3 h4 => ?_⟩
  · by_cases hj : j ∈ is
    · rw [backE_get, if_pos hj] at h
      split at h
      · cases h
        rw [List.getD_eq_getElem?_getD] at n ⊢
        have hz := List.all_eq_true.mp hn j hj
        cases hr : r[j]? with
        | none =>
          rw [hr] at hz
          cases hz
        | some x =>
          rw [hr] at n
          have n : x ≠ .unk := n
          obtain ⟨v, z1, z2⟩ := k.sl j x hr n
          refine ⟨v, z1, ?_⟩
          rw [hr] at hz
          show SlOk K (pa j) H0 F' H' v x
          cases x with
          | unk => trivial
          | pin => exact z2
          | v d => exact dp_mono e z2
          | o ct => cases hz
          | io ct => cases hz
      · cases h
    · have h2 := h
      rw [backE_get, if_neg hj] at h2
      obtain ⟨v, z1, z2⟩ := k2.sl j s h2 n
      rw [wipe_get, if_neg hj] at z1
      exact ⟨v, z1, z2⟩
  · obtain ⟨g1, g2⟩ := own i s c h1 o1
    obtain ⟨g3, g4⟩ := own j q2 c' h2 o2
    exact k2.dis i j s q2 c c' a ne g2 g4 o1 o2 (by rw [wipe_get, if_neg g1]; exact s1) (by rw [wipe_get, if_neg g3]; exact s2)
  · obtain ⟨g1, g2⟩ := own i s c h1 h2
    obtain ⟨f1, f2, f3⟩ := k2.inn i s c a b g2 h2 (by rw [wipe_get, if_neg g1]; exact h3) h4
    refine ⟨f1, f2, fun j q2 c' a' w1 w2 w3 => ?_⟩
    obtain ⟨g3, g4⟩ := own j q2 c' w1 w2
    exact f3 j q2 c' a' g4 w2 (by rw [wipe_get, if_neg g3]; exact w3)
end
theorem wipe_eq {st st' : L2.St} {is : List Nat} (hl : st'.length = st.length) (h : ∀ j, j ∉ is → st'[j]? = (wipe st is)[j]?) : wipe st' is = wipe st is := by
  apply List.ext_getElem?
  intro j
  rw [wipe_get]
  by_cases hj : j ∈ is
  · rw [if_pos hj, wipe_get, if_pos hj, hl]
  · rw [if_neg hj, h j hj]
theorem compL_cons {is : List Nat} {tg : Tg} {tt : M Bool} {te : M D} {x : D} {xs acc ys : List D} {r q : En} (h : compL is tg tt te (x :: xs) acc r = .ok ys q) :
    ∃ r1, tg x (wipeE r is) = some r1 ∧ ((∃ r2 y r3, tt r1 = .ok true r2 ∧ te r2 = .ok y r3 ∧ acc.length < 16777216 ∧ compL is tg tt te xs (acc ++ [y]) r3 = .ok ys q) ∨ ∃ r2, tt r1 = .ok false r2 ∧ compL is tg tt te xs acc r2 = .ok ys q) := by
  unfold compL at h
  split at h
  · cases h
  · rename_i r1 h1
    refine ⟨r1, h1, ?_⟩
    split at h
    · rename_i r2 h2
      split at h
      · rename_i y r3 h3
        split at h
        · exact .inl ⟨r2, y, r3, h2, h3, by assumption, h⟩
        · cases h
      · cases h
    · rename_i r2 h2
      exact .inr ⟨r2, h2, h⟩
    · cases h
abbrev Cc.nox (c : Cc) : Cc := { c with W := fun _ _ _ _ => False }
section
variable {X : Cx} {c : Cc}
/-- the block's reading from the mirror -/
theorem lc_ok {src : M (List D)} {is js : List Nat} {t : Tg} {tt : M Bool} {te : M D} {st : L2.St} {H : Hp} {Q : VK} (hjs : ∀ j ∈ js, j ∈ is) (h : tO c (oComp src is t tt te) st H Q) :
    tLc (iM c src) (gM c.K js t) (tT c.nox tt) (tM c.nox te) is st H Q := by
  obtain ⟨pa, H0, F0, F, r, ok, po⟩ := h
  refine ⟨pa, H0, F0, F, r, ok, (Po.bind po).mono (fun _ _ x => x) fun xs r1 q F1 H1 J k1 e1 y Dd nD => ?_⟩
  by_cases hn : noOwn r1 is = true
  case neg =>
    rw [if_neg hn] at q
    exact q.elim
  rw [if_pos hn] at q
  cases hcl : compL is t tt te xs [] r1 with
  | no =>
    rw [hcl] at q
    exact q.elim
  | ex ee rr =>
    rw [hcl] at q
    exact q.elim
  | ok ys qe =>
    rw [hcl] at q
    have n0 : H0 Dd = none := k1.hH.nn nD
    have nF1 : F1 Dd = none := k1.fH.nn nD
    have nF0 : F0 Dd = none := k1.fF.nn nF1
    have kw := (k1.wiped is)
    refine ⟨fun i m H => i + m = xs.length ∧ ∃ F' q acc vs, Ok c.K pa H0 F0 F' H (wipe st is) (wipeE q is) ∧ Ex F1 F' ∧ H Dd = some (.lst vs) ∧ RpAll c.K F' vs acc ∧ F' Dd = none ∧ Nob H (wipe st is) (wipeE q is) Dd ∧ compL is t tt te (xs.drop i) acc q = .ok ys qe,
      ⟨xs.length, by omega, F1, r1, [], [], kw.aside n0 nF1 (kw.nobody nD) (tabs_new kw.tb nD), Ex.refl F1, upd_same, .nil, nF1, (kw.nobody nD).upd, hcl⟩, fun i m H hW => ?_⟩
    obtain ⟨hm, F', q', acc, vs, k, e, hD, hv, nF, nO, hc⟩ := hW
    by_cases hl : i < xs.length
    · have hx : xs[i]? = some xs[i] := List.getElem?_eq_getElem hl
      rw [drop_cons hx] at hc
      obtain ⟨r2, ht, hrest⟩ := compL_cons hc
      refine .inr ⟨y.go i H hl (e.trans k.fH), fun H2 => ∃ F' q acc vs, Ok c.K pa H0 F0 F' H2 (wipe st is) (wipeE q is) ∧ Ex F1 F' ∧ H2 Dd = some (.lst vs) ∧ RpAll c.K F' vs acc ∧ F' Dd = none ∧ Nob H2 (wipe st is) (wipeE q is) Dd ∧ compL is t tt te (xs.drop (i + 1)) acc q = .ok ys qe,
        fun H2 z => ⟨m - 1, by omega, by omega, z⟩, fun x H2 hy => ?_⟩
      -- the frame with the list that is made
      have kf : Ok c.K pa (upd H0 Dd (.lst vs)) F0 F' H (wipe st is) (wipeE q' is) := k.frame ⟨fun a o z nt => by
          by_cases ha : a = Dd
          · subst ha
            rw [upd_same] at z
            rw [hD]
            exact z
          · rw [upd_ne ha] at z
            exact k.hH.at_ a o z nt, fun a ps z => by
          by_cases ha : a = Dd
          · subst ha
            rw [upd_same] at z
            cases z
          · rw [upd_ne ha] at z
            exact k.hH.tb a ps z⟩ (fun a z1 z2 => by
          by_cases ha : a = Dd
          · subst ha
            exact absurd nF z2
          · rw [upd_ne ha] at z1
            exact k.sep a z1 z2) (fun j s ct a hj hct hst => by
          obtain ⟨na, ni⟩ := nO j s ct a hj hct hst
          rw [upd_ne na]
          obtain ⟨a', g1, g2, g3, g4⟩ := k.ownd hj hct
          rw [hst] at g1
          cases g1
          exact ⟨g3, fun b hb => by
            have nb : b ≠ Dd := fun z => ni (z ▸ hb)
            rw [upd_ne nb]
            exact (k.inn j s ct a b hj hct hst hb).2.1⟩)
      obtain ⟨F2, k2, e2, dp2⟩ := y.step kf e hx hy
      -- back to the old frame
      have unframe : ∀ {F3 H3 : Hp} {st3 : L2.St} {r3 : En}, Ok c.K pa (upd H0 Dd (.lst vs)) F0 F3 H3 st3 r3 → Ok c.K pa H0 F0 F3 H3 st3 r3 ∧ H3 Dd = some (.lst vs) ∧ F3 Dd = none ∧ Nob H3 st3 r3 Dd := fun {F3 H3 st3 r3} k3 => by
        have h0 : Ex H0 (upd H0 Dd (.lst vs)) := Ex.new n0
        refine ⟨k3.frame (h0.trans k3.hH) (fun a z1 z2 => k3.sep a (by
          cases hz : H0 a with
          | none => exact absurd hz z1
          | some o => exact (h0.some hz).elim fun _ q => ne_none q) z2) (fun j s ct a hj hct hst => ?_), k3.hH.at_ Dd _ upd_same (fun ps z => nomatch z), none_of_not fun z => k3.sep Dd (ne_none upd_same) z nF0, fun j s ct a hj hct hst => ⟨?_, ?_⟩⟩
        · obtain ⟨a', g1, g2, g3, g4⟩ := k3.ownd hj hct
          rw [hst] at g1
          cases g1
          exact ⟨h0.nn g3, fun b hb => h0.nn (k3.inn j s ct a b hj hct hst hb).2.1⟩
        · obtain ⟨a', g1, g2, g3, g4⟩ := k3.ownd hj hct
          rw [hst] at g1
          cases g1
          intro z
          subst z
          rw [upd_same] at g3
          cases g3
        · intro z
          have g3 := (k3.inn j s ct a Dd hj hct hst z).2.1
          rw [upd_same] at g3
          cases g3
      refine ⟨pa, _, F0, F2, _, xs[i], r2, k2, dp2, ht, fun st3 k3 ag => ?_⟩
      have hw : wipe st3 is = wipe st is := wipe_eq (by rw [ag.1, wipe_length]) fun j hj => ag.2 j fun z => hj (hjs j z)
      refine ⟨hw, ?_⟩
      rcases hrest with ⟨r3, yv, r4, h1, h2, h3, h4⟩ | ⟨r3, h1, h4⟩
      · refine ⟨pa, _, F0, F2, r2, k3, ?_⟩
        rw [h1]
        intro F4 H4 k4 e4
        show tM c.nox te st3 H4 _
        refine ⟨pa, _, F0, F4, r3, k4, ?_⟩
        rw [h2]
        intro F5 H5 v k5 e5 dp5
        obtain ⟨k6, hD6, nF6, nO6⟩ := unframe k5
        refine ⟨vs, hD6, by rw [dpa_len hv, sizeLine_eq]; exact h3, F5, r4, acc ++ [yv], vs ++ [v], ?_, ((e.trans e2).trans e4).trans e5, upd_same, dpa_app (dpa_mono ((e2.trans e4).trans e5) hv) (.cons dp5 .nil), nF6, ?_, h4⟩
        · have k7 := (k6.aside n0 nF6 nO6 (o := .lst (vs ++ [v])) (tabs_lst k6.tb hD6)).wiped is
          rw [hw] at k7
          exact k7
        · rw [← hw]
          exact (nO6.wiped is).upd
      · refine ⟨pa, _, F0, F2, r2, k3, ?_⟩
        rw [h1]
        intro F4 H4 k4 e4
        obtain ⟨k6, hD6, nF6, nO6⟩ := unframe k4
        show ∃ F' q acc vs, _
        refine ⟨F4, r3, acc, vs, ?_, (e.trans e2).trans e4, hD6, dpa_mono (e2.trans e4) hv, nF6, ?_, h4⟩
        · have k7 := k6.wiped is
          rw [hw] at k7
          exact k7
        · rw [← hw]
          exact nO6.wiped is
    · have ei : i = xs.length := by omega
      subst ei
      rw [List.drop_length] at hc
      cases hc
      have kb := k1.back hn e k
      refine .inl ⟨y.stop H (e.trans k.fH), q F' H _ kb (e1.trans e) ⟨Dd, rfl, nF, n0, ⟨vs, hD, hv⟩, .l fun j s ct a hj hct hst => ?_⟩⟩
      rw [backE_get] at hj
      by_cases hji : j ∈ is
      · rw [if_pos hji] at hj
        split at hj
        · cases hj
          have hz := List.all_eq_true.mp hn j hji
          rw [List.getD_eq_getElem?_getD] at hct
          cases hr : r1[j]? with
          | none =>
            rw [hr] at hz
            cases hz
          | some x =>
            rw [hr] at hz hct
            have hz : x.own.isNone = true := hz
            have hct : x.own = some ct := hct
            rw [hct] at hz
            cases hz
        · cases hj
      · rw [if_neg hji] at hj
        exact nO j s ct a hj hct (by rw [wipe_get, if_neg hji]; exact hst)
theorem o_lc {elt tg iter : Expr} {ifs : List Expr} {scope : Scope} {own : List (Str × Nat)} {pos : Pos} {src : M (List D)} {js : List Nat} {t : Tg} {tt : M Bool} {te : M D} (hi : PI X tg iter (iM c src)) (ok : BlkOk X.N X.env.scope scope own)
    (hg : ∀ (s : Shared) (H : Hp) (C : Addr) (cl : List (Str × Addr)) (fp : List Addr), PG (X.blk s H scope (compEnvC scope cl C X.env) fp) tg (gM c.K js t)) (ht : ∀ (s : Shared) (H : Hp) (C : Addr) (cl : List (Str × Addr)) (fp : List Addr), PTs (X.blk s H scope (compEnvC scope cl C X.env) fp) ifs (tT c.nox tt))
    (he : ∀ (s : Shared) (H : Hp) (C : Addr) (cl : List (Str × Addr)) (fp : List Addr), PE (X.blk s H scope (compEnvC scope cl C X.env) fp) elt (tM c.nox te)) (hN : X.N.Nodup) (hjs : ∀ j ∈ js, j ∈ own.map (·.2) := by decide) (hc : X.calm = true := by rfl) (hs : ∀ x, foldedSetIterable iter X.env x = pure x := by intro _; rfl) :
    PE X (.ListComp elt [⟨tg, iter, ifs, 0⟩] scope pos) (tO c (oComp src (own.map (·.2)) t tt te)) :=
  pe_cq (pe_lc hc hN hi ok hg ht he hs) fun st H Q h => lc_ok hjs h
theorem ts_nil : PTs X [] (tT c yes) := ⟨fun pins s st H Q I h => (pts_nil (X := X)).run pins s st H Q I (by
  obtain ⟨pa, H0, F0, F, r, ok, po⟩ := h
  exact po F H ok (Ex.refl F))⟩
theorem ts_one {e : Expr} {m : M Bool} (h : PT X e (tT c m)) : PTs X [e] (tT c m) := pts_one h
end
end Pu
namespace Pu
open PySem PySem.Spec PyProof.Rows L2
variable [TabT]
/-! ### what a def promises -/
def ArgsOk (rs : List Sl) : Prop := ∀ s ∈ rs, (∃ d, s = .v d) ∨ ∃ ct, s = .io ct
def spG (K : PySem.W.Frag) (mg : Str → Option Value) (n : Nat) (f : List Sl → Re RV) : Sp := fun vs H Q E => vs.length = n ∧ ∃ pa Hk F rs, Ok K pa Hk F F H (vs.map some) rs ∧ ArgsOk rs ∧
  Po (fun e rs' => ∀ F' H' cls dd, Ok K pa Hk F F' H' (vs.map some) rs' → ExOk ⟨K, mg, fun _ _ _ _ => True⟩ F' H' e cls dd → E cls dd H') (f rs)
    fun rv rs' => ∀ F' H' v, Ok K pa Hk F F' H' (vs.map some) rs' → RvOk K Hk F' H' (vs.map some) rs' v rv → Q v H'
def backA : List Sl → En → Option (List Sl)
  | [], _ => some []
  | .io _ :: ss, .io ct :: q => (backA ss q).map fun z => .io ct :: z
  | .io _ :: _, _ => none
  | .pin :: _, _ => none
  | s :: ss, _ :: q => (backA ss q).map fun z => s :: z
  | _ :: _, [] => none
def backR {α : Type} (rs : List Sl) (x : Re α) : Re α := match x with
  | .ok a r => (match backA rs r with
    | some z => .ok a z
    | none => .no)
  | .ex e r => (match backA rs r with
    | some z => .ex e z
    | none => .no)
  | .no => .no
def flRv : M Fl → M RV := fun m r => match m r with
  | .ok (.rt rv) r => .ok rv r
  | .ok .nx r => .ok (.v .none) r
  | .ok _ _ => .no
  | .ex e r => .ex e r
  | .no => .no
/-- a def: n slots, its body -/
@[irreducible] def fnOf (n : Nat) (m : M Fl) : List Sl → Re RV := fun rs => backR rs (flRv m (rs ++ List.replicate (n - rs.length) .unk))
theorem backA_len : ∀ {rs : List Sl} {q : En} {z : List Sl}, backA rs q = some z → z.length = rs.length
  | [], _, _, h => by
    cases h
    rfl
  | .io _ :: ss, .io ct :: q, z, h => by
    have h : (backA ss q).map (fun z => Sl.io ct :: z) = some z := h
    cases hb : backA ss q with
    | none =>
      rw [hb] at h
      cases h
    | some y =>
      rw [hb] at h
      cases h
      exact congrArg Nat.succ (backA_len hb)
  | .io _ :: _, .unk :: _, _, h => by cases h
  | .io _ :: _, .v _ :: _, _, h => by cases h
  | .io _ :: _, .o _ :: _, _, h => by cases h
  | .io _ :: _, .pin :: _, _, h => by cases h
  | .io _ :: _, [], _, h => by cases h
  | .unk :: ss, _ :: q, z, h => by
    have h : (backA ss q).map (fun z => Sl.unk :: z) = some z := h
    cases hb : backA ss q with
    | none =>
      rw [hb] at h
      cases h
    | some y =>
      rw [hb] at h
      cases h
      exact congrArg Nat.succ (backA_len hb)
  | .v d :: ss, _ :: q, z, h => by
    have h : (backA ss q).map (fun z => Sl.v d :: z) = some z := h
    cases hb : backA ss q with
    | none =>
      rw [hb] at h
      cases h
    | some y =>
      rw [hb] at h
      cases h
      exact congrArg Nat.succ (backA_len hb)
  | .o d :: ss, _ :: q, z, h => by
    have h : (backA ss q).map (fun z => Sl.o d :: z) = some z := h
    cases hb : backA ss q with
    | none =>
      rw [hb] at h
      cases h
    | some y =>
      rw [hb] at h
      cases h
      exact congrArg Nat.succ (backA_len hb)
  | .unk :: _, [], _, h => by cases h
  | .pin :: _, _, _, h => by cases h
  | .v _ :: _, [], _, h => by cases h
  | .o _ :: _, [], _, h => by cases h
/-- place by place: the caller's object as it is now, all else as it was -/
theorem backA_get : ∀ {rs : List Sl} {q : En} {z : List Sl}, backA rs q = some z → ∀ (i : Nat) (s : Sl), z[i]? = some s → (∃ ct ct', rs[i]? = some (.io ct) ∧ s = .io ct' ∧ q[i]? = some (.io ct')) ∨ (rs[i]? = some s ∧ s.isIo = false)
  | [], _, _, h, i, s, hs => by
    cases h
    cases hs
  | .io c0 :: ss, .io ct :: q, z, h, i, s, hs => by
    have h : (backA ss q).map (fun z => Sl.io ct :: z) = some z := h
    cases hb : backA ss q with
    | none =>
      rw [hb] at h
      cases h
    | some y =>
      rw [hb] at h
      cases h
      cases i with
      | zero =>
        cases hs
        exact .inl ⟨c0, ct, rfl, rfl, rfl⟩
      | succ i => exact backA_get hb i s hs
  | .io _ :: _, .unk :: _, _, h, _, _, _ => by cases h
  | .io _ :: _, .v _ :: _, _, h, _, _, _ => by cases h
  | .io _ :: _, .o _ :: _, _, h, _, _, _ => by cases h
  | .io _ :: _, .pin :: _, _, h, _, _, _ => by cases h
  | .io _ :: _, [], _, h, _, _, _ => by cases h
  | .unk :: ss, _ :: q, z, h, i, s, hs => by
    have h : (backA ss q).map (fun z => Sl.unk :: z) = some z := h
    cases hb : backA ss q with
    | none =>
      rw [hb] at h
      cases h
    | some y =>
      rw [hb] at h
      cases h
      cases i with
      | zero =>
        cases hs
        exact .inr ⟨rfl, rfl⟩
      | succ i => exact backA_get hb i s hs
  | .v d :: ss, _ :: q, z, h, i, s, hs => by
    have h : (backA ss q).map (fun z => Sl.v d :: z) = some z := h
    cases hb : backA ss q with
    | none =>
      rw [hb] at h
      cases h
    | some y =>
      rw [hb] at h
      cases h
      cases i with
      | zero =>
        cases hs
        exact .inr ⟨rfl, rfl⟩
      | succ i => exact backA_get hb i s hs
  | .o d :: ss, _ :: q, z, h, i, s, hs => by
    have h : (backA ss q).map (fun z => Sl.o d :: z) = some z := h
    cases hb : backA ss q with
    | none =>
      rw [hb] at h
      cases h
    | some y =>
      rw [hb] at h
      cases h
      cases i with
      | zero =>
        cases hs
        exact .inr ⟨rfl, rfl⟩
      | succ i => exact backA_get hb i s hs
  | .unk :: _, [], _, h, _, _, _ => by cases h
  | .pin :: _, _, _, h, _, _, _ => by cases h
  | .v _ :: _, [], _, h, _, _, _ => by cases h
  | .o _ :: _, [], _, h, _, _, _ => by cases h
section
variable {K : PySem.W.Frag} {pa : Nat → Addr} {Hk F F' H H' : Hp} {vs : List V} {rs : List Sl} {st' : L2.St} {r' : En}
/-- the arguments behind the call -/
theorem Ok.ended (k : Ok K pa Hk F F H (vs.map some) rs) (ao : ArgsOk rs) (k' : Ok K pa Hk F F' H' st' r') {z : List Sl} (hz : backA rs r' = some z) : Ok K pa Hk F F' H' (vs.map some) z where
  hH := k'.hH
  fF := k'.fF
  fH := k'.fH
  sep := k'.sep
  len := by rw [k.len, backA_len hz]
  sl := fun i s hs n => by
    rcases backA_get hz i s hs with ⟨ct, ct', h1, rfl, h2⟩ | ⟨h1, h2⟩
    · obtain ⟨v, g1, g2⟩ := k.sl i _ h1 (fun z => nomatch z)
      obtain ⟨w, g3, g4⟩ := k'.sl i _ h2 (fun z => nomatch z)
      obtain ⟨rfl, _⟩ := g2
      obtain ⟨rfl, g5⟩ := g4
      exact ⟨_, g1, rfl, g5⟩
    · obtain ⟨v, g1, g2⟩ := k.sl i s h1 n
      refine ⟨v, g1, ?_⟩
      rcases ao s (List.mem_of_getElem? h1) with ⟨d, rfl⟩ | ⟨ct, rfl⟩
      · exact dp_mono k'.fF g2
      · cases h2
  tb := k'.tb
  dis := fun i j s q c c' a ne h1 h2 o1 o2 s1 s2 => by
    have orig : ∀ (j : Nat) (s : Sl) (c : Ct), z[j]? = some s → s.own = some c → ∃ s' c', rs[j]? = some s' ∧ s'.own = some c' := fun j s c hj hc => by
      rcases backA_get hz j s hj with ⟨ct, ct', h1, rfl, h2⟩ | ⟨h1, h2⟩
      · exact ⟨_, ct, h1, rfl⟩
      · exact ⟨s, c, h1, hc⟩
    obtain ⟨s', c1, g1, g2⟩ := orig i s c h1 o1
    obtain ⟨q', c2, g3, g4⟩ := orig j q c' h2 o2
    exact k.dis i j s' q' c1 c2 a ne g1 g3 g2 g4 s1 s2
  inn := fun i s c a b h1 h2 h3 h4 => by
    have now : ∀ (j : Nat) (s : Sl) (c : Ct) (a : Addr), z[j]? = some s → s.own = some c → (vs.map some)[j]? = some (some (.ref a)) → r'[j]? = some s ∧ st'[j]? = some (some (.ref a)) := fun j s c a hj hc hst => by
      rcases backA_get hz j s hj with ⟨ct, ct', h1, rfl, h2⟩ | ⟨h1, h2⟩
      · obtain ⟨v, g1, g2⟩ := k.sl j _ h1 (fun z => nomatch z)
        obtain ⟨w, g3, g4⟩ := k'.sl j _ h2 (fun z => nomatch z)
        obtain ⟨rfl, _⟩ := g2
        obtain ⟨rfl, g5⟩ := g4
        rw [g1] at hst
        cases hst
        exact ⟨h2, g3⟩
      · rcases ao s (List.mem_of_getElem? h1) with ⟨d, rfl⟩ | ⟨ct, rfl⟩
        · cases hc
        · cases h2
    obtain ⟨w1, w2⟩ := now i s c a h1 h2 h3
    obtain ⟨f1, f2, f3⟩ := k'.inn i s c a b w1 h2 w2 h4
    refine ⟨f1, f2, fun j q c' a' y1 y2 y3 => ?_⟩
    obtain ⟨w3, w4⟩ := now j q c' a' y1 y2 y3
    exact f3 j q c' a' w3 y2 w4
theorem RvOk.ended (k : Ok K pa Hk F F H (vs.map some) rs) (ao : ArgsOk rs) (k' : Ok K pa Hk F F' H' st' r') {z : List Sl} (hz : backA rs r' = some z) {v : V} {rv : RV} (h : RvOk K Hk F' H' st' r' v rv) : RvOk K Hk F' H' (vs.map some) z v rv := by
  cases rv with
  | v d => exact h
  | o ct =>
    obtain ⟨a, rfl, z1, z2, z3, z4⟩ := h
    have key : ∀ b, Nob H' st' r' b → Nob H' (vs.map some) z b := fun b hb i s c a hs hc hst => by
      rcases backA_get hz i s hs with ⟨ct0, ct', h1, rfl, h2⟩ | ⟨h1, h2⟩
      · obtain ⟨v, g1, g2⟩ := k.sl i _ h1 (fun z => nomatch z)
        obtain ⟨w, g3, g4⟩ := k'.sl i _ h2 (fun z => nomatch z)
        obtain ⟨rfl, _⟩ := g2
        obtain ⟨rfl, g5⟩ := g4
        rw [hst] at g1
        cases g1
        exact hb i _ c _ h2 hc g3
      · rcases ao s (List.mem_of_getElem? h1) with ⟨d, rfl⟩ | ⟨ct, rfl⟩
        · cases hc
        · cases h2
    exact ⟨a, rfl, z1, z2, z3, key a z4.1, fun b hb => by
      obtain ⟨g1, g2, g3, g4⟩ := z4.2 b hb
      exact ⟨g1, g2, g3, key b g4⟩⟩
/-- the slots at the start -/
theorem Ok.begin (k : Ok K pa Hk F F H (vs.map some) rs) (n : Nat) : Ok K pa Hk F F H (vs.map some ++ List.replicate n none) (rs ++ List.replicate n .unk) := by
  have hl : vs.length = rs.length := by
    have := k.len
    rw [List.length_map] at this
    exact this
  have get : ∀ (i : Nat) (s : Sl), (rs ++ List.replicate n Sl.unk)[i]? = some s → s ≠ .unk → rs[i]? = some s ∧ i < rs.length := fun i s h ne => by
    by_cases hi : i < rs.length
    · rw [List.getElem?_append_left hi] at h
      exact ⟨h, hi⟩
    · rw [List.getElem?_append_right (by omega), List.getElem?_replicate] at h
      split at h
      · cases h
        exact absurd rfl ne
      · cases h
  refine ⟨k.hH, k.fF, k.fH, k.sep, by simp [hl], fun i s h ne => ?_, k.tb, fun i j s q c c' a ne h1 h2 o1 o2 s1 s2 => ?_, fun i s c a b h1 h2 h3 h4 => ?_⟩
  · obtain ⟨h1, h2⟩ := get i s h ne
    obtain ⟨v, g1, g2⟩ := k.sl i s h1 ne
    exact ⟨v, by rw [List.getElem?_append_left (by rw [List.length_map]; omega)]; exact g1, g2⟩
  · obtain ⟨g1, l1⟩ := get i s h1 (by intro z; subst z; cases o1)
    obtain ⟨g2, l2⟩ := get j q h2 (by intro z; subst z; cases o2)
    rw [List.getElem?_append_left (by rw [List.length_map]; omega)] at s1 s2
    exact k.dis i j s q c c' a ne g1 g2 o1 o2 s1 s2
  · obtain ⟨g1, l1⟩ := get i s h1 (by intro z; subst z; cases h2)
    rw [List.getElem?_append_left (by rw [List.length_map]; omega)] at h3
    obtain ⟨f1, f2, f3⟩ := k.inn i s c a b g1 h2 h3 h4
    refine ⟨f1, f2, fun j q c' a' w1 w2 w3 => ?_⟩
    obtain ⟨g2, l2⟩ := get j q w1 (by intro z; subst z; cases w2)
    rw [List.getElem?_append_left (by rw [List.length_map]; omega)] at w3
    exact f3 j q c' a' g2 w2 w3
end
abbrev ccOf (K : PySem.W.Frag) (mg : Str → Option Value) (E : XK) : Cc := ⟨K, mg, fun cls d _ H => E cls d H⟩
/-! ### room, with no guard of a text under way -/
/-- a frame of a def: no generator -/
structure Tpe (env : Env) : Prop where
  gen : env.scope.isGenerator = false
  co : env.scope.isCoroutine = false
  bl : env.builtins = builtinsNs
  gl : env.globals = mainGlobals
/-- the room of a caller -/
structure RmC (k : Nat) (A : Around) : Prop where
  room : Room k A
  gd : A.guards = some []
  dl : A.depth + 3 * k + 150 < recursionLimit
structure Rm (k : Nat) (A : Around) : Prop where
  room : Room k A
  gd : A.guards = some []
  dl : A.depth + 3 * k + 150 < recursionLimit
  top : ∃ env l, A.frames = some (env :: l) ∧ Tpe env
omit [TabT] in
theorem Rm.c {k : Nat} {A : Around} (r : Rm k A) : RmC k A := ⟨r.room, r.gd, r.dl⟩
omit [TabT] in
theorem RmC.deeper {k : Nat} {A : Around} {l : List Env} (r : RmC (k + 1) A) (hf : A.frames = some l) (env : Env) (t : Tpe env) : Rm k (A.deeper env) :=
  ⟨r.room.deeper _, r.gd, by have := r.dl; show A.depth + 1 + 3 * k + 150 < _; omega, ⟨env, l, by show A.frames.map _ = _; rw [hf]; rfl, t⟩⟩
omit [TabT] in
theorem Rm.deeper {k : Nat} {A : Around} (r : Rm (k + 1) A) (env : Env) (t : Tpe env) : Rm k (A.deeper env) := by
  obtain ⟨e0, l, hf, _⟩ := r.top
  exact r.c.deeper hf env t
theorem Rm.mono {j k : Nat} {A : Around} (r : Rm k A) (h : j ≤ k) : Rm j A := ⟨r.room.mono h, r.gd, by have := r.dl; omega, r.top⟩
theorem Rm.units {k : Nat} {A : Around} (r : Rm k A) : A.units + 64 < cLine := r.room.units
theorem Rm.u1 {k : Nat} {A : Around} (r : Rm k A) : A.units + 1 < cLine := by
  have := r.room.units
  omega
theorem Rm.in65 {k : Nat} {A : Around} (r : Rm k A) : A.units + 65 < cLine := by
  have := r.room.un
  omega
theorem Rm.u150 {k : Nat} {A : Around} (r : Rm k A) : A.units + 150 < cLine := by
  have := r.room.un
  omega
/-- what the heap at the start is like, where a long division may go by a module -/
structure SeerK (P : Program) (base : Heap) : Prop where
  tree : P.given.tree = none
  ns : base.NoSeer
/-- what a def does, where no guard is under way -/
structure FnG (P : Program) (w : World) (K : PySem.W.Frag) (mg : Str → Option Value) (base : Heap) (k : Nat) (f : Addr) (fd : FuncData) (ps : List Str) (sp : Sp) : Prop where
  len : ∀ us H Q E, sp us H Q E → us.length = ps.length
  run : ∀ (A : Around) (ou : List Env) (s : Shared) (H : Hp) (ar : Args) (us : List Value) (xs : List V) (Q : VK) (E : XK), RmC k A → Env0 P w K mg base A ou s H → BindsTo s fd ar (ps.zip us) → Vals xs us → sp xs H Q E → codeAny (model P w) A (.call (.ref f) ar) (CR (L2.CX P w) ou P w H s Q E) s
/-- cdv is the code of the def at f -/
def CodeAt (K : PySem.W.Frag) (f : Addr) (cdv : Value) : Prop := ∃ oc od fd osl, K.lookup f = some ⟨oc, od, .func fd, osl⟩ ∧ fd.code = cdv
theorem fnG_of {P : Program} {w : World} {K : PySem.W.Frag} {mg : Str → Option Value} {base : Heap} {x qual : Str} {params : Arguments} {body : List Stmt} {scope : Scope} {f : Addr} {fd : FuncData} {N ps : List Str} {k : Nat} {sp : Sp}
    (F : FunD K x qual params body scope [] [] f fd) (S : FnScope N ps scope) (len : ∀ us H Q E, sp us H Q E → us.length = ps.length)
    (hB : ∀ (cdv : Value) (A : Around) (ou : List Env) (s : Shared) (H : Hp) (xs : List V) (Q : VK) (E : XK), CodeAt K f cdv → Rm k (A.deeper (envOfC qual scope s.heap.objs.size f cdv)) → sp xs H Q E → ∃ t, PSs (cxOf (L2.CX P w) P w K mg base N qual scope f cdv A ou s H E) body t ∧ t { nx := fun _ G => Q .non G, rt := Q } (start N xs) H) :
    FnG P w K mg base (k + 1) f fd ps sp := by
  obtain ⟨oc, od, dV, kV, doc, pm, an, cdv, ct, osl, rfl, lk, hcd, -, -⟩ := F.ex
  refine ⟨len, fun A ou s H ar us xs Q E hr e0 hb rv hsp => ?_⟩
  have inK : K.In s.heap := e0.mod.kin.keeps fun c o q => (e0.bs c o q).1
  have nol : s.heap.NoLimit := e0.mod.nolimit.keeps fun c o q => (e0.bs c o q).1
  have kinds : ∀ y ∈ ps.zip us, scope.names.lookup y.1 = some .local ∨ (scope.names.lookup y.1 = some .cell ∧ ((cellsFrom (s.heap.objs.size + 1) scope.names []).lookup y.1).isSome = true) := fun y hy => (S.par y.1 (List.of_mem_zip (a := y.1) (b := y.2) hy).1).imp id fun q => ⟨q, PySem.W.cellsFrom_some _ _ _ (.inl q)⟩
  refine codeAny_call_function hr.room.depth (inK _ _ lk) rfl S.co S.gen rfl (PySem.W.codeRec_of inK hcd) (hb _ _ _ _ ?_)
  refine wpAny_newFunctionEnv_cells S.kind kinds fun env he s1 z => ?_
  subst he
  refine ⟨nol.keeps z.toInCall.keep, codeAny_func ?_⟩
  obtain ⟨t, ht, hq⟩ := hB cdv A ou s H xs Q E ⟨_, _, _, _, lk, rfl⟩ (hr.deeper e0.frames _ ⟨S.gen, S.co, rfl, rfl⟩) hsp
  have st0 : Inv (cxOf (L2.CX P w) P w K mg base N qual scope f cdv A ou s H E) [] (start N xs) H s1 := inv_start S hr.room.hd e0 (len _ _ _ _ hsp) rv z
  refine wpAny_mono (ht.run [] s1 _ H _ st0 hq) (fun fl s2 h => ?_) fun _ _ h => h
  cases fl with
  | ret u =>
    obtain ⟨v, _, H2, J, rv2, q⟩ := h
    exact ⟨v, H2, J.os, J.bare, J.base, J.hok, rv2, q⟩
  | next =>
    obtain ⟨_, H2, J, q⟩ := h
    exact ⟨.non, H2, J.os, J.bare, J.base, J.hok, rfl, q⟩
  | brk => exact h.elim fun _ h => h.elim fun _ h => h.2.elim
  | cont => exact h.elim fun _ h => h.elim fun _ h => h.2.elim
section
variable {X : Cx} {k : Nat} {f : Addr} {fd : FuncData} {ps : List Str} {sp : Sp} {Ew : L2.St → XK} {x : Str} {p pos : Pos} {e : Expr} {es : List Expr} {t : TA}
def tCallG (sp : Sp) (Ew : L2.St → XK) (t : TA) : TE := fun st H Q => t st H fun xs H1 => sp xs H1 Q (Ew st)
theorem runG {pins : List (Addr × Obj)} {st : L2.St} {H : Hp} {s : Shared} {Q : VK} {us : List Value} {xs : List V} (F : FnG X.prog X.w X.K X.mg X.base k f fd ps sp) (hr : Rm k X.A) (hb : Binds X.K fd ps []) (hx : PassesAt (L2.CX X.prog X.w) X st (Ew st)) (I : Inv X pins st H s) (rv : Vals xs us) (h : sp xs H Q (Ew st)) :
    wpAny (model X.prog X.w) X.A (call (.ref f) us) (EP X pins st Q) X.xe s := by
  have hb2 := hb s us I.kIn
  rw [List.append_nil] at hb2
  refine wpAny_call (codeAny_mono (F.run X.A X.stack s H ⟨us, []⟩ us xs Q (Ew st) hr.c I.env0 (hb2 (by rw [← rv.length]; exact F.len _ _ _ _ h)) rv h) fun o s2 q => ?_)
  rcases o with er | fl
  · exact hx pins H s er s2 I q
  · cases fl with
    | ret u => exact I.after q
    | next => exact False.elim q
    | brk => exact False.elim q
    | cont => exact False.elim q
theorem pe_callG (F : FnG X.prog X.w X.K X.mg X.base k f fd ps sp) (hr : Rm k X.A) (hg : Gl X x) (hm : X.mg x = some (.ref f)) (hk : PySem.W.keepIn X.K (.ref f) = true) (hb : Binds X.K fd ps []) (hx : ∀ st, PassesAt (L2.CX X.prog X.w) X st (Ew st)) (ha : PA X (e :: es) t)
    (hdb : (x == ("__debug__" : Str)) = false := by decide) (he : starEach (e :: es) X.env = (false, eval e X.env) :: starEach es X.env := by rfl) (hpl : (backTo pos (starEach es X.env)).any (·.1) = false := by rfl) : PE X (.Call (.Name x p) (e :: es) [] pos) (tCallG sp Ew t) :=
  ⟨fun pins s st H Q I h => wpAny_Call_Name_kw (ld_glob I hg hm (PySem.W.callWith_K (h₀ := X.base) I.ok.mod.kin hk (thn (ha.run pos pins s st H _ I h) fun us s1 ⟨xs, H1, I1, rv, q⟩ => ⟨I1.kIn, runG F hr hb (hx st) I1 rv q⟩) he hpl) hdb)⟩
end
/-- a def keeps its promise -/
theorem mk_fnC {P : Program} {w : World} {K : PySem.W.Frag} {mg : Str → Option Value} {base : Heap} {x qual : Str} {params : Arguments} {body : List Stmt} {scope : Scope} {f : Addr} {fd : FuncData} {N ps : List Str} {k : Nat} {m : M Fl}
    (F : FunD K x qual params body scope [] [] f fd) (S : FnScope N ps scope)
    (hb : ∀ (cdv : Value), CodeAt K f cdv → ∀ (A : Around) (outer : List Env) (s : Shared) (H : Hp) (E : XK), Rm k (A.deeper (envOfC qual scope s.heap.objs.size f cdv)) → PSs (cxOf (L2.CX P w) P w K mg base N qual scope f cdv A outer s H E) body (sM (ccOf K mg E) m)) :
    FnG P w K mg base (k + 1) f fd ps (spG K mg ps.length (fnOf N.length m)) := by
  refine fnG_of F S (fun vs H Q E h => h.1) fun cdv A outer s H vs Q E hc hr h => ⟨_, hb cdv hc A outer s H E hr, ?_⟩
  obtain ⟨hl, pa, Hk, F1, rs, ok, ao, po⟩ := h
  have hlr : rs.length = vs.length := by
    have := ok.len
    rw [List.length_map] at this
    exact this.symm
  have ok2 := ok.begin (N.length - vs.length)
  show sM (ccOf K mg E) m _ (vs.map some ++ List.replicate (N.length - vs.length) none) H
  refine ⟨pa, Hk, F1, F1, rs ++ List.replicate (N.length - vs.length) .unk, ok2, ?_⟩
  rw [← hlr]
  unfold fnOf flRv at po
  cases hm : m (rs ++ List.replicate (N.length - rs.length) .unk) with
  | no =>
    rw [hm] at po
    exact po.elim
  | ex e r1 =>
    rw [hm] at po
    intro F' H' st' cls dd k' e' xo
    have po : Po _ (backR rs (.ex e r1)) _ := po
    unfold backR at po
    cases hz : backA rs r1 with
    | none =>
      have po : Po _ (match backA rs r1 with
        | some z => (.ex e z : Re RV)
        | none => .no) _ := po
      rw [hz] at po
      exact po.elim
    | some z =>
      have po : Po _ (match backA rs r1 with
        | some z => (.ex e z : Re RV)
        | none => .no) _ := po
      rw [hz] at po
      exact po F' H' cls dd (ok.ended ao k' hz) xo
  | ok fl r1 =>
    rw [hm] at po
    have fin : ∀ rv, Po (fun e rs' => ∀ F' H' cls dd, Ok K pa Hk F1 F' H' (vs.map some) rs' → ExOk ⟨K, mg, fun _ _ _ _ => True⟩ F' H' e cls dd → E cls dd H') (backR rs (.ok rv r1)) (fun rv rs' => ∀ F' H' v, Ok K pa Hk F1 F' H' (vs.map some) rs' → RvOk K Hk F' H' (vs.map some) rs' v rv → Q v H') →
        ∀ F' H' st' v, Ok K pa Hk F1 F' H' st' r1 → RvOk K Hk F' H' st' r1 v rv → Q v H' := fun rv po F' H' st' v k' hv => by
      have po : Po _ (match backA rs r1 with
        | some z => (.ok rv z : Re RV)
        | none => .no) _ := po
      cases hz : backA rs r1 with
      | none =>
        rw [hz] at po
        exact po.elim
      | some z =>
        rw [hz] at po
        exact po F' H' v (ok.ended ao k' hz) (RvOk.ended ok ao k' hz hv)
    cases fl with
    | nx => exact fun F' H' st' k' e' => fin (.v .none) po F' H' st' .non k' .non
    | bk => exact po.elim
    | ct => exact po.elim
    | rt rv => exact fun F' H' st' v k' e' hv => fin rv po F' H' st' v k' hv
theorem mk_fn {P : Program} {w : World} {K : PySem.W.Frag} {mg : Str → Option Value} {base : Heap} {x qual : Str} {params : Arguments} {body : List Stmt} {scope : Scope} {f : Addr} {fd : FuncData} {N ps : List Str} {k : Nat} {m : M Fl}
    (F : FunD K x qual params body scope [] [] f fd) (S : FnScope N ps scope)
    (hb : ∀ (cdv : Value) (A : Around) (outer : List Env) (s : Shared) (H : Hp) (E : XK), Rm k (A.deeper (envOfC qual scope s.heap.objs.size f cdv)) → PSs (cxOf (L2.CX P w) P w K mg base N qual scope f cdv A outer s H E) body (sM (ccOf K mg E) m)) :
    FnG P w K mg base (k + 1) f fd ps (spG K mg ps.length (fnOf N.length m)) := mk_fnC F S fun cdv _ => hb cdv
/-! ### calls -/
/-- the def x of the text, its mirror -/
structure Fn (P : Program) (w : World) (K : PySem.W.Frag) (mg : Str → Option Value) (base : Heap) (k : Nat) (x : Str) (n : Nat) (f : List Sl → Re RV) : Prop where
  ex : ∃ (a : Addr) (fd : FuncData) (ps : List Str), mg x = some (.ref a) ∧ PySem.W.keepIn K (.ref a) = true ∧ Binds K fd ps [] ∧ FnG P w K mg base k a fd ps (spG K mg n f)
def cCall (f : List Sl → Re RV) (ms : M (List D)) : M RV := ms.bind fun ds r => match f (ds.map .v) with
  | .ok rv _ => .ok rv r
  | .ex e _ => .ex e r
  | .no => .no
def getC (i : Nat) (r : En) : Option Ct := (r[i]?).bind Sl.own
def putC (i : Nat) (ct : Ct) (r : En) : En := match r[i]? with
  | some s => r.set i (s.put ct)
  | none => r
/-- f(x, ..): the object x is the callee's to change -/
def cCallI (i : Nat) (f : List Sl → Re RV) (ms : M (List D)) : M RV := fun r => match getC i r with
  | none => .no
  | some _ => (ms r).bind fun ds r => match getC i r with
    | some ct => (match f (.io ct :: ds.map .v) with
      | .ok rv (.io ct' :: _) => .ok rv (putC i ct' r)
      | .ex e (.io ct' :: _) => .ex e (putC i ct' r)
      | _ => .no)
    | none => .no
section
variable {K : PySem.W.Frag} {pa : Nat → Addr} {H0 F0 F H : Hp} {st : L2.St} {r : En}
theorem getC_some {i : Nat} {r : En} {ct : Ct} (h : getC i r = some ct) : ∃ s, r[i]? = some s ∧ s.own = some ct := by
  unfold getC at h
  cases e : r[i]? with
  | none =>
    rw [e] at h
    cases h
  | some s =>
    rw [e] at h
    exact ⟨s, rfl, h⟩
theorem Ok.putC (k : Ok K pa H0 F0 F H st r) {i : Nat} {c c' : Ct} {a : Addr} {o : HO} (h : getC i r = some c) (ha : st[i]? = some (some (.ref a))) (new : CtOk K F (upd H a o) a c')
    (newI : ∀ b, Inn (upd H a o) a c' b → Inn H a c b ∨ (F b = none ∧ H0 b = none ∧ a ≠ b ∧ Nob H st r b) := by intro b hb; first | exact (inn_l hb).elim | exact (inn_d hb).elim | exact (inn_t hb).elim) : Ok K pa H0 F0 F (upd H a o) st (putC i c' r) := by
  obtain ⟨s, h1, h2⟩ := getC_some h
  unfold Pu.putC
  rw [h1]
  exact k.put h1 h2 ha new newI
theorem argsV {vs : List V} {ds : List D} (hr : RpAll K F vs ds) (fh : Ex F H) (tb : LamX.Tabs (TabT.T K) H) : Ok K pa H F F H (vs.map some) (ds.map Sl.v) where
  hH := Ex.refl H
  fF := Ex.refl F
  fH := fh
  sep := fun _ _ h => h
  len := by rw [List.length_map, List.length_map, dpa_len hr]
  sl := fun i s h n => by
    rw [List.getElem?_map] at h
    cases hd : ds[i]? with
    | none =>
      rw [hd] at h
      cases h
    | some d =>
      rw [hd] at h
      cases h
      obtain ⟨v, h1, h2⟩ := dpa_get hr hd
      exact ⟨v, by rw [List.getElem?_map, h1]; rfl, h2⟩
  tb := tb
  dis := fun i j s q c c' a ne h1 h2 o1 => by
    rw [List.getElem?_map] at h1
    cases hd : ds[i]? with
    | none =>
      rw [hd] at h1
      cases h1
    | some d =>
      rw [hd] at h1
      cases h1
      cases o1
  inn := fun i s c a b h1 h2 => by
    rw [List.getElem?_map] at h1
    cases hd : ds[i]? with
    | none =>
      rw [hd] at h1
      cases h1
    | some d =>
      rw [hd] at h1
      cases h1
      cases h2
/-- what a callee made is nobody's here -/
theorem Ok.awayC (k : Ok K pa H0 F0 F H st r) {F' H' : Hp} {st' : L2.St} {r' : En} {a : Addr} {c : Ct} (e : Ex H H') (n : H a = none) (w : ∀ b, Inn H' a c b → F' b = none ∧ H b = none ∧ a ≠ b ∧ Nob H' st' r' b) : Away H0 F' H' st r a c := by
  have key : ∀ b, H b = none → Nob H' st r b := fun b hb => (k.nobody hb).cg fun i s c2 a2 h1 h2 h3 => by
    obtain ⟨a3, z1, z2, z3, z4⟩ := k.ownd h1 h2
    rw [h3] at z1
    cases z1
    obtain ⟨o, ho, hnt⟩ := z4.there'
    exact (e.at_ _ o ho hnt).trans ho.symm
  exact ⟨key a n, fun b hb => by
    obtain ⟨g1, g2, g3, g4⟩ := w b hb
    exact ⟨g1, k.hH.nn g2, g3, key b g2⟩⟩
theorem argsOkV (ds : List D) : ArgsOk (ds.map Sl.v) := fun s hs => by
  obtain ⟨d, _, rfl⟩ := List.mem_map.mp hs
  exact .inl ⟨d, rfl⟩
end
/-! ### objects lent to a callee -/
/-- b belongs to what is lent -/
def LentA (H : Hp) (st : L2.St) (r : En) (is : List Nat) (b : Addr) : Prop := ∃ i ∈ is, ∃ s c a, r[i]? = some s ∧ s.own = some c ∧ st[i]? = some (some (V.ref a)) ∧ (a = b ∨ Inn H a c b)
open Classical in
/-- the heap but for what is lent -/
noncomputable def Hless (H : Hp) (st : L2.St) (r : En) (is : List Nat) : Hp := fun b => if LentA H st r is b then none else H b
section
variable {K : PySem.W.Frag} {pa pa' : Nat → Addr} {H0 F0 F H F' H' : Hp} {st : L2.St} {r r' : En} {is : List Nat} {sv : L2.St} {rs' : List Sl}
omit [TabT] in
theorem Hless.at_ {b : Addr} (h : LentA H st r is b) : Hless H st r is b = none := if_pos h
omit [TabT] in
theorem Hless.ne {b : Addr} (h : ¬ LentA H st r is b) : Hless H st r is b = H b := if_neg h
omit [TabT] in
theorem Hless.ex : Ex (Hless H st r is) H := .of fun b o z => by
  by_cases h : LentA H st r is b
  · rw [Hless.at_ h] at z
    cases z
  · rw [Hless.ne h] at z
    exact z
theorem Ok.lentFree (k1 : Ok K pa H0 F0 F H st r) {b : Addr} (h : LentA H st r is b) : H0 b = none ∧ F b = none := by
  obtain ⟨i, _, s, c, a, h1, h2, h3, h4⟩ := h
  rcases h4 with rfl | h4
  · obtain ⟨a', z1, z2, z3, z4⟩ := k1.ownd h1 h2
    rw [h3] at z1
    cases z1
    exact ⟨z3, z2⟩
  · obtain ⟨f1, f2, _⟩ := k1.inn i s c a b h1 h2 h3 h4
    exact ⟨f2, f1⟩
theorem Ok.lentEx (k1 : Ok K pa H0 F0 F H st r) : Ex H0 (Hless H st r is) := ⟨fun b o z nt => by
  rw [Hless.ne fun h => by
    rw [(k1.lentFree h).1] at z
    cases z]
  exact k1.hH.at_ b o z nt, fun b ps z => by
  rw [Hless.ne fun h => by
    rw [(k1.lentFree h).1] at z
    cases z]
  exact k1.hH.tb b ps z⟩
/-- another slot's object is not lent -/
theorem Ok.notLent (k1 : Ok K pa H0 F0 F H st r) {j : Nat} {s : Sl} {c : Ct} {a b : Addr} (hj : j ∉ is) (h1 : r[j]? = some s) (h2 : s.own = some c) (h3 : st[j]? = some (some (.ref a))) (hb : a = b ∨ Inn H a c b) : ¬ LentA H st r is b := fun ⟨i, hi, s2, c2, a2, g1, g2, g3, g4⟩ => by
  have ne : j ≠ i := fun z => hj (z ▸ hi)
  rcases hb with rfl | hb
  · rcases g4 with rfl | g4
    · exact k1.dis j i s s2 c c2 a2 ne h1 g1 h2 g2 h3 g3
    · exact ((k1.inn i s2 c2 a2 a g1 g2 g3 g4).2.2 j s c a h1 h2 h3).1 rfl
  · obtain ⟨_, _, f3⟩ := k1.inn j s c a b h1 h2 h3 hb
    obtain ⟨y1, y2⟩ := f3 i s2 c2 a2 g1 g2 g3
    rcases g4 with rfl | g4
    · exact y1 rfl
    · exact y2 (fun z => ne z.symm) g4
/-- what stays of a slot that is not lent -/
theorem Ok.stays (k1 : Ok K pa H0 F0 F H st r) (k2 : Ok K pa' (Hless H st r is) F F' H' sv rs') {j : Nat} {s : Sl} {c : Ct} {a : Addr} (hj : j ∉ is) (h1 : r[j]? = some s) (h2 : s.own = some c) (h3 : st[j]? = some (some (.ref a))) :
    H' a = H a ∧ F' a = none ∧ CtOk K F' H' a c ∧ ∀ b, Inn H' a c b → Inn H a c b ∧ H' b = H b ∧ F' b = none := by
  obtain ⟨a', z1, z2, z3, z4⟩ := k1.ownd h1 h2
  rw [h3] at z1
  cases z1
  have same : ∀ b o, (a = b ∨ Inn H a c b) → H b = some o → (∀ ps, o ≠ .tbl ps) → F b = none → H' b = H b ∧ F' b = none := fun b o hb ho hnt hF => by
    have z : Hless H st r is b = some o := by
      rw [Hless.ne (k1.notLent hj h1 h2 h3 hb)]
      exact ho
    exact ⟨(k2.hH.at_ b o z hnt).trans ho.symm, none_of_not fun y => k2.sep b (ne_none z) y hF⟩
  obtain ⟨o, ho, hnt⟩ := z4.there'
  obtain ⟨e1, e2⟩ := same a o (.inl rfl) ho hnt z2
  have inn : ∀ b, Inn H a c b → H' b = H b ∧ F' b = none := fun b hb => by
    obtain ⟨ws, hw⟩ := z4.inn hb
    exact same b _ (.inr hb) hw (fun ps z => nomatch z) (k1.inn j s c a b h1 h2 h3 hb).1
  exact ⟨e1, e2, z4.mono k2.fF e1 fun b hb => (inn b hb).1, fun b hb => by
    have hb' := hb.cg e1.symm
    exact ⟨hb', inn b hb'⟩⟩
/-- the slots behind the call -/
def BackOk (st : L2.St) (r r' : En) (is : List Nat) (sv : L2.St) (rs' : List Sl) : Prop := r'.length = r.length ∧ ∀ (j : Nat) (s' : Sl), r'[j]? = some s' → (j ∉ is ∧ r[j]? = some s') ∨
  ∃ (p : Nat) (s : Sl) (ct ct' : Ct) (a : Addr), j ∈ is ∧ r[j]? = some s ∧ s.own = some ct ∧ st[j]? = some (some (V.ref a)) ∧ s' = s.put ct' ∧ rs'[p]? = some (Sl.io ct') ∧ sv[p]? = some (some (V.ref a))
theorem Ok.lent (k1 : Ok K pa H0 F0 F H st r) (k2 : Ok K pa' (Hless H st r is) F F' H' sv rs') (hb : BackOk st r r' is sv rs') : Ok K pa H0 F0 F' H' st r' := by
  have h0 := k1.lentEx (is := is)
  -- an owned slot behind the call
  have view : ∀ (j : Nat) (s' : Sl) (c' : Ct) (a : Addr), r'[j]? = some s' → s'.own = some c' → st[j]? = some (some (.ref a)) →
      (∃ s c, r[j]? = some s ∧ s.own = some c) ∧ ((j ∉ is ∧ r[j]? = some s') ∨ (j ∈ is ∧ ∃ p : Nat, sv[p]? = some (some (V.ref a)) ∧ rs'[p]? = some (Sl.io c'))) := fun j s' c' a h1 h2 h3 => by
    rcases hb.2 j s' h1 with ⟨hj, h⟩ | ⟨p, s, ct, ct', a', hj, g1, g2, g3, rfl, g5, g6⟩
    · exact ⟨⟨s', c', h, h2⟩, .inl ⟨hj, h⟩⟩
    · have e : (s.put ct').own = some ct' := by cases s <;> rfl
      rw [e] at h2
      cases h2
      rw [h3] at g3
      cases g3
      exact ⟨⟨s, ct, g1, g2⟩, .inr ⟨hj, p, g6, g5⟩⟩
  refine ⟨h0.trans k2.hH, k1.fF.trans k2.fF, k2.fH, fun b z1 z2 => k1.sep b z1 (k2.sep b (by
    cases hz : H0 b with
    | none => exact absurd hz z1
    | some o => exact (h0.some hz).elim fun _ q => ne_none q) z2), by rw [hb.1, k1.len], fun j s' h n => ?_, k2.tb, fun j1 j2 s1 s2 c1 c2 b ne h1 h2 o1 o2 st1 st2 => ?_, fun j s c a b h1 h2 h3 h4 => ?_⟩
  · rcases hb.2 j s' h with ⟨hj, hr⟩ | ⟨p, s, ct, ct', a, hj, g1, g2, g3, rfl, g5, g6⟩
    · obtain ⟨w, y1, y2⟩ := k1.sl j s' hr n
      refine ⟨w, y1, ?_⟩
      cases s' with
      | unk => trivial
      | pin => exact y2
      | v d => exact dp_mono k2.fF y2
      | o c1 =>
        obtain ⟨b, rfl, z1, z2, z3⟩ := y2
        obtain ⟨w1, w2, w3, _⟩ := k1.stays k2 hj hr rfl y1
        exact ⟨b, rfl, w2, z2, w3⟩
      | io c1 =>
        obtain ⟨rfl, z1, z2, z3⟩ := y2
        obtain ⟨w1, w2, w3, _⟩ := k1.stays k2 hj hr rfl y1
        exact ⟨rfl, w2, z2, w3⟩
    · refine ⟨_, g3, ?_⟩
      obtain ⟨v, w1, w2⟩ := k2.sl p _ g5 (fun z => nomatch z)
      rw [g6] at w1
      cases w1
      obtain ⟨w3, w4, w5, w6⟩ := w2
      have hb2 : H0 a = none := (k1.lentFree (is := is) ⟨j, hj, s, ct, a, g1, g2, g3, .inl rfl⟩).1
      cases w3
      cases s with
      | unk => cases g2
      | pin => cases g2
      | v d => cases g2
      | o c1 => exact ⟨_, rfl, w4, hb2, w6⟩
      | io c1 =>
        obtain ⟨w, y1, y2⟩ := k1.sl j _ g1 (fun z => nomatch z)
        obtain ⟨rfl, _⟩ := y2
        rw [g3] at y1
        have e : pa' p = pa j := by
          have := Option.some.inj (Option.some.inj y1)
          injection this
        rw [← e]
        exact ⟨rfl, w4, hb2, w6⟩
  · obtain ⟨⟨s3, c3, w1, w2⟩, _⟩ := view j1 s1 c1 b h1 o1 st1
    obtain ⟨⟨s4, c4, w3, w4⟩, _⟩ := view j2 s2 c2 b h2 o2 st2
    exact k1.dis j1 j2 s3 s4 c3 c4 b ne w1 w3 w2 w4 st1 st2
  · obtain ⟨⟨s3, c3, w1, w2⟩, hv⟩ := view j s c a h1 h2 h3
    -- what is within an object that is not lent is foreign to what came back
    rcases hv with ⟨hj, hr⟩ | ⟨hj, p, hp, hio⟩
    · obtain ⟨e1, e2, e3, e4⟩ := k1.stays k2 hj hr h2 h3
      obtain ⟨q1, q2, q3⟩ := e4 b h4
      obtain ⟨f1, f2, f3⟩ := k1.inn j s c a b hr h2 h3 q1
      refine ⟨q3, f2, fun j2 s2 c2 a2 g1 g2 g3 => ?_⟩
      obtain ⟨⟨s4, c4, w3, w4⟩, hv2⟩ := view j2 s2 c2 a2 g1 g2 g3
      refine ⟨(f3 j2 s4 c4 a2 w3 w4 g3).1, fun nj n => ?_⟩
      rcases hv2 with ⟨hj2, hr2⟩ | ⟨hj2, p2, hp2, hio2⟩
      · exact (f3 j2 s2 c2 a2 hr2 g2 g3).2 nj ((k1.stays k2 hj2 hr2 g2 g3).2.2.2 b n).1
      · have z := (k2.inn p2 _ c2 a2 b hio2 rfl hp2 n).2.1
        rw [Hless.ne (k1.notLent hj hr h2 h3 (.inr q1))] at z
        obtain ⟨a', y1, y2, y3, y4⟩ := k1.ownd hr h2
        rw [h3] at y1
        cases y1
        obtain ⟨ws, hw⟩ := y4.inn q1
        rw [hw] at z
        cases z
    · obtain ⟨f1, f2, f3⟩ := k2.inn p _ c a b hio rfl hp h4
      refine ⟨f1, h0.nn f2, fun j2 s2 c2 a2 g1 g2 g3 => ?_⟩
      obtain ⟨⟨s4, c4, w3, w4⟩, hv2⟩ := view j2 s2 c2 a2 g1 g2 g3
      rcases hv2 with ⟨hj2, hr2⟩ | ⟨hj2, p2, hp2, hio2⟩
      · have far : ∀ b2, (a2 = b2 ∨ Inn H a2 c2 b2) → b ≠ b2 := fun b2 hb2 z => by
          subst z
          rw [Hless.ne (k1.notLent hj2 hr2 g2 g3 hb2)] at f2
          obtain ⟨a', y1, y2, y3, y4⟩ := k1.ownd hr2 g2
          rw [g3] at y1
          cases y1
          rcases hb2 with rfl | hb2
          · obtain ⟨o, ho⟩ := y4.there
            rw [ho] at f2
            cases f2
          · obtain ⟨ws, hw⟩ := y4.inn hb2
            rw [hw] at f2
            cases f2
        exact ⟨fun z => far a2 (.inl rfl) z.symm, fun _ n => far b (.inr ((k1.stays k2 hj2 hr2 g2 g3).2.2.2 b n).1) rfl⟩
      · obtain ⟨y1, y2⟩ := f3 p2 _ c2 a2 hio2 rfl hp2
        refine ⟨y1, fun nj n => y2 (fun z => nj ?_) n⟩
        subst z
        rw [hp] at hp2
        cases hp2
        by_cases e : j2 = j
        · exact e
        · exact (k1.dis j2 j s4 s3 c4 c3 a e w3 w1 w4 w2 g3 h3).elim
/-- what a callee handed back, beside what was lent -/
theorem RvOk.lent (k1 : Ok K pa H0 F0 F H st r) (k2 : Ok K pa' (Hless H st r is) F F' H' sv rs') (hb : BackOk st r r' is sv rs') {v : V} {rv : RV} (h : RvOk K (Hless H st r is) F' H' sv rs' v rv) : RvOk K H0 F' H' st r' v rv := by
  have h0 := k1.lentEx (is := is)
  cases rv with
  | v d => exact h
  | o c2 =>
    obtain ⟨b, rfl, z1, z2, z3, z4, z5⟩ := h
    have key : ∀ b2, Hless H st r is b2 = none → Nob H' sv rs' b2 → Nob H' st r' b2 := fun b2 hb2 nb j s c a h1 h2 h3 => by
      rcases hb.2 j s h1 with ⟨hj, hr⟩ | ⟨p, s0, ct, ct', a', hj, g1, g2, g3, rfl, g5, g6⟩
      · have far : ∀ b3, (a = b3 ∨ Inn H a c b3) → b2 ≠ b3 := fun b3 hb3 z => by
          subst z
          rw [Hless.ne (k1.notLent hj hr h2 h3 hb3)] at hb2
          obtain ⟨a', y1, y2, y3, y4⟩ := k1.ownd hr h2
          rw [h3] at y1
          cases y1
          rcases hb3 with rfl | hb3
          · obtain ⟨o, ho⟩ := y4.there
            rw [ho] at hb2
            cases hb2
          · obtain ⟨ws, hw⟩ := y4.inn hb3
            rw [hw] at hb2
            cases hb2
        exact ⟨fun z => far a (.inl rfl) z.symm, fun n => far b2 (.inr ((k1.stays k2 hj hr h2 h3).2.2.2 b2 n).1) rfl⟩
      · have e : (s0.put ct').own = some ct' := by cases s0 <;> rfl
        rw [e] at h2
        cases h2
        rw [h3] at g3
        cases g3
        exact nb p _ c a g5 rfl (g6)
    exact ⟨b, rfl, z1, h0.nn z2, z3, key b z2 z4, fun b2 hb2 => by
      obtain ⟨g1, g2, g3, g4⟩ := z5 b2 hb2
      exact ⟨g1, h0.nn g2, g3, key b2 g2 g4⟩⟩
end
section
variable {X : Cx} {c : Cc} {k n : Nat} {x : Str} {f : List Sl → Re RV} {e : Expr} {es : List Expr} {p pos : Pos} {ms : M (List D)}
theorem callV {F H : Hp} {st : L2.St} {r : En} {pa : Nat → Addr} {H0 F0 F00 : Hp} {vs : List V} {ds : List D} {Q : VK} (hn : ds.length = n) (k1 : Ok c.K pa H0 F0 F H st r) (dps : RpAll c.K F vs ds)
    (e0 : Ex F00 F) (q : Po (XW c pa H0 F0 F) (match f (ds.map .v) with
      | .ok rv _ => .ok rv r
      | .ex e _ => .ex e r
      | .no => .no) fun rv r' => ∀ F' H' v, Ok c.K pa H0 F0 F' H' st r' → Ex F00 F' → RvOk c.K H0 F' H' st r' v rv → Q v H') : spG c.K c.mg n f vs H Q (fun cls d H' => c.W cls d st H') := by
  refine ⟨by rw [dpa_len dps]; exact hn, pa, H, F, ds.map .v, argsV dps k1.fH k1.tb, argsOkV ds, ?_⟩
  have grow : ∀ {F' H' : Hp} {z : List Sl}, Ok c.K pa H F F' H' (vs.map some) z → Ok c.K pa H0 F0 F' H' st r := fun {F' H' z} k2 => k1.grow k2.hH k2.fF k2.fH (fun a h1 h2 => k2.sep a h2 h1) k2.tb
  cases hf : f (ds.map .v) with
  | no =>
    rw [hf] at q
    exact q.elim
  | ex ee z =>
    rw [hf] at q
    exact fun F' H' cls dd k2 xo => q F' H' st cls dd (grow k2) k2.fF xo
  | ok rv z =>
    rw [hf] at q
    refine fun F' H' v k2 hv => q F' H' v (grow k2) (e0.trans k2.fF) ?_
    cases rv with
    | v d => exact hv
    | o ct =>
      obtain ⟨a, rfl, z1, z2, z3, z4⟩ := hv
      exact ⟨a, rfl, z1, k1.hH.nn z2, z3, k1.awayC k2.hH z2 z4.2⟩
theorem o_call (G : Fn X.prog X.w X.K X.mg X.base k x n f) (hr : Rm k X.A) (tk : Takes X c.W) (ha : PA X (e :: es) (tA c ms)) (hK : c.K = X.K := by rfl) (hM : c.mg = X.mg := by rfl) (hg : Gl X x := by rfl) (hnm : ∀ r ds r', ms r = .ok ds r' → ds.length = n)
    (hdb : (x == ("__debug__" : Str)) = false := by decide) (he : starEach (e :: es) X.env = (false, eval e X.env) :: starEach es X.env := by rfl) (hpl : (backTo pos (starEach es X.env)).any (·.1) = false := by rfl) :
    PE X (.Call (.Name x p) (e :: es) [] pos) (tO c (cCall f ms)) := by
  obtain ⟨a, fd, ps, g1, g2, g3, g4⟩ := G.ex
  refine pe_cq (pe_callG (Ew := fun st cls d H' => c.W cls d st H') g4 hr hg g1 g2 g3 (fun σ => passAt tk σ) ha hdb he hpl) fun st H Q ⟨pa, H0, F0, F, r, ok, po⟩ => ?_
  refine ⟨pa, H0, F0, F, r, ok, ?_⟩
  have po : Po (XW c pa H0 F0 F) ((ms r).bind _) _ := po
  cases hm : ms r with
  | no =>
    rw [hm] at po
    exact po.elim
  | ex ee r1 =>
    rw [hm] at po
    exact po
  | ok ds r1 =>
    rw [hm] at po
    intro F1 H1 vs k1 e1 dps
    rw [← hK, ← hM]
    exact callV (hnm r ds r1 hm) k1 dps e1 (po.mono (XW.mono e1) fun _ _ x => x)
theorem aNil_len : ∀ (r : En) (ds : List D) (r' : En), aNil r = .ok ds r' → ds.length = 0 := fun r ds r' h => by
  cases h
  rfl
theorem aCons_len {m : M D} {ms : M (List D)} {n : Nat} (h : ∀ (r : En) (ds : List D) (r' : En), ms r = .ok ds r' → ds.length = n) : ∀ (r : En) (ds : List D) (r' : En), aCons m ms r = .ok ds r' → ds.length = n + 1 := fun r ds r' e => by
  have e : (m r).bind (fun d => ms.bind fun ds => M.ret (d :: ds)) = .ok ds r' := e
  cases hm : m r with
  | no =>
    rw [hm] at e
    cases e
  | ex ee r1 =>
    rw [hm] at e
    cases e
  | ok d r1 =>
    rw [hm] at e
    have e : (ms r1).bind (fun ds => M.ret (d :: ds)) = .ok ds r' := e
    cases hs : ms r1 with
    | no =>
      rw [hs] at e
      cases e
    | ex ee r2 =>
      rw [hs] at e
      cases e
    | ok ds2 r2 =>
      rw [hs] at e
      cases e
      exact congrArg Nat.succ (h r1 ds2 _ hs)
/-- f(x, e, ..): x in slot i is the callee's to change -/
theorem callI {i : Nat} {F H : Hp} {st : L2.St} {r : En} {pa : Nat → Addr} {H0 F0 F00 : Hp} {v0 : V} {vs : List V} {ds : List D} {Q : VK} (hn : ds.length + 1 = n) (k1 : Ok c.K pa H0 F0 F H st r) (hv0 : st[i]? = some (some v0)) (dps : RpAll c.K F vs ds)
    (e0 : Ex F00 F) (q : Po (XW c pa H0 F0 F) (match getC i r with
      | some ct => (match f (.io ct :: ds.map .v) with
        | .ok rv (.io ct' :: _) => .ok rv (putC i ct' r)
        | .ex e (.io ct' :: _) => .ex e (putC i ct' r)
        | _ => .no)
      | none => .no) fun rv r' => ∀ F' H' v, Ok c.K pa H0 F0 F' H' st r' → Ex F00 F' → RvOk c.K H0 F' H' st r' v rv → Q v H') : spG c.K c.mg n f (v0 :: vs) H Q (fun cls d H' => c.W cls d st H') := by
  cases hg : getC i r with
  | none =>
    rw [hg] at q
    exact q.elim
  | some ct =>
    rw [hg] at q
    obtain ⟨s, hs, hso⟩ := getC_some hg
    obtain ⟨a, ha, nF, n0, hct⟩ := k1.ownd hs hso
    rw [hv0] at ha
    cases ha
    -- all but that object
    let Hk : Hp := Hless H st r [i]
    have hk_a : Hk a = none := Hless.at_ ⟨i, List.mem_singleton.mpr rfl, s, ct, a, hs, hso, hv0, .inl rfl⟩
    have exk : Ex Hk H := Hless.ex
    have okA : Ok c.K (fun _ => a) Hk F F H ((V.ref a :: vs).map some) (.io ct :: ds.map Sl.v) := by
      have base := argsV (pa := fun _ => a) dps k1.fH k1.tb
      have noV : ∀ (j : Nat) (s' : Sl) (c' : Ct), (Sl.io ct :: ds.map Sl.v)[j]? = some s' → s'.own = some c' → j = 0 := fun j s' c' h o => by
        cases j with
        | zero => rfl
        | succ j =>
          have h : (ds.map Sl.v)[j]? = some s' := h
          rw [List.getElem?_map] at h
          cases hd : ds[j]? with
          | none =>
            rw [hd] at h
            cases h
          | some d =>
            rw [hd] at h
            cases h
            cases o
      refine ⟨exk, Ex.refl F, k1.fH, fun _ _ h => h, ?_, fun j s' h n => ?_, k1.tb, fun j1 j2 s1 s2 c1 c2 b ne h1 h2 o1 o2 _ _ => ?_, fun j1 s1 c1 a1 b h1 h2 h3 h4 => ?_⟩
      · have := base.len
        simp only [List.map_cons, List.length_cons] at this ⊢
        omega
      · cases j with
        | zero =>
          cases h
          exact ⟨.ref a, rfl, rfl, nF, hk_a, hct⟩
        | succ j =>
          obtain ⟨v, g1, g2⟩ := base.sl j s' h n
          refine ⟨v, g1, ?_⟩
          have h : (ds.map Sl.v)[j]? = some s' := h
          rw [List.getElem?_map] at h
          cases hd : ds[j]? with
          | none =>
            rw [hd] at h
            cases h
          | some d =>
            rw [hd] at h
            cases h
            exact g2
      · exact ne ((noV j1 s1 c1 h1 o1).trans (noV j2 s2 c2 h2 o2).symm)
      · cases noV j1 s1 c1 h1 h2
        cases h1
        cases h2
        cases h3
        obtain ⟨f1, f2, f3⟩ := k1.inn i s ct a b hs hso hv0 h4
        refine ⟨f1, Hless.at_ ⟨i, List.mem_singleton.mpr rfl, s, ct, a, hs, hso, hv0, .inr h4⟩, fun j2 s2 c2 a2 g1 g2 g3 => ?_⟩
        cases noV j2 s2 c2 g1 g2
        cases g1
        cases g2
        cases g3
        exact ⟨(f3 i s ct a hs hso hv0).1, fun z => absurd rfl z⟩
    have ao : ArgsOk (.io ct :: ds.map Sl.v) := fun s' hs' => by
      rcases List.mem_cons.mp hs' with rfl | hs'
      · exact .inr ⟨ct, rfl⟩
      · exact argsOkV ds s' hs'
    refine ⟨by rw [List.length_cons, dpa_len dps]; exact hn, fun _ => a, Hk, F, _, okA, ao, ?_⟩
    -- the caller's state behind the call
    have bk : ∀ {ct' : Ct} {z : List Sl}, BackOk st r (putC i ct' r) [i] ((V.ref a :: vs).map some) (.io ct' :: z) := fun {ct' z} => by
      have put : putC i ct' r = r.set i (s.put ct') := by
        unfold putC
        rw [hs]
      have hl : i < r.length := (List.getElem?_eq_some_iff.mp hs).1
      rw [put]
      refine ⟨List.length_set, fun j s' h => ?_⟩
      by_cases e : i = j
      · subst e
        rw [List.getElem?_set_self hl] at h
        cases h
        exact .inr ⟨0, s, ct, ct', a, List.mem_singleton.mpr rfl, hs, hso, hv0, rfl, rfl, rfl⟩
      · rw [List.getElem?_set_ne e] at h
        exact .inl ⟨fun z => e (List.mem_singleton.mp z).symm, h⟩
    have grow : ∀ {F' H' : Hp} {ct' : Ct} {z : List Sl}, Ok c.K (fun _ => a) Hk F F' H' ((V.ref a :: vs).map some) (.io ct' :: z) → Ok c.K pa H0 F0 F' H' st (putC i ct' r) := fun {F' H' ct' z} k2 => k1.lent k2 bk
    dsimp only at q
    cases hf : f (.io ct :: ds.map .v) with
    | no =>
      rw [hf] at q
      exact q.elim
    | ex ee z =>
      rw [hf] at q
      cases z with
      | nil => exact q.elim
      | cons z0 zr =>
        cases z0 with
        | io ct' => exact fun F' H' cls dd k2 xo => q F' H' st cls dd (grow k2) k2.fF xo
        | _ => exact q.elim
    | ok rv z =>
      rw [hf] at q
      cases z with
      | nil => exact q.elim
      | cons z0 zr =>
        cases z0 with
        | io ct' =>
          refine fun F' H' v k2 hv => q F' H' v (grow k2) (e0.trans k2.fF) ?_
          exact hv.lent k1 k2 bk
        | _ => exact q.elim
theorem o_callI (i : Nat) {y : Str} {py : Pos} (G : Fn X.prog X.w X.K X.mg X.base k x n f) (hr : Rm k X.A) (tk : Takes X c.W) (ha : PA X es (tA c ms)) (hnm : ∀ r ds r', ms r = .ok ds r' → ds.length + 1 = n) (hK : c.K = X.K := by rfl) (hM : c.mg = X.mg := by rfl) (hg : Gl X x := by rfl)
    (hN : X.N[i]? = some y := by rfl) (hv : Vis X.env.scope y := by first | exact Or.inl rfl | exact Or.inr (Or.inl rfl) | exact Or.inr (Or.inr rfl)) (hd : (y == ("__debug__" : Str)) = false := by decide) (hcd : (y == ("__classdict__" : Str)) = false := by decide)
    (hdb : (x == ("__debug__" : Str)) = false := by decide) (he : starEach (.Name y py :: es) X.env = (false, eval (.Name y py) X.env) :: starEach es X.env := by rfl) (hpl : (backTo pos (starEach es X.env)).any (·.1) = false := by rfl) :
    PE X (.Call (.Name x p) (.Name y py :: es) [] pos) (tO c (cCallI i f ms)) := by
  obtain ⟨a, fd, ps, g1, g2, g3, g4⟩ := G.ex
  refine pe_cq (pe_callG (Ew := fun st cls d H' => c.W cls d st H') g4 hr hg g1 g2 g3 (fun σ => passAt tk σ) (pa_cons (pe_var (i := i) hN hv hd hcd) ha he) hdb he hpl) fun st H Q ⟨pa, H0, F0, F, r, ok, po⟩ => ?_
  unfold cCallI at po
  cases hgc : getC i r with
  | none =>
    rw [hgc] at po
    exact po.elim
  | some ct0 =>
  rw [hgc] at po
  dsimp only at po
  obtain ⟨s0, hs0, hso0⟩ := getC_some hgc
  obtain ⟨a0, hv0, _⟩ := ok.ownd hs0 hso0
  refine ⟨_, hv0, pa, H0, F0, F, r, ok, ?_⟩
  cases hm : ms r with
  | no =>
    rw [hm] at po
    exact po.elim
  | ex ee r1 =>
    rw [hm] at po
    exact po
  | ok ds r1 =>
    rw [hm] at po
    intro F1 H1 vs k1 e1 dps
    rw [← hK, ← hM]
    show spG c.K c.mg n f ((V.ref a0 :: vs)) H1 Q _
    exact callI (hnm r ds r1 hm) k1 hv0 dps e1 (po.mono (XW.mono e1) fun _ _ x => x)
end
end Pu
namespace Pu
open PySem PySem.Spec PyProof.Rows L2
variable [TabT]
/-! ### tables of data -/
def keyD : D → Option Key
  | .int i => some (.inl i)
  | .str x => some (.inr x)
  | _ => none
def vK {κ : Type} [DecidableEq κ] (kvs : List (κ × D)) (k : κ) : Option D := (kvs.find? fun kv => decide (kv.1 = k)).map (·.2)
def pK {κ : Type} [DecidableEq κ] (kvs : List (κ × D)) (k : κ) (d : D) : List (κ × D) :=
  if (kvs.any fun kv => decide (kv.1 = k)) = true then kvs.map (fun kv => if kv.1 = k then (kv.1, d) else kv) else kvs ++ [(k, d)]
section
variable {K : PySem.W.Frag} {F : Hp} {κ : Type} [DecidableEq κ]
omit [DecidableEq κ] in
theorem kv_len : ∀ {ks : List (κ × V)} {kvs : List (κ × D)}, KvAll K F ks kvs → ks.length = kvs.length
  | _, _, .nil => rfl
  | _, _, .cons _ t => congrArg Nat.succ (kv_len t)
theorem kv_any (k : κ) : ∀ {ks : List (κ × V)} {kvs : List (κ × D)}, KvAll K F ks kvs → (ks.any fun kv => decide (kv.1 = k)) = (kvs.any fun kv => decide (kv.1 = k))
  | _, _, .nil => rfl
  | _, _, .cons _ t => by
    rw [List.any_cons, List.any_cons, kv_any k t]
theorem kv_get {k : κ} {d : D} : ∀ {ks : List (κ × V)} {kvs : List (κ × D)}, KvAll K F ks kvs → vK kvs k = some d → ∃ v, valV ks k = some v ∧ Rp K F v d
  | _, _, .nil, h => by cases h
  | _, _, .cons (k := k') (v := v') (d := d') (ks := ks) (kvs := kvs) r t, h => by
    by_cases e : k' = k
    · have h1 : vK ((k', d') :: kvs) k = some d' := by simp [vK, List.find?_cons, e]
      rw [h1] at h
      cases h
      exact ⟨v', valV_pos e, r⟩
    · have h1 : vK ((k', d') :: kvs) k = vK kvs k := by simp [vK, List.find?_cons, e]
      rw [h1] at h
      obtain ⟨v, g1, g2⟩ := kv_get t h
      exact ⟨v, (valV_neg e).trans g1, g2⟩
theorem kv_none {k : κ} : ∀ {ks : List (κ × V)} {kvs : List (κ × D)}, KvAll K F ks kvs → vK kvs k = none → valV ks k = none
  | _, _, .nil, _ => rfl
  | _, _, .cons (k := k') (v := v') (d := d') (ks := ks) (kvs := kvs) r t, h => by
    by_cases e : k' = k
    · have h1 : vK ((k', d') :: kvs) k = some d' := by simp [vK, List.find?_cons, e]
      rw [h1] at h
      cases h
    · have h1 : vK ((k', d') :: kvs) k = vK kvs k := by simp [vK, List.find?_cons, e]
      rw [h1] at h
      exact (valV_neg e).trans (kv_none t h)
theorem kv_map {k : κ} {v : V} {d : D} (r : Rp K F v d) : ∀ {ks : List (κ × V)} {kvs : List (κ × D)}, KvAll K F ks kvs → KvAll K F (ks.map fun kv => if kv.1 = k then (kv.1, v) else kv) (kvs.map fun kv => if kv.1 = k then (kv.1, d) else kv)
  | _, _, .nil => .nil
  | _, _, .cons (k := k') (v := v') (d := d') (ks := ks) (kvs := kvs) r' t => by
    rw [List.map_cons, List.map_cons]
    by_cases e : k' = k
    · rw [if_pos e, if_pos e]
      exact .cons r (kv_map r t)
    · rw [if_neg e, if_neg e]
      exact .cons r' (kv_map r t)
omit [DecidableEq κ] in
theorem kv_app : ∀ {ks ls : List (κ × V)} {kvs lvs : List (κ × D)}, KvAll K F ks kvs → KvAll K F ls lvs → KvAll K F (ks ++ ls) (kvs ++ lvs)
  | _, _, _, _, .nil, h => h
  | _, _, _, _, .cons r t, h => .cons r (kv_app t h)
theorem kv_put {k : κ} {v : V} {d : D} {ks : List (κ × V)} {kvs : List (κ × D)} (h : KvAll K F ks kvs) (r : Rp K F v d) : KvAll K F (putK ks k v) (pK kvs k d) := by
  unfold putK pK
  rw [kv_any k h]
  split
  · exact kv_map r h
  · exact kv_app h (.cons r .nil)
theorem rp_key {v : V} {d : D} {k : Key} (h : Rp K F v d) (e : keyD d = some k) : v = kV k := by
  cases h with
  | int i =>
    cases e
    rfl
  | str x =>
    cases e
    rfl
  | _ => cases e
end
/-! ### lists and dicts of one's own -/
def sAppend (i : Nat) (m : M D) : M Fl := fun r => match getC i r with
  | some (.l _) => (m r).bind fun d r => match getC i r with
    | some (.l ds) => if ds.length < 16777216 then .ok .nx (putC i (.l (ds ++ [d])) r) else .no
    | _ => .no
  | _ => .no
/-- x.extend(a new list) -/
def sExtend (i : Nat) (m : M RV) : M Fl := fun r => match getC i r with
  | some (.l _) => (m r).bind fun rv r => match rv, getC i r with
    | .o (.l es), some (.l ds) => if ds.length + es.length ≤ 16777216 then .ok .nx (putC i (.l (ds ++ es)) r) else .no
    | _, _ => .no
  | _ => .no
section
variable {X : Cx} {c : Cc}
theorem s_append (i : Nat) {x : Str} {e : Expr} {m : M D} {px apos cpos pos : Pos} (h : PE X e (tM c m)) (hK : c.K = X.K := by rfl) (hN : X.N[i]? = some x := by rfl) (hv : Vis X.env.scope x := by first | exact Or.inl rfl | exact Or.inr (Or.inl rfl) | exact Or.inr (Or.inr rfl)) (hd : (x == ("__debug__" : Str)) = false := by decide)
    (hcd : (x == ("__classdict__" : Str)) = false := by decide) (hs1 : starEach [e] X.env = [(false, eval e X.env)] := by rfl)
    (hbase : attributeBase (.Name x px) "append" X.env (eval (.Name x px) X.env) = eval (.Name x px) X.env := by rfl)
    (hfew : ((backTo cpos (starEach [e] X.env)).all (fun x => !x.1) && (backToKw cpos (keywordEach [] X.env)).all (fun x => x.1.isSome) && decide (([e] : List Expr).length + ([] : List Keyword).length + (if ([] : List Keyword).isEmpty then 0 else 1) < 30)) = true := by rfl)
    (hline : (apos.endLine == cpos.line) = true := by rfl) (hplain : (backTo cpos (starEach [] X.env)).any (·.1) = false := by rfl) (hsw : swapsWith (.Call (.Attribute (.Name x px) "append" apos) [e] [] cpos) none pos.line X.env = pure false := by rfl) :
    PS X (.Expr (.Call (.Attribute (.Name x px) "append" apos) [e] [] cpos) pos) (sM c (sAppend i m)) :=
  ps_cq (ps_expr (pe_bm PySem.F.plainAttrs_list PySem.F.slot_list_append PySem.F.type_list_append mt_append (pe_var (i := i) hN hv hd hcd) (pa_cons h pa_nil hs1) hbase hfew hline hs1 hplain) hsw) fun Dd st H ⟨pa, H0, F0, F, r, ok, po⟩ => by
    unfold sAppend at po
    split at po
    · rename_i ds0 hg
      obtain ⟨s0, hs0, hso0⟩ := getC_some hg
      obtain ⟨a, hst, nF, n0, vs0, hH0, hr0⟩ := ok.ownd hs0 hso0
      refine ⟨_, hst, .inl ⟨rfl, vs0, .inl (.inl hH0)⟩, ?_⟩
      refine ⟨pa, H0, F0, F, r, ok, (Po.bind po).mono (fun _ _ x => x) fun d r1 q F1 H1 v k1 e1 dp => ?_⟩
      split at q
      · rename_i ds hg1
        split at q
        · rename_i hl
          obtain ⟨s1, hs1, hso1⟩ := getC_some hg1
          obtain ⟨a1, hst1, nF1, n01, vs, hH1, hr1⟩ := k1.ownd hs1 hso1
          rw [hst] at hst1
          cases hst1
          refine ⟨a, vs, v, rfl, rfl, hH1, by rw [dpa_len hr1, sizeLine_eq]; exact hl, ?_⟩
          exact q F1 _ st (k1.putC hg1 hst ⟨_, upd_same, dpa_app hr1 (.cons dp .nil)⟩) e1
        · exact q.elim
      · exact q.elim
    · exact po.elim
theorem s_extend (i : Nat) {x : Str} {e : Expr} {m : M RV} {px apos cpos pos : Pos} (h : PE X e (tO c m)) (hK : c.K = X.K := by rfl) (hN : X.N[i]? = some x := by rfl) (hv : Vis X.env.scope x := by first | exact Or.inl rfl | exact Or.inr (Or.inl rfl) | exact Or.inr (Or.inr rfl)) (hd : (x == ("__debug__" : Str)) = false := by decide)
    (hcd : (x == ("__classdict__" : Str)) = false := by decide) (hs1 : starEach [e] X.env = [(false, eval e X.env)] := by rfl)
    (hbase : attributeBase (.Name x px) "extend" X.env (eval (.Name x px) X.env) = eval (.Name x px) X.env := by rfl)
    (hfew : ((backTo cpos (starEach [e] X.env)).all (fun x => !x.1) && (backToKw cpos (keywordEach [] X.env)).all (fun x => x.1.isSome) && decide (([e] : List Expr).length + ([] : List Keyword).length + (if ([] : List Keyword).isEmpty then 0 else 1) < 30)) = true := by rfl)
    (hline : (apos.endLine == cpos.line) = true := by rfl) (hplain : (backTo cpos (starEach [] X.env)).any (·.1) = false := by rfl) (hsw : swapsWith (.Call (.Attribute (.Name x px) "extend" apos) [e] [] cpos) none pos.line X.env = pure false := by rfl) :
    PS X (.Expr (.Call (.Attribute (.Name x px) "extend" apos) [e] [] cpos) pos) (sM c (sExtend i m)) :=
  ps_cq (ps_expr (pe_bm PySem.F.plainAttrs_list PySem.F.slot_list_extend PySem.F.type_list_extend mt_extend (pe_var (i := i) hN hv hd hcd) (pa_cons h pa_nil hs1) hbase hfew hline hs1 hplain) hsw) fun Dd st H ⟨pa, H0, F0, F, r, ok, po⟩ => by
    unfold sExtend at po
    split at po
    · rename_i ds0 hg
      obtain ⟨s0, hs0, hso0⟩ := getC_some hg
      obtain ⟨a, hst, nF, n0, vs0, hH0, hr0⟩ := ok.ownd hs0 hso0
      refine ⟨_, hst, .inl ⟨rfl, vs0, .inl (.inl hH0)⟩, ?_⟩
      refine ⟨pa, H0, F0, F, r, ok, (Po.bind po).mono (fun _ _ x => x) fun d r1 q F1 H1 v k1 e1 dp => ?_⟩
      split at q
      · rename_i es ds hg1
        split at q
        · rename_i hl
          obtain ⟨s1, hs1, hso1⟩ := getC_some hg1
          obtain ⟨a1, hst1, nF1, n01, vs, hH1, hr1⟩ := k1.ownd hs1 hso1
          rw [hst] at hst1
          cases hst1
          obtain ⟨b, rfl, z1, z2, ⟨ws, z3, z4⟩, z5⟩ := dp
          refine ⟨a, b, vs, ws, rfl, rfl, hH1, z3, by rw [dpa_len hr1, dpa_len z4, sizeLine_eq]; exact hl, ?_⟩
          exact q F1 _ st (k1.putC hg1 hst ⟨_, upd_same, dpa_app hr1 z4⟩) e1
        · exact q.elim
      · exact q.elim
    · exact po.elim
/-- a key that is a tuple of ints and texts -/
def keysD : List D → Option (List Key)
  | [] => some []
  | d :: ds => (keyD d).bind fun k => (keysD ds).map (k :: ·)
def tkeyD : D → Option (List Key)
  | .tuple ds => keysD ds
  | _ => none
theorem rp_keysD {K : PySem.W.Frag} {F : Hp} : ∀ {vs : List V} {ds : List D} {ks : List Key}, RpAll K F vs ds → keysD ds = some ks → vs = ks.map kV
  | _, _, _, .nil, h => by
    cases h
    rfl
  | _, _, _, .cons (d := d) (ds := ds) r t, h => by
    have h : (keyD d).bind (fun k => (keysD ds).map (k :: ·)) = some _ := h
    cases hk : keyD d with
    | none =>
      rw [hk] at h
      cases h
    | some k =>
      rw [hk] at h
      cases hks : keysD ds with
      | none =>
        rw [hks] at h
        cases h
      | some ks2 =>
        rw [hks] at h
        cases h
        rw [rp_keysD t hks, rp_key r hk]
        rfl
theorem rp_tkey {K : PySem.W.Frag} {F : Hp} {v : V} {d : D} {ks : List Key} (h : Rp K F v d) (hk : tkeyD d = some ks) : ∃ b, v = .ref b ∧ F b = some (.tup (ks.map kV)) := by
  cases h with
  | @tup a xs ds g1 g2 =>
    refine ⟨a, rfl, ?_⟩
    rw [← rp_keysD g2 hk]
    exact g1
  | _ => cases hk
/-! o[k] = e -/
theorem pset_or {t t' : TSet} (h : PSet X t) (h' : PSet X t') : PSet X (fun o i v H Q => t o i v H Q ∨ t' o i v H Q) :=
  fun pins s st H o i v ov iv u Q I ro ri rv q => q.elim (h pins s st H o i v ov iv u Q I ro ri rv) (h' pins s st H o i v ov iv u Q I ro ri rv)
/-- the slot is owned ahead of the key -/
def sPut' (i : Nat) (mk m : M D) : M Fl := m.bind fun d r => match getC i r with
  | none => .no
  | some _ => (mk r).bind fun k r => match getC i r with
    | some (.l ds) => (match k with
      | .int n => (match ixN ds.length n with
        | some j => .ok .nx (putC i (.l (ds.set j d)) r)
        | none => .no)
      | _ => .no)
    | some (.d kvs) => (match keyD k with
      | some y => if kvs.length < 16777216 then .ok .nx (putC i (.d (pK kvs y d)) r) else .no
      | none => .no)
    | some (.t kvs) => (match tkeyD k with
      | some y => if kvs.length < 16777216 then .ok .nx (putC i (.t (pK kvs y d)) r) else .no
      | none => .no)
    | some (.n _) => .no
    | none => .no
theorem s_put (i : Nat) {x : Str} {ek e : Expr} {mk m : M D} {px spos pos : Pos} (hk : PE X ek (tM c mk)) (h : PE X e (tM c m)) (hu : X.A.units + 1 < cLine) (hN : X.N[i]? = some x := by rfl) (hv : Vis X.env.scope x := by first | exact Or.inl rfl | exact Or.inr (Or.inl rfl) | exact Or.inr (Or.inr rfl)) (hd : (x == ("__debug__" : Str)) = false := by decide)
    (hcd : (x == ("__classdict__" : Str)) = false := by decide) (ha : ∀ v, assign (.Subscript (.Name x px) ek spos) X.env v = (do
      let ov ← holding [v] (eval (.Name x px) X.env)
      let iv ← holding [v, ov] (eval ek X.env)
      standAt spos
      holding [v, ov, iv] (setItem ov iv v)
      release [v, ov, iv] []) := by intro _; rfl)
    (hs : swapsWithSole [.Subscript (.Name x px) ek spos] e pos.line X.env = pure false := by rfl) (hw : swappedStores [.Subscript (.Name x px) ek spos] e X.env = pure none := by rfl)
    (h1 : (assignEach [.Subscript (.Name x px) ek spos] X.env).map (·.2) = [assign (.Subscript (.Name x px) ek spos) X.env] := by rfl) :
    PS X (.Assign [.Subscript (.Name x px) ek spos] e pos) (sM c (sPut' i mk m)) :=
  ps_cq (ps_asg h (pg_sub (pe_var (i := i) hN hv hd hcd) hk (pset_or set_list (set_dict hu)) ha) hs hw h1) fun Dd st H ⟨pa, H0, F0, F, r, ok, po⟩ => seqM ok po fun d r1 F1 H1 v k1 e1 dp q => by
    split at q
    · exact q.elim
    · rename_i ct0 hg
      obtain ⟨s0, hs0, hso0⟩ := getC_some hg
      obtain ⟨a, hst, _⟩ := k1.ownd hs0 hso0
      refine ⟨_, hst, pa, H0, F0, F1, r1, k1, (Po.bind q).mono (fun _ _ x => x) fun kd r2 q F2 H2 kv k2 e2 dk => ?_⟩
      split at q
      · rename_i ds hg2
        obtain ⟨s1, hs1, hso1⟩ := getC_some hg2
        obtain ⟨a1, hst1, nF1, n01, vs, hH1, hr1⟩ := k2.ownd hs1 hso1
        rw [hst] at hst1
        cases hst1
        split at q
        · rename_i n
          split at q
          · rename_i j hj
            cases rp_int dk
            refine .inl ⟨a, vs, n, j, rfl, rfl, hH1, by rw [dpa_len hr1]; exact hj, ?_⟩
            exact q F2 _ st (k2.putC hg2 hst ⟨_, upd_same, dpa_set (dp_mono e2 dp) j hr1⟩) (e1.trans e2)
          · exact q.elim
        · exact q.elim
      · rename_i kvs hg2
        obtain ⟨s1, hs1, hso1⟩ := getC_some hg2
        obtain ⟨a1, hst1, nF1, n01, ks, hH1, hr1⟩ := k2.ownd hs1 hso1
        rw [hst] at hst1
        cases hst1
        split at q
        · rename_i y hy
          split at q
          · rename_i hl
            cases rp_key dk hy
            refine .inr ⟨a, _, rfl, DPut.k (k := y) hH1 (by rw [kv_len hr1, sizeLine_eq]; exact hl), ?_⟩
            exact q F2 _ st (k2.putC hg2 hst ⟨_, upd_same, kv_put hr1 (dp_mono e2 dp)⟩) (e1.trans e2)
          · exact q.elim
        · exact q.elim
      · rename_i kvs hg2
        obtain ⟨s1, hs1, hso1⟩ := getC_some hg2
        obtain ⟨a1, hst1, nF1, n01, ks, hH1, hr1⟩ := k2.ownd hs1 hso1
        rw [hst] at hst1
        cases hst1
        split at q
        · rename_i y hy
          split at q
          · rename_i hl
            obtain ⟨b, rfl, hb⟩ := rp_tkey dk hy
            refine .inr ⟨a, _, rfl, DPut.t (k := y) hH1 (k2.fH.at_ _ _ hb fun ps z => nomatch z) (by rw [kv_len hr1, sizeLine_eq]; exact hl), ?_⟩
            exact q F2 _ st (k2.putC hg2 hst ⟨_, upd_same, kv_put hr1 (dp_mono e2 dp)⟩) (e1.trans e2)
          · exact q.elim
        · exact q.elim
      · exact q.elim
      · exact q.elim
/-! x[k], len(x), where x may be one's own -/
def ixL (ds : List D) : D → Option D
  | .int n => atI ds n
  | _ => none
def ixD : D → D → Option D
  | .list ds, k => ixL ds k
  | .tuple ds, k => ixL ds k
  | .str z, .int n => if z.length ≤ 16777216 then (atI z.cps.toList n).map fun ch => .str ⟨#[ch]⟩ else none
  | _, _ => none
theorem atI_rp {K : PySem.W.Frag} {F : Hp} {vs : List V} {ds : List D} {n : Int} {d : D} (hr : RpAll K F vs ds) (h : atI ds n = some d) : ∃ v, atI vs n = some v ∧ Rp K F v d := by
  unfold atI at h ⊢
  rw [dpa_len hr]
  cases hj : ixN ds.length n with
  | none =>
    rw [hj] at h
    cases h
  | some j =>
    rw [hj] at h
    exact dpa_get hr h
theorem opr_cq {f : Value → Value → Sem Value} {r r' : R2} (h : OpR X f r) (i : ∀ x y H Q, r' x y H Q → r x y H Q) : OpR X f r' := fun pins s st H x y v u Q I rx ry q => h pins s st H x y v u Q I rx ry (i x y H Q q)
theorem unr_cq {f : Value → Sem Value} {r r' : V → Hp → VK → Prop} (h : UnR X f r) (i : ∀ x H Q, r' x H Q → r x H Q) : UnR X f r' := fun pins s st H x v Q I rx q => h pins s st H x v Q I rx (i x H Q q)
theorem ixr_cq {r r' : R2} (h : IxR X r) (i : ∀ x y H Q, r' x y H Q → r x y H Q) : IxR X r' := fun va sl pins s st H x y v u Q I rx ry q => h va sl pins s st H x y v u Q I rx ry (i x y H Q q)
theorem callr_cq {f : Value} {r r' : List V → Hp → VK → Prop} (h : CallR X f r) (i : ∀ x H Q, r' x H Q → r x H Q) : CallR X f r' := fun pins s st H x v Q I rx q => h pins s st H x v Q I rx (i x H Q q)
theorem ix_data (hK : c.K = X.K := by rfl) : IxR X (rD2 c.K ixD) := ixr_cq ix_seq fun x y H Q ⟨F, d, e, z, fh, dx, dy, hz, q⟩ => by
  cases dx with
  | @lst a vs ds h1 h2 =>
    cases dy with
    | int n =>
      obtain ⟨v, g1, g2⟩ := atI_rp h2 hz
      exact .inl ⟨a, vs, n, v, rfl, rfl, by rw [← hK]; exact fh.l h1, g1, q v F H (.inl ⟨rfl, rfl⟩) g2⟩
    | _ => cases hz
  | @tup a vs ds h1 h2 =>
    cases dy with
    | int n =>
      obtain ⟨v, g1, g2⟩ := atI_rp h2 hz
      exact .inr (.inl ⟨a, vs, n, v, rfl, rfl, by rw [← hK]; exact fh.t h1, g1, q v F H (.inl ⟨rfl, rfl⟩) g2⟩)
    | _ => cases hz
  | str w =>
    cases dy with
    | int n =>
      have hz : (if w.length ≤ 16777216 then (atI w.cps.toList n).map fun ch => PyData.str ⟨#[ch]⟩ else none) = some z := hz
      by_cases hl : w.length ≤ 16777216
      · rw [if_pos hl] at hz
        cases ha : atI w.cps.toList n with
        | none =>
          rw [ha] at hz
          cases hz
        | some ch =>
          rw [ha] at hz
          cases hz
          exact .inr (.inr ⟨w, n, ch, rfl, rfl, by rw [sizeLine_eq]; exact hl, ha, q _ F H (.inl ⟨rfl, rfl⟩) (.str _)⟩)
      · rw [if_neg hl] at hz
        cases hz
    | _ => cases hz
  | _ => cases hz
theorem pe_or' {e : Expr} {t t' : TE} (h : PE X e t) (h' : PE X e t') : PE X e (fun st H Q => t st H Q ∨ t' st H Q) := ⟨fun pins s st H Q I q => q.elim (h.run pins s st H Q I) (h'.run pins s st H Q I)⟩
/-- x[k], x a list or a dict of one's own, or data -/
def eIxS (i : Nat) (mk : M D) : M D := fun r => match getC i r with
  | some (.l _) => (mk r).bind fun k r => match getC i r with
    | some (.l ds) => M.opt (ixL ds k) r
    | _ => .no
  | some (.d _) => (mk r).bind fun k r => match getC i r with
    | some (.d kvs) => M.opt ((keyD k).bind (vK kvs)) r
    | _ => .no
  | some (.t _) => .no
  | some (.n _) => .no
  | none => bin ixD (getS i) mk r
theorem e_ixS (i : Nat) {x : Str} {ek : Expr} {mk : M D} {px pos : Pos} (hk : PE X ek (tM c mk)) (hu : X.A.units + 1 < cLine) (hK : c.K = X.K := by rfl) (hs : PlainIx ek := by exact fun _ _ => rfl) (hN : X.N[i]? = some x := by rfl) (hv : Vis X.env.scope x := by first | exact Or.inl rfl | exact Or.inr (Or.inl rfl) | exact Or.inr (Or.inr rfl)) (hd : (x == ("__debug__" : Str)) = false := by decide)
    (hcd : (x == ("__classdict__" : Str)) = false := by decide) : PE X (.Subscript (.Name x px) ek pos) (tM c (eIxS i mk)) :=
  pe_cq (pe_or' (pe_or' (pe_ix ix_list (pe_var (i := i) hN hv hd hcd) hk hs) (pe_dget hu (pe_var (i := i) hN hv hd hcd) hk hs)) (e_ix (c := c) (ix_data hK) (e_var i hN hv hd hcd) hk hs)) fun st H Q ⟨pa, H0, F0, F, r, ok, po⟩ => by
    unfold eIxS at po
    split at po
    · rename_i ds0 hg
      obtain ⟨s0, hs0, hso0⟩ := getC_some hg
      obtain ⟨a, hst, _⟩ := ok.ownd hs0 hso0
      refine .inl (.inl ⟨_, hst, pa, H0, F0, F, r, ok, (Po.bind po).mono (fun _ _ x => x) fun kd r1 q F1 H1 v k1 e1 dp => ?_⟩)
      split at q
      · rename_i ds hg1
        obtain ⟨s1, hs1, hso1⟩ := getC_some hg1
        obtain ⟨a1, hst1, nF1, n01, vs, hH1, hr1⟩ := k1.ownd hs1 hso1
        rw [hst] at hst1
        cases hst1
        obtain ⟨z, hz, q2⟩ := opt_po q
        cases dp with
        | int n =>
          obtain ⟨w, g1, g2⟩ := atI_rp hr1 hz
          exact ⟨a, vs, n, w, rfl, rfl, .inl (.inl hH1), g1, q2 F1 H1 w k1 e1 g2⟩
        | _ => cases hz
      · exact q.elim
    · rename_i kv0 hg
      obtain ⟨s0, hs0, hso0⟩ := getC_some hg
      obtain ⟨a, hst, _⟩ := ok.ownd hs0 hso0
      refine .inl (.inr ⟨_, hst, pa, H0, F0, F, r, ok, (Po.bind po).mono (fun _ _ x => x) fun kd r1 q F1 H1 v k1 e1 dp => ?_⟩)
      split at q
      · rename_i kvs hg1
        obtain ⟨s1, hs1, hso1⟩ := getC_some hg1
        obtain ⟨a1, hst1, nF1, n01, ks, hH1, hr1⟩ := k1.ownd hs1 hso1
        rw [hst] at hst1
        cases hst1
        obtain ⟨z, hz, q⟩ := opt_po q
        cases hy : keyD kd with
        | none =>
          rw [hy] at hz
          cases hz
        | some y =>
          rw [hy] at hz
          obtain ⟨w, g1, g2⟩ := kv_get hr1 hz
          cases rp_key dp hy
          refine ⟨a, w, rfl, ?_, q F1 H1 w k1 e1 g2⟩
          rw [← g1]
          exact DGet.k hH1
      · exact q.elim
    · exact po.elim
    · exact po.elim
    · exact .inr ⟨pa, H0, F0, F, r, ok, po⟩
/-- len(x) -/
def lenD : D → Option D
  | .list ds => some (.int (ds.length : Nat))
  | .tuple ds => some (.int (ds.length : Nat))
  | .str z => if z.length ≤ 16777216 then some (.int (z.length : Nat)) else none
  | _ => none
def one (g : D → Option D) : List D → Option D
  | [d] => g d
  | _ => none
theorem one_some {g : D → Option D} {ds : List D} {z : D} (h : one g ds = some z) : ∃ d, ds = [d] ∧ g d = some z := by
  unfold one at h
  split at h
  · exact ⟨_, rfl, h⟩
  · cases h
theorem len_data (hK : c.K = X.K := by rfl) : CallR X (.builtin "len") (rDA c.K (one lenD)) := callr_cq call_len fun xs H Q ⟨F, ds, z, fh, dps, hz, q⟩ => by
  obtain ⟨d, rfl, hz⟩ := one_some hz
  obtain ⟨v, rfl, dp⟩ := rpa_one dps
  cases dp with
  | @lst a vs ds h1 h2 =>
    cases hz
    refine ⟨_, ds.length, rfl, .inl ⟨vs, by rw [← hK]; exact fh.l h1, (dpa_len h2).symm⟩, q _ F H (.inl ⟨rfl, rfl⟩) (.int _)⟩
  | @tup a vs ds h1 h2 =>
    cases hz
    refine ⟨_, ds.length, rfl, .inr ⟨vs, by rw [← hK]; exact fh.t h1, (dpa_len h2).symm⟩, q _ F H (.inl ⟨rfl, rfl⟩) (.int _)⟩
  | str w =>
    have hz : (if w.length ≤ 16777216 then some (PyData.int (w.length : Nat)) else none) = some z := hz
    by_cases hl : w.length ≤ 16777216
    · rw [if_pos hl] at hz
      cases hz
      exact ⟨_, w.length, rfl, ⟨by rw [sizeLine_eq]; exact hl, rfl⟩, q _ F H (.inl ⟨rfl, rfl⟩) (.int _)⟩
    · rw [if_neg hl] at hz
      cases hz
  | _ => cases hz
def eLenS (i : Nat) : M D := fun r => match getC i r with
  | some (.l ds) => .ok (.int (ds.length : Nat)) r
  | some (.d kvs) => .ok (.int (kvs.length : Nat)) r
  | some (.t _) => .no
  | some (.n _) => .no
  | none => nry (one lenD) (aCons (getS i) aNil) r
/-! {k: v, ..} -/
end
end Pu
namespace Pu
open PySem PySem.Spec PyProof.Rows L2
variable [TabT]
/-! ### what the operators tell of data -/
def addD : D → D → Option D
  | .int i, .int j => some (.int (i + j))
  | .str a, .str b => szC (a.length + b.length) (.str (a ++ b))
  | .tuple xs, .tuple ys => szC (xs.length + ys.length) (.tuple (xs ++ ys))
  | .list xs, .list ys => szC (xs.length + ys.length) (.list (xs ++ ys))
  | _, _ => none
def subD : D → D → Option D
  | .int i, .int j => some (.int (i - j))
  | _, _ => none
/-- one factor of at most 64 bits, or both together below a hundred million -/
def mulOk (i j : Int) : Prop := i.natAbs < 2 ^ 64 ∨ j.natAbs < 2 ^ 64 ∨ i.natAbs.log2 + j.natAbs.log2 < 100000000
instance (i j : Int) : Decidable (mulOk i j) := by unfold mulOk; exact inferInstance
noncomputable def mulD : D → D → Option D
  | .int i, .int j => cI (mulOk i j) (some (.int (i * j))) none
  | .list xs, .int k => cI ((-(2 ^ 63) ≤ k ∧ k < 2 ^ 63) ∧ xs.length * k.toNat ≤ 16777216) (some (.list (List.replicate k.toNat xs).flatten)) none
  | .tuple xs, .int k => cI (-1000 ≤ k ∧ k ≤ 1000 ∧ xs.length ≤ 1000) (some (.tuple (List.replicate k.toNat xs).flatten)) none
  | _, _ => none
noncomputable def fdivD : D → D → Option D
  | .int i, .int j => cI (j ≠ 0 ∧ j.natAbs.log2 < 9000) (some (.int (i.fdiv j))) none
  | _, _ => none
noncomputable def modD : D → D → Option D
  | .int i, .int j => cI (j ≠ 0) (some (.int (i.fmod j))) none
  | _, _ => none
noncomputable def powD : D → D → Option D
  | .int i, .int j => cI (0 ≤ j ∧ j ≤ 1000000 ∧ i.natAbs < 2 ^ 64) (some (.int (i ^ j.toNat))) none
  | _, _ => none
def negD : D → Option D
  | .int i => some (.int (-i))
  | _ => none
noncomputable def ltD : D → D → Option D
  | .int i, .int j => some (.bool (cd (i < j)))
  | _, _ => none
noncomputable def leD : D → D → Option D
  | .int i, .int j => some (.bool (cd (i ≤ j)))
  | _, _ => none
noncomputable def gtD : D → D → Option D
  | .int i, .int j => some (.bool (cd (j < i)))
  | _, _ => none
noncomputable def geD : D → D → Option D
  | .int i, .int j => some (.bool (cd (j ≤ i)))
  | _, _ => none
/-- rows of other lengths, whatever they hold -/
def eqL : D → D → Option D
  | .list xs, .list ys => if xs.length = ys.length then none else some (.bool false)
  | .tuple xs, .tuple [] => if xs.length = 0 then none else some (.bool false)
  | _, _ => none
def eqD : D → D → Option D
  | .str a, .str b => some (.bool (decide (a = b)))
  | d, e => if SeqAt.shaped d = true ∧ SeqAt.shaped e = true then some (.bool (PyData.eqv d e)) else eqL d e
def neD : D → D → Option D
  | .str a, .str b => some (.bool (!decide (a = b)))
  | d, e => if SeqAt.shaped d = true ∧ SeqAt.shaped e = true then some (.bool (!PyData.eqv d e)) else none
section
variable {X : Cx} {c : Cc}
theorem mulOk.ok {i j : Int} (h : mulOk i j) : IntMulOk i j := by
  have b : ∀ x : Int, Builtin.Int.intBits x ≤ x.natAbs.log2 + 1 := fun x => by
    unfold Builtin.Int.intBits
    split <;> omega
  have s64 : ∀ x : Int, x.natAbs < 2 ^ 64 → Builtin.Int.intBits x ≤ 64 := fun x hx => by
    have h1 := b x
    have h2 : x.natAbs.log2 < 64 := PySem.Flt.log2_lt_of (by decide) hx
    omega
  rcases h with h | h | h
  · exact .of_left (s64 i h)
  · exact .of_right (s64 j h)
  · have h1 := b i
    have h2 := b j
    have e : bitsLine = 134217728 := by decide
    unfold IntMulOk
    intro z
    rw [Bool.and_eq_true] at z
    have z2 := z.2
    unfold Builtin.Int.intTooBig at z2
    have z3 := of_decide_eq_true z2
    rw [e] at z3
    omega
/-- lists that are read, added -/
theorem op_catR : OpR X (binaryOp .Add) (fun x y H Q => ∃ l b xs zs, x = .ref l ∧ y = .ref b ∧ SqL X.K H l xs ∧ SqL X.K H b zs ∧ xs.length + zs.length ≤ sizeLine ∧ ∀ p, H p = none → Q (.ref p) (upd H p (.lst (xs ++ zs)))) := by
  intro pins s st H x y v u Q I rx ry h
  obtain ⟨l, b, xs, zs, rfl, rfl, hl, hb, hz, q⟩ := h
  cases rx
  cases ry
  obtain ⟨us, r1, ⟨⟨c1, d1, t1, p1⟩, n1, e1, hc1, _, hd1⟩, _⟩ := I.list hl
  obtain ⟨ws, r2, ⟨⟨c2, d2, t2, p2⟩, n2, e2, hc2, _, hd2⟩, _⟩ := I.list hb
  simp only at hc1 hd1 hc2 hd2
  subst hc1 hd1 hc2 hd2
  have l1 := r1.length
  have l2 := r2.length
  refine concat_meets ⟨_, e1, rfl⟩ ⟨_, e2, rfl⟩ noFill_list_add seq_list_add PySem.F.slot_list_add PySem.F.entry_list_add (PySem.F.args_list_add_2 _ _) (list_addW l b us.toArray ws.toArray n1 n2 d1 d2 p1 p2 (by rw [List.size_toArray, List.size_toArray]; omega)) ⟨e1, e2, ?_⟩
  have ea : us.toArray ++ ws.toArray = (us ++ ws).toArray := by simp
  rw [ea]
  exact ⟨.ref _, _, I.lnew (t' := s.toks) (r1.append r2) (by rw [List.length_append]; exact hz), rfl, q _ I.fresh⟩
theorem szC_some {α : Type} {n : Nat} {a z : α} (h : szC n a = some z) : n ≤ sizeLine ∧ a = z := by
  unfold szC at h
  split at h
  · cases h
    exact ⟨by rw [sizeLine_eq]; assumption, rfl⟩
  · cases h
theorem add_data (hK : c.K = X.K := by rfl) : OpR X (binaryOp .Add) (rD2 c.K addD) :=
  opr_cq (((op_add.or op_add_str).or op_catA).or op_catR) fun x y H Q ⟨F, d, e, z, fh, dx, dy, hz, q⟩ => by
    cases dx with
    | int i =>
      cases dy with
      | int j =>
        cases hz
        exact .inl (.inl (.inl ⟨i, j, rfl, rfl, q _ F H (.inl ⟨rfl, rfl⟩) (.int _)⟩))
      | _ => cases hz
    | str a =>
      cases dy with
      | str b =>
        obtain ⟨h1, rfl⟩ := szC_some hz
        exact .inl (.inl (.inr ⟨a, b, rfl, rfl, h1, q _ F H (.inl ⟨rfl, rfl⟩) (.str _)⟩))
      | _ => cases hz
    | @tup a vs ds g1 g2 =>
      cases dy with
      | @tup b ws es g3 g4 =>
        obtain ⟨h1, rfl⟩ := szC_some hz
        refine .inl (.inr ⟨a, b, vs, ws, rfl, rfl, by rw [← hK]; exact fh.t g1, by rw [← hK]; exact fh.t g3, by rw [dpa_len g2, dpa_len g4]; exact h1, fun e => ?_, fun n e => ?_, fun n n2 p np => ?_⟩)
        · subst e
          cases g2
          exact q _ F H (.inl ⟨rfl, rfl⟩) (.tup g3 g4)
        · subst e
          cases g4
          rw [List.append_nil] at q
          exact q _ F H (.inl ⟨rfl, rfl⟩) (.tup g1 g2)
        · have nF := fh.nn np
          exact q _ _ _ (.inr ⟨p, _, np, rfl, rfl⟩) (.tup upd_same (dpa_mono (Ex.new nF) (dpa_app g2 g4)))
      | _ => cases hz
    | @lst a vs ds g1 g2 =>
      cases dy with
      | @lst b ws es g3 g4 =>
        obtain ⟨h1, rfl⟩ := szC_some hz
        refine .inr ⟨a, b, vs, ws, rfl, rfl, by rw [← hK]; exact fh.l g1, by rw [← hK]; exact fh.l g3, by rw [dpa_len g2, dpa_len g4]; exact h1, fun p np => ?_⟩
        have nF := fh.nn np
        exact q _ _ _ (.inr ⟨p, _, np, rfl, rfl⟩) (.lst (.inl (.inl upd_same)) (dpa_mono (Ex.new nF) (dpa_app g2 g4)))
      | _ => cases hz
    | _ => cases hz
theorem sub_data : OpR X (binaryOp .Sub) (rD2 c.K subD) := opr_cq op_sub fun x y H Q ⟨F, d, e, z, fh, dx, dy, hz, q⟩ => by
  cases dx with
  | int i =>
    cases dy with
    | int j =>
      cases hz
      exact ⟨i, j, rfl, rfl, q _ F H (.inl ⟨rfl, rfl⟩) (.int _)⟩
    | _ => cases hz
  | _ => cases hz
theorem op_mulA : OpR X (binaryOp .Mult) (rI mulOk fun i j => .int (i * j)) := opI fun _ _ _ _ _ _ _ hc q => mul_int q hc.ok
theorem op_repR : OpR X (binaryOp .Mult) (fun x y H Q => ∃ l k xs, x = .ref l ∧ y = .int k ∧ SqL X.K H l xs ∧ -(2 ^ 63) ≤ k ∧ k < 2 ^ 63 ∧ xs.length * k.toNat ≤ sizeLine ∧ ∀ p, H p = none → Q (.ref p) (upd H p (.lst (List.replicate k.toNat xs).flatten))) := by
  intro pins s st H x y v u Q I rx ry h
  obtain ⟨l, k, xs, rfl, rfl, hl, h1, h2, hz, q⟩ := h
  cases rx
  obtain ⟨t, rfl⟩ := ry
  obtain ⟨us, r1, ⟨⟨c1, d1, t1, p1⟩, n1, e1, hc1, _, hd1⟩, _⟩ := I.list hl
  simp only at hc1 hd1
  subst hc1 hd1
  have l1 := r1.length
  have hlen : us.toArray.size * k.toNat ≤ 2 ^ 24 := by
    have z := hz
    rw [sizeLine_eq, l1] at z
    rw [List.size_toArray]
    omega
  refine wpAny_binaryOp_repeat_ref (T := "list") (U := "int") (by decide) ⟨_, e1, rfl⟩ (fun s' => typeIs_int s' k t) noFill_list_mul F.fills_int_mul F.slot_int_rmul repeat_list F.slot_int_index.lookup
    (call_meets F.slot_int_rmul (typeIs_int s k t) F.entry_int_rmul (F.args_int_rmul_2 _ _) (lm_int_rmul_list_any k t l us.toArray n1 d1 p1)
      ⟨e1, rfl, ⟨_, e1, rfl⟩, call_meets F.slot_list_mul ⟨_, e1, rfl⟩ F.entry_list_mul (F.args_list_mul_2 _ _)
        (lm_list_mul_any l us.toArray n1 d1 p1 k t (by simp [Builtin.List.listFitsIndex]; omega) (by omega) (by simp [Builtin.List.listTooLong, sizeLine]; omega)) ⟨e1, ?_⟩⟩)
  rw [listMul_foldl_if]
  exact ⟨.ref _, _, I.lnew (t' := s.toks) (r1.rep k.toNat) (by rw [PyProof.Rows.lm_len_rep_flat, Nat.mul_comm]; exact hz), rfl, q _ I.fresh⟩
theorem tuple_mul1 (l : Addr) (items : Array Value) (n : Nat) (dd : Option Addr) (sl : Array (Option Value)) (x : Int) (u : Tok) (c0 : (decide (x < -(2 ^ 63)) || decide (x ≥ 2 ^ 63)) = false) (c1 : (items.isEmpty || x == 1) = true) :
    Meets (Builtin.«tuple.__mul__» ⟨[.ref l, .int x u], []⟩) (fun _ R s => s.heap.get? l = some { cls := .type "tuple", dict := dd, data := .seq items n, slots := sl } ∧ R (.ok (.ret (Value.ref l))) s) :=
  .of_wp fun prog w A R s h => by
    obtain ⟨hp, g, d, tk, os⟩ := s
    obtain ⟨hl, h⟩ := h
    have f1 := AutoSeq1.idx_int
    wp_walk using wpAny_loadPart' hl
    repeat (first
      | (refine wpAny_ite_false (decide_eq_false (by rw [c0]; exact Bool.false_ne_true)) ?_; wp_walk using wpAny_loadPart' hl)
      | (refine wpAny_ite_true (decide_eq_true c1) ?_; wp_walk using wpAny_loadPart' hl))
    exact ⟨_, rfl, h⟩
theorem tuple_mul0 (l : Addr) (items : Array Value) (n : Nat) (dd : Option Addr) (sl : Array (Option Value)) (x : Int) (u : Tok) (c0 : (decide (x < -(2 ^ 63)) || decide (x ≥ 2 ^ 63)) = false) (c1 : (items.isEmpty || x == 1) = false) (c2 : (decide (x ≤ 0) || items.isEmpty) = true) :
    Meets (Builtin.«tuple.__mul__» ⟨[.ref l, .int x u], []⟩) (fun _ R s => s.heap.get? l = some { cls := .type "tuple", dict := dd, data := .seq items n, slots := sl } ∧ R (.ok (.ret (Value.ref s.heap.objs.size))) { s with heap := s.heap.push { cls := Value.type "tuple", data := Data.seq #[] }, toks := s.toks }) :=
  .of_wp fun prog w A R s h => by
    obtain ⟨hp, g, d, tk, os⟩ := s
    obtain ⟨hl, h⟩ := h
    have f1 := AutoSeq1.idx_int
    wp_walk using wpAny_loadPart' hl
    repeat (first
      | (refine wpAny_ite_false (decide_eq_false (by rw [c0]; exact Bool.false_ne_true)) ?_; wp_walk using wpAny_loadPart' hl)
      | (refine wpAny_ite_false (decide_eq_false (by rw [c1]; exact Bool.false_ne_true)) ?_; wp_walk using wpAny_loadPart' hl)
      | (refine wpAny_ite_true (decide_eq_true c2) ?_; wp_walk using wpAny_loadPart' hl))
    exact ⟨_, rfl, h⟩
theorem op_repT01 : OpR X (binaryOp .Mult) (fun x y H Q => ∃ l k xs, x = .ref l ∧ y = .int k ∧ SqT X.K H l xs ∧ -(2 ^ 63) ≤ k ∧ k < 2 ^ 63 ∧ (((xs = [] ∨ k = 1) ∧ Q (.ref l) H) ∨ ((xs ≠ [] ∧ k ≤ 0) ∧ ∀ p, H p = none → Q (.ref p) (upd H p (.tup []))))) := by
  intro pins s σ H x y v u Q I rx ry h
  obtain ⟨l, k, xs, rfl, rfl, hT, h1, h2, q⟩ := h
  cases rx
  obtain ⟨t, rfl⟩ := ry
  obtain ⟨its, r, ⟨⟨cls, dd, data, sl⟩, ho, hc, n, hd⟩, hs⟩ := I.tuple hT
  simp only at hc hd
  subst hc hd
  have hle : its.length = xs.length := r.length.symm
  have c0 : (decide (k < -(2 ^ 63)) || decide (k ≥ 2 ^ 63)) = false := by
    rw [decide_eq_false (by omega), decide_eq_false (by omega)] <;> rfl
  have hem : its.toArray.isEmpty = true ↔ xs = [] := by
    rw [List.isEmpty_toArray, List.isEmpty_iff_length_eq_zero, hle, List.length_eq_zero_iff]
  refine wpAny_binaryOp_repeat_ref (T := "tuple") (U := "int") (by decide) ⟨_, ho, rfl⟩ (fun s' => typeIs_int s' k t) noFill_tuple_mul F.fills_int_mul F.slot_int_rmul repeat_tuple F.slot_int_index.lookup
    (call_meets F.slot_int_rmul (typeIs_int s k t) F.entry_int_rmul (F.args_int_rmul_2 _ _) (int_rmul_tuple k t l its.toArray n dd sl) ⟨ho, rfl, ⟨_, ho, rfl⟩, ?_⟩)
  rcases q with ⟨hq, q⟩ | ⟨⟨hn, hk⟩, q⟩
  · have c1 : (its.toArray.isEmpty || k == 1) = true := by
      rw [Bool.or_eq_true, beq_iff_eq, hem]
      exact hq
    exact call_meets F.slot_tuple_mul ⟨_, ho, rfl⟩ F.entry_tuple_mul (F.args_tuple_mul_2 _ _) (tuple_mul1 l its.toArray n dd sl k t c0 c1) ⟨ho, .ref l, H, I, rfl, q⟩
  · have c1 : (its.toArray.isEmpty || k == 1) = false := by
      rw [Bool.or_eq_false_iff]
      refine ⟨?_, beq_eq_false_iff_ne.mpr (by omega)⟩
      cases e : its.toArray.isEmpty with
      | false => rfl
      | true => exact absurd (hem.mp e) hn
    have c2 : (decide (k ≤ 0) || its.toArray.isEmpty) = true := by
      rw [decide_eq_true hk]
      rfl
    refine call_meets F.slot_tuple_mul ⟨_, ho, rfl⟩ F.entry_tuple_mul (F.args_tuple_mul_2 _ _) (tuple_mul0 l its.toArray n dd sl k t c0 c1 c2) ⟨ho, ?_⟩
    refine ⟨.ref s.heap.objs.size, _, I.laid (t' := s.toks) (o := .tup []) (fun b ob q => Heap.get?_push_of_some _ q) (Nat.le_refl _) ?_, rfl, q _ (I.hok.fresh (Nat.le_refl _))⟩
    exact ⟨by simp, _, .nil, IsTup.new _ _⟩
theorem mul_data (hK : c.K = X.K := by rfl) : OpR X (binaryOp .Mult) (rD2 c.K mulD) := opr_cq (((op_mulA.or op_repR).or op_repT).or op_repT01) fun x y H Q ⟨F, d, e, z, fh, dx, dy, hz, q⟩ => by
  cases dx with
  | int i =>
    cases dy with
    | int j =>
      have hz : (if mulOk i j then some (PyData.int (i * j)) else none) = some z := by
        rw [← cI_eq]
        exact hz
      by_cases hm : mulOk i j
      · rw [if_pos hm] at hz
        cases hz
        exact .inl (.inl (.inl ⟨i, j, rfl, rfl, hm, q _ F H (.inl ⟨rfl, rfl⟩) (.int _)⟩))
      · rw [if_neg hm] at hz
        cases hz
    | _ => cases hz
  | @lst a vs ds g1 g2 =>
    cases dy with
    | int k =>
      have hz : (if (-(2 ^ 63) ≤ k ∧ k < 2 ^ 63) ∧ ds.length * k.toNat ≤ 16777216 then some (PyData.list (List.replicate k.toNat ds).flatten) else none) = some z := by
        rw [← cI_eq]
        exact hz
      split at hz
      · rename_i hm
        cases hz
        refine .inl (.inl (.inr ⟨a, k, vs, rfl, rfl, by rw [← hK]; exact fh.l g1, hm.1.1, hm.1.2, by rw [dpa_len g2, sizeLine_eq]; exact hm.2, fun p np => ?_⟩))
        have nF := fh.nn np
        exact q _ _ _ (.inr ⟨p, _, np, rfl, rfl⟩) (.lst (.inl (.inl upd_same)) (dpa_mono (Ex.new nF) (dpa_rep g2 _)))
      · cases hz
    | _ => cases hz
  | @tup a vs ds g1 g2 =>
    cases dy with
    | int k =>
      have hz : (if -1000 ≤ k ∧ k ≤ 1000 ∧ ds.length ≤ 1000 then some (PyData.tuple (List.replicate k.toNat ds).flatten) else none) = some z := by
        rw [← cI_eq]
        exact hz
      split at hz
      · rename_i hm
        cases hz
        by_cases hs : vs = [] ∨ k = 1
        · refine .inr ⟨a, k, vs, rfl, rfl, by rw [← hK]; exact fh.t g1, by omega, by omega, .inl ⟨hs, ?_⟩⟩
          have e : (List.replicate k.toNat ds).flatten = ds := by
            rcases hs with hs | hs
            · subst hs
              cases g2
              simp
            · subst hs
              simp
          rw [e] at q
          exact q _ F H (.inl ⟨rfl, rfl⟩) (.tup g1 g2)
        · by_cases hk : 2 ≤ k
          · refine .inl (.inr ⟨a, k, vs, rfl, rfl, by rw [← hK]; exact fh.t g1, fun e => hs (.inl e), hk, hm.2.1, by rw [dpa_len g2]; exact hm.2.2, fun p np => ?_⟩)
            have nF := fh.nn np
            exact q _ _ _ (.inr ⟨p, _, np, rfl, rfl⟩) (.tup upd_same (dpa_mono (Ex.new nF) (dpa_rep g2 _)))
          · have hk0 : k ≤ 0 := by
              have : k ≠ 1 := fun e => hs (.inr e)
              omega
            refine .inr ⟨a, k, vs, rfl, rfl, by rw [← hK]; exact fh.t g1, by omega, by omega, .inr ⟨⟨fun e => hs (.inl e), hk0⟩, fun p np => ?_⟩⟩
            have e : (List.replicate k.toNat ds).flatten = [] := by
              rw [Int.toNat_of_nonpos hk0]
              rfl
            rw [e] at q
            exact q _ _ _ (.inr ⟨p, _, np, rfl, rfl⟩) (.tup upd_same .nil)
      · cases hz
    | _ => cases hz
  | _ => cases hz
theorem mod_data : OpR X (binaryOp .Mod) (rD2 c.K modD) := opr_cq op_modN fun x y H Q ⟨F, d, e, z, fh, dx, dy, hz, q⟩ => by
  cases dx with
  | int i =>
    cases dy with
    | int j =>
      have hz : (if j ≠ 0 then some (PyData.int (i.fmod j)) else none) = some z := by
        rw [← cI_eq]
        exact hz
      split at hz
      · rename_i hm
        cases hz
        exact ⟨i, j, rfl, rfl, hm, q _ F H (.inl ⟨rfl, rfl⟩) (.int _)⟩
      · cases hz
    | _ => cases hz
  | _ => cases hz
theorem pow_data : OpR X (binaryOp .Pow) (rD2 c.K powD) := opr_cq op_pow fun x y H Q ⟨F, d, e, z, fh, dx, dy, hz, q⟩ => by
  cases dx with
  | int i =>
    cases dy with
    | int j =>
      have hz : (if 0 ≤ j ∧ j ≤ 1000000 ∧ i.natAbs < 2 ^ 64 then some (PyData.int (i ^ j.toNat)) else none) = some z := by
        rw [← cI_eq]
        exact hz
      split at hz
      · rename_i hm
        cases hz
        exact ⟨i, j, rfl, rfl, hm, q _ F H (.inl ⟨rfl, rfl⟩) (.int _)⟩
      · cases hz
    | _ => cases hz
  | _ => cases hz
theorem neg_data : UnR X (unaryOp .USub) (rD1 c.K negD) := unr_cq un_neg fun x H Q ⟨F, d, z, fh, dx, hz, q⟩ => by
  cases dx with
  | int i =>
    cases hz
    exact ⟨i, rfl, q _ F H (.inl ⟨rfl, rfl⟩) (.int _)⟩
  | _ => cases hz
theorem cmpI_data {op : CmpOp} {p : Int → Int → Bool} {g : D → D → Option D} (ho : OpR X (compareOp op) (rI0 fun i j => .bl (p i j))) (hg : ∀ d e z, g d e = some z → ∃ i j, d = .int i ∧ e = .int j ∧ z = .bool (p i j)) : OpR X (compareOp op) (rD2 c.K g) :=
  opr_cq ho fun x y H Q ⟨F, d, e, z, fh, dx, dy, hz, q⟩ => by
    obtain ⟨i, j, rfl, rfl, rfl⟩ := hg _ _ _ hz
    cases rp_int dx
    cases rp_int dy
    exact ⟨i, j, rfl, rfl, q _ F H (.inl ⟨rfl, rfl⟩) (.bl _)⟩
theorem lt_data : OpR X (compareOp .Lt) (rD2 c.K ltD) := cmpI_data op_lt fun d e z h => by
  unfold ltD at h
  split at h <;> cases h
  exact ⟨_, _, rfl, rfl, by rw [cd_eq]⟩
theorem le_data : OpR X (compareOp .LtE) (rD2 c.K leD) := cmpI_data op_le fun d e z h => by
  unfold leD at h
  split at h <;> cases h
  exact ⟨_, _, rfl, rfl, by rw [cd_eq]⟩
theorem gt_data : OpR X (compareOp .Gt) (rD2 c.K gtD) := cmpI_data op_gt fun d e z h => by
  unfold gtD at h
  split at h <;> cases h
  exact ⟨_, _, rfl, rfl, by rw [cd_eq]⟩
theorem ge_data : OpR X (compareOp .GtE) (rD2 c.K geD) := cmpI_data op_ge fun d e z h => by
  unfold geD at h
  split at h <;> cases h
  exact ⟨_, _, rfl, rfl, by rw [cd_eq]⟩
theorem dec_str (a b : Str) : decide (V.str a = V.str b) = decide (a = b) := by
  refine decide_eq_decide.mpr ⟨fun h => ?_, fun h => by rw [h]⟩
  cases h
  rfl
theorem op_eqLL (hu : X.A.units + 64 < cLine) : OpR X (compareOp .Eq) (fun x y H Q => ∃ a b xs ys, x = .ref a ∧ y = .ref b ∧ ((SqL X.K H a xs ∧ SqL X.K H b ys ∧ xs.length ≠ ys.length) ∨ (SqT X.K H a xs ∧ SqT X.K H b ys ∧ ys = [] ∧ xs.length ≠ 0)) ∧ Q (.bl false) H) := by
  intro pins s σ H x y v u Q I rx ry h
  obtain ⟨a, b, xs, ys, rfl, rfl, h, q⟩ := h
  cases rx
  cases ry
  rcases h with ⟨h1, h2, hne⟩ | ⟨h1, h2, he, hne⟩
  · obtain ⟨its, r, pl, hz⟩ := I.list h1
    obtain ⟨its2, r2, pl2, hz2⟩ := I.list h2
    have l1 := r.length
    have l2 := r2.length
    exact SeqAt.eq_list_lengthsAt pl.isList pl2.isList (by simp; omega) (by omega) ⟨.bl _, H, I, rfl, q⟩
  · obtain ⟨its, r, pl, hz⟩ := I.tuple h1
    obtain ⟨its2, r2, pl2, hz2⟩ := I.tuple h2
    have l1 := r.length
    have l2 := r2.length
    subst he
    have l3 : its2.toArray.size = 0 := by simp; simpa using l2.symm
    refine SeqAt.eq_tupleAt (e := fun _ => true) pl pl2 (by omega) (fun j j1 j2 => by omega) ?_
    have e : ((List.range (min its.toArray.size its2.toArray.size)).all (fun _ => true) && its.toArray.size == its2.toArray.size) = false := by
      rw [l3]
      simp
      intro z
      rw [z] at l1
      exact hne (by simpa using l1)
    rw [e]
    exact ⟨.bl _, H, I, rfl, q⟩
theorem eq_data (hu : X.A.units + 64 < cLine) (hK : c.K = X.K := by rfl) : OpR X (compareOp .Eq) (rD2 c.K eqD) := opr_cq (((op_eqD hu).or op_eq).or (op_eqLL hu)) fun x y H Q ⟨F, d, e, z, fh, dx, dy, hz, q⟩ => by
  unfold eqD at hz
  split at hz
  · cases dx
    cases dy
    cases hz
    refine .inl (.inr ⟨rfl, ?_⟩)
    rw [dec_str]
    exact q _ F H (.inl ⟨rfl, rfl⟩) (.bl _)
  · split at hz
    · rename_i hm
      cases hz
      refine .inl (.inl ⟨d, e, by rw [← hK]; exact rp_dp (dp_mono fh dx) hm.1, by rw [← hK]; exact rp_dp (dp_mono fh dy) hm.2, hm.1, hm.2, q _ F H (.inl ⟨rfl, rfl⟩) (.bl _)⟩)
    · refine .inr ?_
      cases dx with
      | @lst a1 vs1 ds1 g1 g2 =>
        cases dy with
        | @lst a2 vs2 ds2 g3 g4 =>
          have hz : (if ds1.length = ds2.length then none else some (PyData.bool false)) = some z := hz
          split at hz
          · cases hz
          · rename_i hn
            cases hz
            exact ⟨_, _, _, _, rfl, rfl, .inl ⟨by rw [← hK]; exact fh.l g1, by rw [← hK]; exact fh.l g3, by rw [dpa_len g2, dpa_len g4]; exact hn⟩, q _ F H (.inl ⟨rfl, rfl⟩) (.bl _)⟩
        | _ => cases hz
      | @tup a1 vs1 ds1 g1 g2 =>
        cases dy with
        | @tup a2 vs2 ds2 g3 g4 =>
          cases g4 with
          | nil =>
            have hz : (if ds1.length = 0 then none else some (PyData.bool false)) = some z := hz
            split at hz
            · cases hz
            · rename_i hn
              cases hz
              exact ⟨_, _, _, _, rfl, rfl, .inr ⟨by rw [← hK]; exact fh.t g1.s, by rw [← hK]; exact fh.t g3, rfl, by rw [dpa_len g2]; exact hn⟩, q _ F H (.inl ⟨rfl, rfl⟩) (.bl _)⟩
          | cons _ _ => cases hz
        | _ => cases hz
      | _ => cases hz
theorem ne_data (hu : X.A.units + 64 < cLine) (hK : c.K = X.K := by rfl) : OpR X (compareOp .NotEq) (rD2 c.K neD) := opr_cq ((op_neD hu).or op_ne) fun x y H Q ⟨F, d, e, z, fh, dx, dy, hz, q⟩ => by
  unfold neD at hz
  split at hz
  · cases dx
    cases dy
    cases hz
    refine .inr ⟨rfl, ?_⟩
    rw [dec_str]
    exact q _ F H (.inl ⟨rfl, rfl⟩) (.bl _)
  · split at hz
    · rename_i hm
      cases hz
      exact .inl ⟨d, e, by rw [← hK]; exact rp_dp (dp_mono fh dx) hm.1, by rw [← hK]; exact rp_dp (dp_mono fh dy) hm.2, hm.1, hm.2, q _ F H (.inl ⟨rfl, rfl⟩) (.bl _)⟩
    · cases hz
/-! chains: a op b op c -/
def eChain (g g' : D → D → Option D) (ma mb mc : M D) : M D := ma.bind fun x => mb.bind fun y => (M.opt (g x y)).bind fun b => match b with
  | .bool true => mc.bind fun z => M.opt (g' y z)
  | .bool false => M.ret (.bool false)
  | _ => M.no
end
/-! ### built-ins -/
def absD : D → Option D
  | .int i => some (.int (if i < 0 then -i else i))
  | _ => none
def intD : D → Option D
  | .int i => some (.int i)
  | .bool k => some (.int (if k then 1 else 0))
  | _ => none
def tupD : D → Option D
  | .list ds => some (.tuple ds)
  | .tuple ds => some (.tuple ds)
  | _ => none
def two (g : D → D → Option D) : List D → Option D
  | [d, e] => g d e
  | _ => none
def intsOf : List D → Option (List Int)
  | [] => some []
  | .int i :: ds => (intsOf ds).map (i :: ·)
  | _ => none
def boolsOf : List D → Option (List Bool)
  | [] => some []
  | .bool i :: ds => (boolsOf ds).map (i :: ·)
  | _ => none
def allD : D → Option D
  | .list ds => (boolsOf ds).map fun bs => .bool (bs.all id)
  | _ => none
def anyD : D → Option D
  | .list ds => (boolsOf ds).map fun bs => .bool (bs.any id)
  | _ => none
def listD : List D → Option (List D)
  | [.list ds] => some ds
  | [.tuple ds] => some ds
  | _ => none
theorem intsOf_some : ∀ {ds : List D} {ns : List Int}, intsOf ds = some ns → ds = ns.map .int
  | [], ns, h => by
    cases h
    rfl
  | .int i :: ds, ns, h => by
    have h : (intsOf ds).map (i :: ·) = some ns := h
    cases e : intsOf ds with
    | none =>
      rw [e] at h
      cases h
    | some ms =>
      rw [e] at h
      cases h
      rw [intsOf_some e]
      rfl
  | .none :: _, _, h => by cases h
  | .bool _ :: _, _, h => by cases h
  | .str _ :: _, _, h => by cases h
  | .list _ :: _, _, h => by cases h
  | .tuple _ :: _, _, h => by cases h
  | .dict _ :: _, _, h => by cases h
theorem rpa_ints {K : PySem.W.Frag} {F : Hp} : ∀ {ns : List Int} {vs : List V}, RpAll K F vs (ns.map .int) → vs = ns.map .int
  | [], _, .nil => rfl
  | _ :: _, _, .cons h t => by
    rw [rp_int h, rpa_ints t]
    rfl
section
variable {X : Cx} {c : Cc}
theorem abs_data : CallR X (.builtin "abs") (rDA c.K (one absD)) := callr_cq call_abs fun xs H Q ⟨F, ds, z, fh, dps, hz, q⟩ => by
  obtain ⟨d, rfl, hz⟩ := one_some hz
  obtain ⟨v, rfl, dp⟩ := rpa_one dps
  cases dp with
  | int i =>
    cases hz
    exact ⟨i, rfl, q _ F H (.inl ⟨rfl, rfl⟩) (.int _)⟩
  | _ => cases hz
theorem int_data : CallR X (.type "int") (rDA c.K (one intD)) := callr_cq call_int1 fun xs H Q ⟨F, ds, z, fh, dps, hz, q⟩ => by
  obtain ⟨d, rfl, hz⟩ := one_some hz
  obtain ⟨v, rfl, dp⟩ := rpa_one dps
  cases dp with
  | int i =>
    cases hz
    exact .inl ⟨i, rfl, q _ F H (.inl ⟨rfl, rfl⟩) (.int _)⟩
  | bl k =>
    cases hz
    exact .inr ⟨k, rfl, q _ F H (.inl ⟨rfl, rfl⟩) (.int _)⟩
  | _ => cases hz
theorem tup_data (hK : c.K = X.K := by rfl) : CallR X (.type "tuple") (rDA c.K (one tupD)) := callr_cq call_tuple_of fun xs H Q ⟨F, ds, z, fh, dps, hz, q⟩ => by
  obtain ⟨d, rfl, hz⟩ := one_some hz
  obtain ⟨v, rfl, dp⟩ := rpa_one dps
  cases dp with
  | @lst a vs ds g1 g2 =>
    cases hz
    refine ⟨a, vs, rfl, .inl ⟨by rw [← hK]; exact fh.l g1, fun p np => ?_⟩⟩
    have nF := fh.nn np
    exact q _ _ _ (.inr ⟨p, _, np, rfl, rfl⟩) (.tup upd_same (dpa_mono (Ex.new nF) g2))
  | @tup a vs ds g1 g2 =>
    cases hz
    exact ⟨a, vs, rfl, .inr ⟨by rw [← hK]; exact fh.t g1, q _ F H (.inl ⟨rfl, rfl⟩) (.tup g1 g2)⟩⟩
  | _ => cases hz
/-! isinstance against a built-in class -/
def tyName : D → Option String
  | .none => some "NoneType"
  | .bool _ => some "bool"
  | .int _ => some "int"
  | .str _ => some "str"
  | .list _ => some "list"
  | .tuple _ => some "tuple"
  | .dict ((.str _, _) :: _) => none
  | .dict _ => some "dict"
def isiD (T : String) (d : D) : Option D := match d with
  | .dict ((.str _, _) :: _) => if T ∈ basicT then some (.bool false) else none
  | d => (tyName d).bind fun n => (kitB n T).map .bool
/-! an exception that was caught -/
theorem callr_or {f : Value} {r r' : List V → Hp → VK → Prop} (h : CallR X f r) (h' : CallR X f r') : CallR X f (fun xs H Q => r xs H Q ∨ r' xs H Q) := fun pins s st H xs us Q I rv q => q.elim (h pins s st H xs us Q I rv) (h' pins s st H xs us Q I rv)
theorem excC_kit {K : PySem.W.Frag} {C a : Addr} {ox : Obj} {od : Option Obj} (c : ExcC K C) : PySem.W.KitX K (.ref a) (.ref C) (fun h => PySem.W.InstAt h a ox C od) := by
  obtain ⟨cd, hc, _⟩ := PySem.W.any_some c.hd
  exact PySem.W.kitx_exc (by rw [hc]; rfl) c.hg c.hk c.hs c.ha c.hn c.ht c.hm
def ExAt (H : Hp) (a C : Addr) : Prop := ∃ d, H a = some (CauO (.ref C) d a) ∧ ∀ dd, d = some dd → ∃ fs, H dd = some (.xd fs)
theorem exAt_inst {X : Cx} {pins : List (Addr × Obj)} {st : L2.St} {H : Hp} {s : Shared} {a C : Addr} (I : Inv X pins st H s) (h : ExAt H a C) : ∃ ox od, PySem.W.InstAt s.heap a ox C od := by
  obtain ⟨d, h1, h2⟩ := h
  obtain ⟨⟨oe, vs, hg, ⟨hz1, hz2⟩, hd⟩, _, _⟩ := I.hok a _ h1
  have hno : PySem.W.notCls oe = true := by
    unfold PySem.W.notCls
    rw [hd]
  cases d with
  | none => exact ⟨oe, none, hg, hz1, hno, by rw [hz2]; trivial⟩
  | some dd =>
    obtain ⟨fs, h3⟩ := h2 dd rfl
    obtain ⟨o, ho⟩ := objOk_get (I.hok dd _ h3)
    exact ⟨oe, some o, hg, hz1, hno, by rw [hz2]; exact ho⟩
def rIsX (K : PySem.W.Frag) : List V → Hp → VK → Prop := fun xs H Q => ∃ (a C : Addr) (c : V) (cv : Value) (b : Bool), xs = [.ref a, c] ∧ ExAt H a C ∧ ExcC K C ∧ (∀ u, RelV c u → u = cv) ∧ PySem.W.kitOne K (.ref C) cv = some b ∧ Q (.bl b) H
theorem call_isX : CallR X (.builtin "isinstance") (rIsX X.K) := by
  intro pins s st H xs us Q I r h
  obtain ⟨a, C, c, cv, b, rfl, ha, hC, hcv, e, q⟩ := h
  cases r with
  | cons rx rr =>
    cases rr with
    | cons rt rr =>
      cases rr
      cases rx
      have ec := hcv _ rt
      subst ec
      obtain ⟨ox, od, J⟩ := exAt_inst I ha
      exact PySem.W.kia_one (excC_kit hC) I.kIn J e (fun z => nomatch z) fun tk => ⟨.bl b, H, I.kept (t' := tk) fun _ _ z => z, rfl, q⟩
theorem dci_str {kv : List (Int × D)} {nm : Str} {e : D} {r : List (D × D)} (h : ((PyData.str nm, e) :: r) = kv.map fun q => (PyData.int q.1, q.2)) : False := by
  cases kv with
  | nil => cases h
  | cons q kv => cases h
theorem rp_exAt {K : PySem.W.Frag} {F H : Hp} {v : V} {nm : Str} {kv : List (D × D)} (h : Rp K F v (.dict ((.str nm, .none) :: kv))) (fh : Ex F H) : ∃ a, v = .ref a ∧ ExAt H a (He.ga K nm) ∧ ExcK K nm := by
  cases h with
  | exc0 h1 h2 => exact ⟨_, rfl, ⟨_, fh.at_ _ _ h1 cau_ne, fun _ z => nomatch z⟩, h2⟩
  | excF h1 h2 h3 h4 h5 => exact ⟨_, rfl, ⟨_, fh.at_ _ _ h1 cau_ne, fun dd z => by cases z; exact ⟨_, fh.at_ _ _ h2 (fun ps z => nomatch z)⟩⟩, h3⟩
  | dci _ _ _ _ w => exact (dci_str w).elim
theorem rp_dict1 {K : PySem.W.Frag} {F : Hp} {v : V} {nm : Str} {e : D} {kv : List (D × D)} (h : Rp K F v (.dict ((.str nm, e) :: kv))) : e = .none := by
  cases h with
  | exc0 h1 h2 => rfl
  | excF h1 h2 h3 h4 h5 => rfl
  | dci _ _ _ _ w => exact (dci_str w).elim
theorem ty_data {K : PySem.W.Frag} {F H : Hp} {v : V} {d : D} {n : String} (h : Rp K F v d) (fh : Ex F H) (e : tyName d = some n) : TyX K H v (.type n) := by
  cases h with
  | non => cases e; exact .base .non
  | bl b => cases e; exact .base (.bl b)
  | int i => cases e; exact .base (.int i)
  | str x => cases e; exact .base (.str x)
  | @lst a vs ds g1 g2 =>
    cases e
    rcases fh.l g1 with (g | ⟨o, g⟩) | ⟨o, its, n, g, hc, _⟩
    · exact .base (.lst g)
    · exact .base (.frz g)
    · exact .kList g hc
  | @tup a vs ds g1 g2 =>
    cases e
    rcases fh.t g1.s with (g | ⟨o, g⟩) | ⟨o, its, n, g, hc, _⟩
    · exact .base (.tup g)
    · exact .fTuple g
    · exact .kTuple g hc
  | emp g =>
    cases e
    exact .base (.dK (fh.at_ _ _ g (fun ps z => nomatch z)))
  | exc0 _ _ => cases e
  | excF _ _ _ _ _ => cases e
  | @dci a od ks kv dd h1 _ _ h4 h5 =>
    subst h5
    cases kv with
    | nil => exact absurd rfl h4
    | cons q kv =>
      cases e
      exact .fDict (fh.at_ _ _ h1 (fun ps z => nomatch z))
theorem isiD_dict {T : String} {d z : D} (h : isiD T d = some z) : (∃ nm x kv, d = .dict ((.str nm, x) :: kv) ∧ T ∈ basicT ∧ z = .bool false) ∨ ((tyName d).bind fun n => (kitB n T).map PyData.bool) = some z := by
  unfold isiD at h
  split at h
  · rename_i nm x kv
    split at h
    · cases h
      exact .inl ⟨nm, x, kv, rfl, by assumption, rfl⟩
    · cases h
  · exact .inr h
theorem e_isi {T : String} {y : Str} {e : Expr} {m : M D} {p py pos : Pos} (h : PE X e (tM c m)) (hm : X.mg "isinstance" = none) (hmT : X.mg y = none) (hvT : bootBuiltins y = some (.type T) := by decide +kernel) (hK : c.K = X.K := by rfl) (hg : Gl X "isinstance" := by rfl) (hgT : Gl X y := by rfl) (hnT : y ≠ "__name__" := by decide) (hdT : (y == ("__debug__" : Str)) = false := by decide)
    (hs1 : starEach [e, .Name y py] X.env = (false, eval e X.env) :: starEach [.Name y py] X.env := by rfl) (hs2 : starEach [.Name y py] X.env = (false, eval (.Name y py) X.env) :: starEach [] X.env := by rfl) (hpl : (backTo pos (starEach [.Name y py] X.env)).any (·.1) = false := by rfl) :
    PE X (.Call (.Name "isinstance" p) [e, .Name y py] [] pos) (tM c (una (isiD T) m)) :=
  pe_cq (pe_callB (callr_or call_isi call_isX) hg hm (by decide +kernel) (pa_cons h (pa_cons (pe_bltn (v := .ty T) hgT hmT hvT rfl hnT hdT) pa_nil hs2) hs1) (by decide) (by decide) hs1 hpl) fun st H Q ⟨pa, H0, F0, F, r, ok, po⟩ => seqM ok po fun d r1 F1 H1 v k1 e1 dp q => by
    obtain ⟨z, hz, q9⟩ := opt_po q
    rcases isiD_dict hz with ⟨nm, x, kv, rfl, hT, rfl⟩ | hz
    · have hx := rp_dict1 dp
      subst hx
      obtain ⟨a, rfl, g1, g2⟩ := rp_exAt dp k1.fH
      refine .inr ⟨a, He.ga c.K nm, .ty T, .type T, false, rfl, g1, by rw [← hK]; exact g2.c, fun u ru => ru, by rw [← hK]; exact g2.t T hT, q9 F1 H1 _ k1 e1 (.bl _)⟩
    cases hn : tyName d with
    | none =>
      rw [hn] at hz
      cases hz
    | some n =>
      rw [hn] at hz
      have hz : (kitB n T).map PyData.bool = some z := hz
      cases hk : kitB n T with
      | none =>
        rw [hk] at hz
        cases hz
      | some b =>
        rw [hk] at hz
        cases hz
        exact .inl ⟨v, .ty T, .type n, .type T, b, rfl, .ty T, by rw [← hK]; exact ty_data dp k1.fH hn, kit_ty hk, q9 F1 H1 _ k1 e1 (.bl _)⟩
end
end Pu
namespace Pu
open PySem PySem.Spec PyProof.Rows L2
variable [TabT]
section
variable {X : Cx} {c : Cc}
/-! ### a slice -/
def cutL (ds : List D) (lo hi : Option Int) : List D := (ds.drop (HT.sIx ds.length 0 lo)).take (HT.sIx ds.length ds.length hi - HT.sIx ds.length 0 lo)
def slD : D → Option Int → Option Int → Option D
  | .list ds, lo, hi => some (.list (cutL ds lo hi))
  | .tuple ds, lo, hi => some (.tuple (cutL ds lo hi))
  | .str z, lo, hi => if z.length ≤ 16777216 then some (.str (cutS z lo hi)) else none
  | _, _, _ => none
def pNone : M (Option Int) := M.ret none
def pSome (m : M D) : M (Option Int) := m.bind fun d => M.opt (match d with
  | .int i => some (some i)
  | _ => none)
def eSl (m : M D) (l u : M (Option Int)) : M D := m.bind fun d => l.bind fun a => u.bind fun b => M.opt (slD d a b)
def tPo (c : Cc) (m : M (Option Int)) : TO := fun st H Q => ∃ pa H0 F0 F r, Ok c.K pa H0 F0 F H st r ∧ Po (XW c pa H0 F0 F) (m r) fun o r' => ∀ F' H', Ok c.K pa H0 F0 F' H' st r' → Ex F F' → Q o H'
theorem seqP {α : Type} {pa : Nat → Addr} {H0 F0 F H : Hp} {st : L2.St} {r : En} {ma : M (Option Int)} {f : Option Int → M α} {k : α → En → Prop} {Q : Option Int → Hp → Prop} (ok : Ok c.K pa H0 F0 F H st r) (po : Po (XW c pa H0 F0 F) (ma.bind f r) k)
    (h : ∀ d r1 F1 H1, Ok c.K pa H0 F0 F1 H1 st r1 → Ex F F1 → Po (XW c pa H0 F0 F1) (f d r1) k → Q d H1) : tPo c ma st H Q :=
  ⟨pa, H0, F0, F, r, ok, (Po.bind po).mono (fun _ _ x => x) fun d r1 q F1 H1 k1 e1 => h d r1 F1 H1 k1 e1 (q.mono (XW.mono e1) fun _ _ x => x)⟩
theorem po_cq {e : Option Expr} {t t' : TO} (h : PO X e t) (i : ∀ st H Q, t' st H Q → t st H Q) : PO X e t' := ⟨fun pins s st H Q I q => h.run pins s st H Q I (i _ _ _ q)⟩
theorem p_none : PO X none (tPo c pNone) := po_cq po_none fun st H Q ⟨pa, H0, F0, F, r, ok, po⟩ => po F H ok (Ex.refl F)
theorem p_some {e : Expr} {m : M D} (h : PE X e (tM c m)) : PO X (some e) (tPo c (pSome m)) := po_cq (po_some h) fun st H Q ⟨pa, H0, F0, F, r, ok, po⟩ => seqM ok po fun d r1 F1 H1 v k1 e1 dp q => by
  obtain ⟨z, hz, q⟩ := opt_po q
  cases dp with
  | int i =>
    cases hz
    exact ⟨i, rfl, q F1 H1 k1 e1⟩
  | _ => cases hz
theorem slr_cq {r r' : V → Option Int → Option Int → Hp → VK → Prop} (h : SlR X r) (i : ∀ x lo hi H Q, r' x lo hi H Q → r x lo hi H Q) : SlR X r' := fun pins s st H x v vl vu lo hi sl Q I rx hs pl pu q => h pins s st H x v vl vu lo hi sl Q I rx hs pl pu (i x lo hi H Q q)
def rSlD (K : PySem.W.Frag) : V → Option Int → Option Int → Hp → VK → Prop := fun x lo hi H Q => ∃ F d z, Ex F H ∧ Rp K F x d ∧ slD d lo hi = some z ∧ ∀ v F' H', NewF F H F' H' → Rp K F' v z → Q v H'
theorem cut_dpa {K : PySem.W.Frag} {F : Hp} {vs : List V} {ds : List D} (h : RpAll K F vs ds) (lo hi : Option Int) : RpAll K F (cutV vs lo hi) (cutL ds lo hi) := by
  unfold cutV cutL
  rw [dpa_len h]
  exact dpa_take _ (dpa_drop _ h)
theorem sl_data (hK : c.K = X.K := by rfl) : SlR X (rSlD c.K) := slr_cq ((sl_list.or sl_tupA).or sl_str) fun x lo hi H Q ⟨F, d, z, fh, dx, hz, q⟩ => by
  cases dx with
  | @lst a vs ds g1 g2 =>
    cases hz
    refine .inl (.inl ⟨a, vs, rfl, by rw [← hK]; exact fh.l g1, fun p np => ?_⟩)
    have nF := fh.nn np
    exact q _ _ _ (.inr ⟨p, _, np, rfl, rfl⟩) (.lst (.inl (.inl upd_same)) (dpa_mono (Ex.new nF) (cut_dpa g2 lo hi)))
  | @tup a vs ds g1 g2 =>
    cases hz
    refine .inl (.inr ⟨a, vs, rfl, by rw [← hK]; exact fh.t g1, fun e => ?_, fun _ p np => ?_⟩)
    · have e2 : cutL ds lo hi = ds := by
        unfold cutL
        rw [← dpa_len g2, e.1, e.2, dpa_len g2]
        simp
      rw [e2] at q
      exact q _ F H (.inl ⟨rfl, rfl⟩) (.tup g1 g2)
    · have nF := fh.nn np
      exact q _ _ _ (.inr ⟨p, _, np, rfl, rfl⟩) (.tup upd_same (dpa_mono (Ex.new nF) (cut_dpa g2 lo hi)))
  | str s =>
    have hz : (if s.length ≤ 16777216 then some (PyData.str (cutS s lo hi)) else none) = some z := hz
    split at hz
    · cases hz
      exact .inr ⟨s, rfl, by rw [sizeLine_eq]; assumption, q _ F H (.inl ⟨rfl, rfl⟩) (.str _)⟩
    · cases hz
  | _ => cases hz
theorem e_sl {e : Expr} {lo hi : Option Expr} {m : M D} {l u : M (Option Int)} {p2 pos : Pos} (he : PE X e (tM c m)) (hl : PO X lo (tPo c l)) (hu : PO X hi (tPo c u)) (hK : c.K = X.K := by rfl) : PE X (.Subscript e (.Slice lo hi none p2) pos) (tM c (eSl m l u)) :=
  pe_cq (pe_slice (sl_data hK) he hl hu) fun st H Q ⟨pa, H0, F0, F, r, ok, po⟩ => seqM ok po fun d r1 F1 H1 v k1 e1 dp q1 => seqP k1 q1 fun a r2 F2 H2 k2 e2 q2 => seqP k2 q2 fun b r3 F3 H3 k3 e3 q3 => by
    obtain ⟨z, hz, q4⟩ := opt_po q3
    exact ⟨F3, d, z, k3.fH, dp_mono (e2.trans e3) dp, hz, op_end (r' := r3) k3 fun F' H' v ok ex dp => q4 F' H' v ok ((e1.trans (e2.trans e3)).trans ex) dp⟩
/-! ### t[::-1] -/
def revD : D → Option D
  | .list ds => some (.list ds.reverse)
  | .tuple ds => some (.tuple ds.reverse)
  | _ => none
/-! ### a < b < c -/
/-! ### is None, is True -/
def isD : D → D → Option D
  | .bool a, .bool b => some (.bool (decide (a = b)))
  | .none, .none => some (.bool true)
  | _, .none => some (.bool false)
  | _, _ => none
def isntD : D → D → Option D
  | .bool a, .bool b => some (.bool (!decide (a = b)))
  | .none, .none => some (.bool false)
  | _, .none => some (.bool true)
  | _, _ => none
/-! ### not of a value -/
def eNotT (m : M D) : M D := (tTru m).bind fun b => M.ret (.bool (!b))
end
end Pu
namespace Pu
open PySem PySem.Spec PyProof.Rows L2
variable [TabT]
section
variable {X : Cx} {c : Cc}
/-! ### repr -/
noncomputable def reprD : D → Option D
  | .none => some (.str "None")
  | .bool b => some (.str (if b then "True" else "False"))
  | .str x => cI ((reprText x).length ≤ 16777216) (some (.str (reprText x))) none
  | .dict [] => some (.str (PyData.dict []).shown)
  | .int i => cI (i.natAbs.log2 < 1920) (some (.str (toString i))) none
  | .list ds => cI ((PyData.list ds).showable = true ∧ SeqAt.shaped (.list ds) = true ∧ (PyData.list ds).shown.length ≤ 16777216) (some (.str (PyData.list ds).shown)) none
  | .tuple ds => cI ((PyData.tuple ds).showable = true ∧ SeqAt.shaped (.tuple ds) = true ∧ (PyData.tuple ds).shown.length ≤ 16777216) (some (.str (PyData.tuple ds).shown)) none
  | _ => none
/-! ### f(..).append(..): what was told is changed and dropped -/
def sAppX (m : M RV) : M Fl := m.bind fun rv => match rv with
  | .o (.l ds) => if ds.length < 16777216 then M.ret .nx else M.no
  | _ => M.no
/-! ### a new list from + and * -/
def binO (g : D → D → Option RV) (ma mb : M D) : M RV := ma.bind fun x => mb.bind fun y => M.opt (g x y)
def addO : D → D → Option RV
  | .list xs, .list ys => szC (xs.length + ys.length) (.o (.l (xs ++ ys)))
  | d, e => (addD d e).map .v
noncomputable def mulO : D → D → Option RV
  | .list xs, .int k => cI ((-(2 ^ 63) ≤ k ∧ k < 2 ^ 63) ∧ xs.length * k.toNat ≤ 16777216) (some (.o (.l (List.replicate k.toNat xs).flatten))) none
  | _, _ => none
end
end Pu
namespace Pu
open PySem PySem.Spec PyProof.Rows L2
variable [TabT]
section
variable {X : Cx} {c : Cc}
/-- x = [..], x not changed later -/
theorem s_setLcV {i : Nat} {y : Str} {py : Pos} {elt tg iter : Expr} {ifs : List Expr} {scope : Scope} {own : List (Str × Nat)} {pos spos : Pos} {src : M (List D)} {js : List Nat} {t : Tg} {tt : M Bool} {te : M D} (hi : PI X tg iter (iM c src)) (ok : BlkOk X.N X.env.scope scope own)
    (hg : ∀ (s : Shared) (H : Hp) (C : Addr) (cl : List (Str × Addr)) (fp : List Addr), PG (X.blk s H scope (compEnvC scope cl C X.env) fp) tg (gM c.K js t)) (ht : ∀ (s : Shared) (H : Hp) (C : Addr) (cl : List (Str × Addr)) (fp : List Addr), PTs (X.blk s H scope (compEnvC scope cl C X.env) fp) ifs (tT c.nox tt))
    (he : ∀ (s : Shared) (H : Hp) (C : Addr) (cl : List (Str × Addr)) (fp : List Addr), PE (X.blk s H scope (compEnvC scope cl C X.env) fp) elt (tM c.nox te)) (hN : X.N.Nodup) (hjs : ∀ j ∈ js, j ∈ own.map (·.2) := by decide) (hc : X.calm = true := by rfl) (hy : X.N[i]? = some y := by rfl) (hyl : X.env.scope.names.lookup y = some .local := by rfl)
    (hsw : swapsWith (.ListComp elt [⟨tg, iter, ifs, 0⟩] scope pos) (some (.Name y py)) spos.line X.env = pure true := by exact sw_true rfl rfl rfl (by decide +kernel)) (hs : ∀ x, foldedSetIterable iter X.env x = pure x := by intro _; rfl) :
    PS X (.Assign [.Name y py] (.ListComp elt [⟨tg, iter, ifs, 0⟩] scope pos) spos) (sM c (sSet i (frzM (oComp src (own.map (·.2)) t tt te)))) :=
  ps_cq (ps_setLc hc hN hy hyl hsw hi ok hg ht he hs) fun Dd st H ⟨pa, H0, F0, F, r, okk, po⟩ => lc_ok hjs ⟨pa, H0, F0, F, r, okk, (Po.bind (Po.bind po)).mono (fun _ _ x => x) fun rv r1 q F1 H1 v k1 e1 dp => by
    cases rv with
    | v d =>
      obtain ⟨q, hi⟩ := setM_po q
      exact q F1 H1 _ (k1.setV hi dp) e1
    | o ct =>
      cases ct with
      | l ds =>
        obtain ⟨a, rfl, z1, z2, ⟨vs, z3, z4⟩, z5⟩ := dp
        have k2 := k1.frz z3 z2 z5.1 z1
        obtain ⟨q, hi⟩ := setM_po q
        exact q _ H1 _ (k2.setV hi (.lst (.inl (.inl upd_same)) (dpa_mono (Ex.new z1) z4))) (e1.trans (Ex.new z1))
      | t kvs => exact q.elim
      | n t =>
        obtain ⟨d, hd, q⟩ := opt_po' q
        obtain ⟨a, rfl, z⟩ := dp
        obtain ⟨F2, k2, eF, rp⟩ := k1.frzRv z hd
        obtain ⟨q, hi⟩ := setM_po q
        exact q F2 H1 _ (k2.setV hi rp) (e1.trans eF)
      | d kvs => exact q.elim⟩
/-! ### an own list compared -/
def eqD0 (d e : D) : Option D := if SeqAt.shaped d = true ∧ SeqAt.shaped e = true then some (.bool (PyData.eqv d e)) else none
def eqS (i : Nat) (mb : M D) : M D := fun r => match getC i r with
  | some (.l _) => (mb r).bind fun d r => match getC i r with
    | some (.l ds) => M.opt (eqD0 (.list ds) d) r
    | _ => .no
  | some (.d _) => .no
  | some (.t _) => .no
  | some (.n _) => .no
  | none => bin eqD (getS i) mb r
def neS (i : Nat) (mb : M D) : M D := fun r => match getC i r with
  | some (.l _) => (mb r).bind fun d r => match getC i r with
    | some (.l ds) => M.opt (neD (.list ds) d) r
    | _ => .no
  | some (.d _) => .no
  | some (.t _) => .no
  | some (.n _) => .no
  | none => bin neD (getS i) mb r
/-! ### a statement that is never come to -/
/-! ### a call without arguments -/
def cCall0 (f : List Sl → Re RV) : M RV := cCall f aNil
end
end Pu
namespace Pu
open PySem PySem.Spec PyProof.Rows L2
variable [TabT]
section
variable {X : Cx} {c : Cc}
/-! ### {} -/
def oDict0 : M RV := M.ret (.o (.d []))
theorem o_dict0 {pos : Pos} : PE X (.Dict [] [] pos) (tO c oDict0) :=
  pe_cq pe_dnewK fun st H Q ⟨pa, H0, F0, F, r, ok, po⟩ p np =>
    po F _ _ (ok.lay np) (Ex.refl F) ⟨p, rfl, ok.fH.nn np, ok.hH.nn np, ⟨[], upd_same, .nil⟩, .d (ok.nobody np).upd⟩
/-! ### bool, str -/
def boolD : D → Option D
  | .int i => some (.bool (i != 0))
  | .bool b => some (.bool b)
  | _ => none
/-! ### in, not in a list of data -/
noncomputable def inD : D → D → Option D
  | d, .list ds => cI (SeqAt.shaped d = true ∧ SeqAt.shaped (.list ds) = true) (some (.bool (ds.any fun z => PyData.eqv z d))) none
  | _, _ => none
noncomputable def ninD : D → D → Option D
  | d, .list ds => cI (SeqAt.shaped d = true ∧ SeqAt.shaped (.list ds) = true) (some (.bool (!ds.any fun z => PyData.eqv z d))) none
  | _, _ => none
theorem nin_data (hu : X.A.units + 65 < cLine) (hK : c.K = X.K := by rfl) : OpR X (compareOp .NotIn) (rD2 c.K ninD) := opr_cq (op_notInD hu) fun x y H Q ⟨F, d, e, z, fh, dx, dy, hz, q⟩ => by
  cases dy with
  | @lst a vs ds g1 g2 =>
    have hz : (if SeqAt.shaped d = true ∧ SeqAt.shaped (.list ds) = true then some (PyData.bool (!ds.any fun z => PyData.eqv z d)) else none) = some z := by
      rw [← cI_eq]
      exact hz
    split at hz
    · rename_i hm
      cases hz
      exact ⟨d, ds, by rw [← hK]; exact rp_dp (dp_mono fh dx) hm.1, by rw [← hK]; exact rp_dp (dp_mono fh (.lst g1 g2)) hm.2, hm.1, hm.2, q _ F H (.inl ⟨rfl, rfl⟩) (.bl _)⟩
    · cases hz
  | _ => cases hz
/-! ### l.index(x) -/
noncomputable def indexD : D → D → Option D
  | .list ds, d => cI (SeqAt.shaped d = true ∧ SeqAt.shaped (.list ds) = true) ((ds.findIdx? fun z => PyData.eqv z d).map fun j => .int (j : Nat)) none
  | _, _ => none
noncomputable def eIndex (mo me : M D) : M D := mo.bind fun d => match d with
  | .list ds => me.bind fun b => M.opt (indexD (.list ds) b)
  | _ => M.no
/-! ### l.pop(i) -/
noncomputable def popD (ds : List D) : D → Option (D × List D)
  | .int n => cI (0 ≤ n ∧ n < 2 ^ 63) ((ds[n.toNat]?).map fun y => (y, ds.eraseIdx n.toNat)) none
  | _ => none
noncomputable def ePop (i : Nat) (m : M D) : M D := fun r => match getC i r with
  | some (.l _) => (m r).bind fun d r => match getC i r with
    | some (.l ds) => (match popD ds d with
      | some p => .ok p.1 (putC i (.l p.2) r)
      | none => .no)
    | _ => .no
  | _ => .no
end
end Pu
namespace Pu
open PySem PySem.Spec PyProof.Rows L2
variable [TabT]
/-! ### a dict of the module: text keys, whole numbers -/
def Tabl (K : PySem.W.Frag) (w : World) (mg : Str → Option Value) (x : Str) (kvs : List (Str × Int)) : Prop := ∃ d es n, mg x = some (.ref d) ∧ KDict K w d es n ∧ ∀ z, ∃ r, PySem.W.nsIn K d z = some r ∧ (match kvs.find? fun p => decide (p.1 = z) with
  | none => r = none
  | some p => ∃ t, r = some (.int p.2 t))
/-! ### len(set(a tuple of at most two numbers)) -/
def dn : List Int → Nat
  | [] => 0
  | [_] => 1
  | a :: b :: _ => if a = b then 1 else 2
/-! ### the head with such tables -/
def ent (e : DictEntry) : Option (Str × Int) := match e.key with
  | .str k _ => (match e.val with
    | .int i _ => some (k, i)
    | _ => none)
  | _ => none
def tabV (K : PySem.W.Frag) (x : Str) : Option (List (Option (Str × Int))) := match K.lookup (He.ga K x) with
  | some ⟨_, _, .dict es _, _⟩ => some (es.toList.map ent)
  | _ => none
theorem ent_find (z : Str) : ∀ {l : List DictEntry} {kvs : List (Str × Int)}, l.map ent = kvs.map some → l.any (·.refKey) = false ∧ (match kvs.find? fun p => decide (p.1 = z) with
  | none => l.find? (·.key.isStr z) = none
  | some p => ∃ e t, l.find? (·.key.isStr z) = some e ∧ e.val = .int p.2 t)
  | [], [], _ => ⟨rfl, rfl⟩
  | [], _ :: _, h => by cases h
  | _ :: _, [], h => by cases h
  | e :: l, p :: kvs, h => by
    have h1 : ent e :: l.map ent = some p :: kvs.map some := h
    injection h1 with h2 h3
    obtain ⟨g1, g2⟩ := ent_find z h3
    obtain ⟨eh, ek, ev⟩ := e
    unfold ent at h2
    cases ek with
    | str k t =>
      cases ev with
      | int i t2 =>
        have h4 : some (k, i) = some p := h2
        cases h4
        refine ⟨?_, ?_⟩
        · rw [List.any_cons, g1]
          rfl
        · by_cases hk : k = z
          · rw [List.find?_cons_of_pos (by simp [hk]), List.find?_cons_of_pos (by simp [Value.isStr, hk])]
            exact ⟨_, t2, rfl, rfl⟩
          · rw [List.find?_cons_of_neg (by simp [hk]), List.find?_cons_of_neg (by simp [Value.isStr, hk])]
            exact g2
      | _ => cases h2
    | _ => cases h2
abbrev Tbs := List (Str × List (Str × Int))
def tsOf (xs : Tbs) : List He.Tab := xs.map fun p => (fun K => He.ga K p.1, p.2.map (·.1))
abbrev AlS : Type := He.AlT × List (Option (List (Option (Str × Int))))
def obsS (fa : List He.Fa) (fn : List He.DefD) (xs : Tbs) (K : PySem.W.Frag) : AlS := (He.obsT fa fn (tsOf xs) K, xs.map fun p => tabV K p.1)
def valS (fn : List He.DefD) (xs : Tbs) (w : World) : AlS := (He.valT fn (tsOf xs) w, xs.map fun p => some (p.2.map some))
def SaysS (fa : List He.Fa) (fn : List He.DefD) (xs : Tbs) (w : World) (K : PySem.W.Frag) : Prop := obsS fa fn xs K = valS fn xs w
section
variable {fa : List He.Fa} {fn : List He.DefD} {xs : Tbs} {w : World} {K : PySem.W.Frag}
theorem SaysS.d (c : SaysS fa fn xs w K) : He.SaysD fa fn K := He.SaysT.d (congrArg (fun z : AlS => z.1) c)
theorem SaysS.tab (c : SaysS fa fn xs w K) (i : Nat) {p : Str × List (Str × Int)} {mg : Str → Option Value} (h : xs[i]? = some p) (hm : mg p.1 = some (.ref (He.ga K p.1))) : Tabl K w mg p.1 p.2 := by
  have c1 : He.SaysT fa fn (tsOf xs) w K := congrArg (fun z : AlS => z.1) c
  obtain ⟨es, n, Dd⟩ := c1.tab i (t := (fun K => He.ga K p.1, p.2.map (·.1))) (by unfold tsOf; rw [List.getElem?_map, h]; rfl)
  have e : (xs.map fun p => tabV K p.1) = xs.map fun p => some (p.2.map some) := congrArg (fun z : AlS => z.2) c
  have e2 : (xs.map fun p => tabV K p.1)[i]? = (xs.map fun p => some (p.2.map some))[i]? := by rw [e]
  rw [List.getElem?_map, List.getElem?_map, h] at e2
  have e3 : tabV K p.1 = some (p.2.map some) := Option.some.inj e2
  have hat := Dd.at_
  unfold tabV at e3
  rw [hat] at e3
  have e4 : es.toList.map ent = p.2.map some := Option.some.inj e3
  refine ⟨He.ga K p.1, es, n, hm, Dd, fun z => ?_⟩
  obtain ⟨g1, g2⟩ := ent_find z e4
  unfold PySem.W.nsIn
  rw [hat]
  cases hf : p.2.find? fun p => decide (p.1 = z) with
  | none =>
    rw [hf] at g2
    have g2 : es.toList.find? (·.key.isStr z) = none := g2
    refine ⟨none, ?_, rfl⟩
    simp only [g2, g1]
    rfl
  | some q =>
    rw [hf] at g2
    obtain ⟨e, t, h1, h2⟩ := g2
    refine ⟨some e.val, ?_, t, by rw [h2]⟩
    simp only [h1]
end
end Pu
namespace Pu
open PySem PySem.Spec PyProof.Rows L2
/-! ### zip of a list and a tuple -/
end Pu
namespace Pu
open PySem PySem.Spec PyProof.Rows L2
variable [TabT]
/-! ### an object that stands already is tracked -/
structure Newly (X : Cx) (pins : List (Addr × Obj)) (a : Addr) : Prop where
  loc : a ≠ X.env.locals
  cel : ∀ x c, X.env.cells.lookup x = some c → c ≠ a
  pin : ∀ p ∈ X.pn ++ pins, p.1 ≠ a
  old : X.s_0.heap.get? a = none
theorem Newly.of {X : Cx} {pins : List (Addr × Obj)} {st : L2.St} {H : Hp} {s : Shared} {a : Addr} (I : Inv X pins st H s) (h : s.heap.get? a = none) (hx : X.ex = []) : Newly X pins a where
  loc := fun z => by
    obtain ⟨m, ⟨o, es, ep, q, _⟩, _⟩ := I.loc
    rw [← z, h] at q
    cases q
  cel := fun x c e z => by
    obtain ⟨v, o, q, _⟩ := I.cell x c e
    rw [z, h] at q
    cases q
  pin := fun p hp z => by
    obtain ⟨q, _⟩ := I.pin p hp
    rw [z, h] at q
    cases q
  old := by
    cases q : X.s_0.heap.get? a with
    | none => rfl
    | some o =>
      obtain ⟨o', q2⟩ := I.base.there a o q (by rw [hx]; simp)
      rw [h] at q2
      cases q2
/-! ### try: .. except x as n: y = n -/
/-! ### the classes of the program -/
def houseE : Str := "HouseError"
def isB (nm y : Str) : Bool := decide (nm = y) || decide (y = houseE)
/-! ### the rules -/
def sRaise (nm : Str) : M Fl := fun r => .ex ⟨nm, []⟩ r
def exOf (e : Exn) : D := .dict ((.str e.name, .none) :: e.flds.map fun p => (.str p.1, p.2))
/-- try: body, except HouseError as (slot j): (slot i) = it -/
def sTry (ns : List Str) (j i : Nat) (mb : M Fl) : M Fl := fun r => match mb r with
  | .ex e r1 => if e.name ∈ ns then (match (setN j (.v (exOf e)) r1).bind (setN i (.v (exOf e))) with
    | some r2 => .ok .nx (r2.set j .unk)
    | none => .no) else .no
  | x => x
def isED (ns : List Str) (y : Str) : D → Option D
  | .dict ((.str nm, .none) :: _) => if nm ∈ ns then some (.bool (isB nm y)) else none
  | _ => none
def isEV (ns : List Str) : D → Option D
  | .dict ((.str nm, .none) :: _) => if nm ∈ ns then some (.bool true) else none
  | _ => none
def isET (ns : List Str) (ys : List Str) : D → Option D
  | .dict ((.str nm, .none) :: _) => if nm ∈ ns then some (.bool (ys.any fun y => isB nm y)) else none
  | _ => none
/-! ### isinstance with a tuple of classes -/
/-! ### the head with one more Bool -/
abbrev AlB : Type := He.AlD × Bool
def SaysB (fa : List He.Fa) (fn : List He.DefD) (ex : PySem.W.Frag → Bool) (K : PySem.W.Frag) : Prop := He.SaysD fa fn K ∧ ex K = true
end Pu
namespace Pu
open PySem PySem.Spec PyProof.Rows L2
variable [TabT]
/-! ### zip of three tuples -/
def zip3D : List D → List D → List D → List D
  | x :: xs, y :: ys, z :: zs => .tuple [x, y, z] :: zip3D xs ys zs
  | _, _, _ => []
def zip3Of : List D → Option (List D)
  | [.tuple xs, .tuple ys, .tuple zs] => some (zip3D xs ys zs)
  | _ => none
/-! ### x.insert(n, e) -/
noncomputable def sInsert (i : Nat) (mk m : M D) : M Fl := fun r => match getC i r with
  | some (.l _) => (mk r).bind fun k r => (m r).bind fun d r => match k, getC i r with
    | .int n, some (.l ds) => cI (ds.length < 16777216 ∧ 0 ≤ n ∧ n < 2 ^ 63) (.ok .nx (putC i (.l (ds.take n.toNat ++ [d] ++ ds.drop n.toNat)) r)) .no
    | _, _ => .no
  | _ => .no
end Pu
namespace L2
open PySem PySem.Spec PyProof.Rows
section
variable {P : Program} {w : World} {A : Around} {E : Value → Shared → Prop} {s : Shared}
set_option maxRecDepth 100000 in
set_option maxHeartbeats 3200000 in
theorem call_set_lstI {l : Addr} {items : Array Value} (ns : List Int) {Q : Value → Shared → Prop} (hh : A.handled = none) (hl : s.heap.IsList l items) (hit : IntsAre items.toList ns) (hb : ns.length + 1 < scanBound)
    (h : ∀ (h' : Heap) (tk c : Nat), SetR w h' s.heap.objs.size (fun j => decide (j ∈ ns)) c → c ≤ ns.length → (∀ b o, s.heap.get? b = some o → h'.get? b = some o) → Q (.ref s.heap.objs.size) { s with heap := h', toks := tk }) :
    wpAny (model P w) A (call (.type "set") [.ref l]) Q E s := by
  have hisz : items.size = ns.length := by
    have q := IntsAre.length hit
    rw [Array.length_toList] at q
    exact q
  obtain ⟨c, tl, hmro⟩ := F.called_set.mro
  have hmade := F.called_set.made
  have hsub := F.called_set.sub
  refine wpAny_call (codeAny_of_tree ?_)
  show wpAny _ _ (callAny (.type "set") _) _ _ _
  refine wpAny_pure ⟨Code.quiet_builtin _ (by decide +kernel), codeAny_builtin F.entry_type_call ?_⟩
  rw [Around.under_plain (weight_type_call_type "set" [.ref l] []) rfl]
  have h1 := F.called_set.notType
  have h2 := F.called_set.canCreate
  have hct := F.typeCall_set_1 (.ref l)
  repeat (any_goals (first | assumption | wp_step))

  refine codeAny_mono (code_set_led1 (.ref l) (E := E) (Q₁ := fun obj s₁ => obj = .ref s.heap.objs.size ∧ s₁ = { s with heap := s.heap.push { cls := .type "set", dict := none, data := .set #[] 0 (.fresh 0 0 (!w.params.followText "set-order")) } }) ⟨rfl, rfl⟩) fun r s₁ hr => ?_
  cases r with
  | error e => exact hr
  | ok fl =>
    cases fl with
    | ret obj =>
      obtain ⟨rfl, rfl⟩ := hr
      have hS : (s.heap.push { cls := .type "set", dict := none, data := .set #[] 0 (.fresh 0 0 (!w.params.followText "set-order")) }).get? s.heap.objs.size = some { cls := .type "set", dict := none, data := .set #[] 0 (.fresh 0 0 (!w.params.followText "set-order")) } := Heap.get?_push_size _ rfl
      have hT : Shared.TypeIs { s with heap := s.heap.push { cls := .type "set", dict := none, data := .set #[] 0 (.fresh 0 0 (!w.params.followText "set-order")) } } (.ref s.heap.objs.size) "set" := ⟨_, hS, rfl⟩
      have hli := F.called_set.init.lookup
      have hbi := F.called_set.init.bind (.ref s.heap.objs.size)
      repeat (any_goals (first | assumption | wp_step))

      refine codeAny_mono (codeAny_call_builtin (R := wants (fun r s₂ => r = .none ∧ ∃ h' tk c, s₂ = { s with heap := h', toks := tk } ∧ SetR w h' s.heap.objs.size (fun j => decide (j ∈ ns)) c ∧ c ≤ ns.length ∧
          (∀ b o, s.heap.get? b = some o → h'.get? b = some o)) E) F.called_set.init.plain F.entry_set_init (check_set_init_1 hT ?_)) fun r₂ s₂ hr₂ => ?_
      · obtain ⟨ol, hol, hcl, nl, hdl⟩ := hl
        obtain ⟨ocls, odict, odata, oslots⟩ := ol
        simp only at hcl hdl
        subst hcl; subst hdl
        have hol' : (s.heap.push { cls := .type "set", dict := none, data := .set #[] 0 (.fresh 0 0 (!w.params.followText "set-order")) }).get? l = some { cls := .type "list", dict := odict, data := .seq items nl, slots := oslots } := Heap.get?_push_of_some _ hol
        have hsls := F.sub_list_set
        have hslf := F.sub_list_frozenset
        have hne : (Value.type "list" == Value.type "dict") = false := by decide
        have hl1 : (s.heap.push { cls := .type "set", dict := none, data := .set #[] 0 (.fresh 0 0 (!w.params.followText "set-order")) }).IsList l items := ⟨_, hol', rfl, nl, rfl⟩
        unfold Builtin.«set.__init__» noKeywords Builtin.Frozenset.updateFrom
        generalize hPI : pyIter = PI
        wp_walk
        subst hPI

        refine wpAny_pyIter_list hl1 ?_
        refine wpAny_bind (wpAny_runValue ?_)
        have hlS : l < s.heap.objs.size := Heap.lt_size hol
        have hh3 : A.in1.in1.in1.handled = none := by simp [hh]
        have hz1 : (s.heap.push { cls := .type "set", dict := none, data := .set #[] 0 (.fresh 0 0 (!w.params.followText "set-order")) }).objs.size = s.heap.objs.size + 1 := Heap.size_push ..
        have hneI : l ≠ (s.heap.push { cls := .type "set", dict := none, data := .set #[] 0 (.fresh 0 0 (!w.params.followText "set-order")) }).objs.size := by
          rw [Heap.size_push]; exact Nat.ne_of_lt (Nat.lt_succ_of_lt hlS)
        have hSf : s.heap.objs.size ∉ [(s.heap.push { cls := .type "set", dict := none, data := .set #[] 0 (.fresh 0 0 (!w.params.followText "set-order")) }).objs.size, l] := by
          rw [Heap.size_push]; simp only [List.mem_cons, List.mem_singleton, List.not_mem_nil, or_false, not_or]
          exact ⟨Nat.ne_of_lt (Nat.lt_succ_self _), Nat.ne_of_gt hlS⟩
        have hval : ∀ (i : Nat) (v : Value), items[i]? = some v → ∃ k t, ns[i]? = some k ∧ v = .int k t := fun i v hv => by
          have hi : i < ns.length := by rw [← hisz]; exact (Array.getElem?_eq_some_iff.mp hv).1
          obtain ⟨t, e⟩ := PyProof.Rows.IntsAre.int_at hit i v (by rw [Array.getElem?_toList]; exact hv)
          refine ⟨ns[i], t, List.getElem?_eq_getElem hi, ?_⟩
          rw [e, List.getD_eq_getElem?_getD, List.getElem?_eq_getElem hi] <;> rfl
        refine set_update_ints ((Walks.list hh3 _ l hneI items).toS) s.heap.objs.size
          hSf ns hisz hb hval (items.size - 0) 0 _ (by omega) (Nat.zero_le _)
          ⟨⟨_, Heap.get?_push_size _ rfl, rfl, rfl⟩, (hl1.push _)⟩ ?hS0 ?hR
        case hS0 =>
          have hget : ((s.heap.push { cls := .type "set", dict := none, data := .set #[] 0 (.fresh 0 0 (!w.params.followText "set-order")) }).push { cls := .type "list_iterator", data := .fields #[.ref l, .int 0 0] }).get? s.heap.objs.size
              = some { cls := .type "set", dict := none, data := .set #[] 0 (.fresh 0 0 (!w.params.followText "set-order")) } := Heap.get?_push_of_some _ hS
          exact ⟨0, Nat.le_refl 0, setR_new_at hget⟩
        case hR =>
          intro s' c' hm hc' hS'
          obtain ⟨h', g2, d', tk', os'⟩ := s'
          have eg : g2 = s.gens := hm.gens
          have ed : d' = s.drawn := hm.drawn
          have eo : os' = s.os := hm.os
          subst eg; subst ed; subst eo
          show wpAny _ _ _ _ _ _
          refine wpAny_pure ?_
          show wpAny _ _ (ret Value.none) _ _ _
          rw [hisz] at hc'
          refine wpAny_pure ⟨rfl, h', tk', c', rfl, hS', hc', fun b o e => ?_⟩
          have hb0 : b < s.heap.objs.size := Heap.lt_size e
          have hb1 : b ≠ s.heap.objs.size := Nat.ne_of_lt hb0
          have hb2 : b ≠ (s.heap.push { cls := .type "set", dict := none, data := .set #[] 0 (.fresh 0 0 (!w.params.followText "set-order")) }).objs.size := by
            rw [Heap.size_push]; exact Nat.ne_of_lt (Nat.lt_succ_of_lt hb0)
          exact hm.heap b o (by simp only [List.mem_cons, List.mem_singleton, List.not_mem_nil, or_false, not_or]; exact ⟨hb1, hb2⟩) (Heap.get?_push_of_some _ (Heap.get?_push_of_some _ e))

      · cases r₂ with
        | error e => exact hr₂
        | ok fl₂ =>
          cases fl₂ with
          | ret r =>
            obtain ⟨rfl, h', tk, c', rfl, hS', hc', hk'⟩ := hr₂
            repeat (any_goals (first | assumption | wp_step))
            exact h _ _ _ hS' hc' hk'
          | _ => exact hr₂.elim
    | _ => exact hr.elim
end
end L2
namespace Pu
open PySem PySem.Spec PyProof.Rows L2
variable [TabT]
/-! ### sorted(set(a list of ints)) -/
def insU (k : Int) : List Int → List Int
  | [] => [k]
  | x :: xs => if k < x then k :: x :: xs else if k = x then x :: xs else x :: insU k xs
def sset : List Int → List Int
  | [] => []
  | k :: ks => insU k (sset ks)
theorem insU_mem (k j : Int) : ∀ l : List Int, j ∈ insU k l ↔ j = k ∨ j ∈ l
  | [] => by simp [insU]
  | x :: xs => by
    unfold insU
    split
    · simp
    · split
      · rename_i h
        subst h
        simp
      · simp [insU_mem k j xs]
        constructor
        · rintro (h | h | h) <;> simp [h]
        · rintro (h | h | h) <;> simp [h]
theorem insU_pw (k : Int) : ∀ l : List Int, l.Pairwise (· < ·) → (insU k l).Pairwise (· < ·)
  | [], _ => by simp [insU]
  | x :: xs, h => by
    unfold insU
    rw [List.pairwise_cons] at h
    split
    · rename_i hk
      rw [List.pairwise_cons, List.pairwise_cons]
      refine ⟨fun y hy => ?_, h⟩
      rcases List.mem_cons.mp hy with rfl | hy
      · exact hk
      · exact Int.lt_trans hk (h.1 y hy)
    · split
      · exact List.pairwise_cons.mpr h
      · rw [List.pairwise_cons]
        refine ⟨fun y hy => ?_, insU_pw k xs h.2⟩
        rcases (insU_mem k y xs).mp hy with rfl | hy
        · omega
        · exact h.1 y hy
theorem sset_mem (j : Int) : ∀ l : List Int, j ∈ sset l ↔ j ∈ l
  | [] => by simp [sset]
  | k :: ks => by simp [sset, insU_mem, sset_mem j ks]
theorem sset_pw : ∀ l : List Int, (sset l).Pairwise (· < ·)
  | [] => by simp [sset]
  | k :: ks => insU_pw k _ (sset_pw ks)
theorem insU_len (k : Int) : ∀ l : List Int, (insU k l).length ≤ l.length + 1
  | [] => by simp [insU]
  | x :: xs => by
    unfold insU
    have := insU_len k xs
    split
    · simp
    · split <;> simp <;> omega
theorem sset_len : ∀ l : List Int, (sset l).length ≤ l.length
  | [] => by simp [sset]
  | k :: ks => by
    have := sset_len ks
    have := insU_len k (sset ks)
    simp [sset]
    omega
theorem pw_uniq : ∀ {l m : List Int}, l.Pairwise (· < ·) → m.Pairwise (· < ·) → (∀ k, k ∈ l ↔ k ∈ m) → l = m
  | [], [], _, _, _ => rfl
  | [], y :: ys, _, _, h => by simpa using (h y).mpr (by simp)
  | x :: xs, [], _, _, h => by simpa using (h x).mp (by simp)
  | x :: xs, y :: ys, hl, hm, h => by
    rw [List.pairwise_cons] at hl hm
    have e : x = y := by
      have h1 := (h x).mp (by simp)
      have h2 := (h y).mpr (by simp)
      rcases List.mem_cons.mp h1 with e | e
      · exact e
      · rcases List.mem_cons.mp h2 with e2 | e2
        · exact e2.symm
        · have a := hm.1 x e
          have b := hl.1 y e2
          omega
    subst e
    refine congrArg _ (pw_uniq hl.2 hm.2 fun k => ?_)
    constructor
    · intro hk
      have a := hl.1 k hk
      rcases List.mem_cons.mp ((h k).mp (by simp [hk])) with e | e
      · omega
      · exact e
    · intro hk
      have a := hm.1 k hk
      rcases List.mem_cons.mp ((h k).mpr (by simp [hk])) with e | e
      · omega
      · exact e
theorem sset_uniq {l m : List Int} (h : l.Pairwise (· < ·)) (hm : ∀ k, k ∈ l ↔ k ∈ m) : l = sset m :=
  pw_uniq h (sset_pw m) fun k => by rw [hm, sset_mem]
theorem rpa_of_ints {K : PySem.W.Frag} {F : Hp} : ∀ ns : List Int, RpAll K F (ns.map V.int) (ns.map .int)
  | [] => .nil
  | k :: ks => .cons (.int k) (rpa_of_ints ks)
def unaO (g : D → Option (List D)) (ma : M D) : M RV := ma.bind fun x => M.opt ((g x).map fun z => .o (.l z))
/-! ### sorted(a list of ints) -/
def insS (k : Int) : List Int → List Int
  | [] => [k]
  | x :: xs => if k ≤ x then k :: x :: xs else x :: insS k xs
def isort : List Int → List Int
  | [] => []
  | k :: ks => insS k (isort ks)
theorem insS_perm (k : Int) : ∀ l : List Int, (insS k l).Perm (k :: l)
  | [] => .refl _
  | x :: xs => by
    unfold insS
    split
    · exact .refl _
    · exact ((insS_perm k xs).cons x).trans (.swap k x xs)
theorem isort_perm : ∀ l : List Int, (isort l).Perm l
  | [] => .refl _
  | k :: ks => (insS_perm k _).trans ((isort_perm ks).cons k)
theorem insS_pw (k : Int) : ∀ l : List Int, l.Pairwise (· ≤ ·) → (insS k l).Pairwise (· ≤ ·)
  | [], _ => by simp [insS]
  | x :: xs, h => by
    unfold insS
    rw [List.pairwise_cons] at h
    split
    · rename_i hk
      rw [List.pairwise_cons, List.pairwise_cons]
      refine ⟨fun y hy => ?_, h⟩
      rcases List.mem_cons.mp hy with rfl | hy
      · exact hk
      · exact Int.le_trans hk (h.1 y hy)
    · rw [List.pairwise_cons]
      refine ⟨fun y hy => ?_, insS_pw k xs h.2⟩
      rcases List.mem_cons.mp ((insS_perm k xs).mem_iff.mp hy) with rfl | hy
      · omega
      · exact h.1 y hy
theorem isort_pw : ∀ l : List Int, (isort l).Pairwise (· ≤ ·)
  | [] => by simp [isort]
  | k :: ks => insS_pw k _ (isort_pw ks)
theorem pw_uniq2 {l m : List Int} (hl : l.Pairwise (· ≤ ·)) (hm : m.Pairwise (· ≤ ·)) (h : l.Perm m) : l = m := by
  induction l generalizing m with
  | nil => exact h.nil_eq
  | cons x xs ih =>
    cases m with
    | nil => exact absurd h.symm.nil_eq (by simp)
    | cons y ys =>
      rw [List.pairwise_cons] at hl hm
      have e : x = y := by
        have a : x ∈ y :: ys := h.mem_iff.mp (by simp)
        have b : y ∈ x :: xs := h.mem_iff.mpr (by simp)
        rcases List.mem_cons.mp a with e | e
        · exact e
        · rcases List.mem_cons.mp b with e2 | e2
          · exact e2.symm
          · have := hm.1 x e
            have := hl.1 y e2
            omega
      subst e
      rw [ih hl.2 hm.2 h.cons_inv]
def sortD : List D → Option (List D)
  | [.list ds] => (intsOf ds).map fun ns => (isort ns).map .int
  | _ => none
theorem sort_data {X : Cx} {c : Cc} (hK : c.K = X.K := by rfl) : CallR X (.builtin "sorted") (rDAo c.K sortD) := callr_cq cr_sortedI fun xs H Q ⟨F, ds, z, fh, dps, hz, q⟩ => by
  unfold sortD at hz
  split at hz
  · rename_i es
    cases e : intsOf es with
    | none =>
      rw [e] at hz
      cases hz
    | some ns =>
      rw [e] at hz
      cases hz
      rw [intsOf_some e] at dps
      obtain ⟨v, rfl, dp⟩ := rpa_one dps
      cases dp with
      | @lst a vs _ g1 g2 =>
        have e := rpa_ints g2
        subst e
        refine ⟨a, ns, rfl, by rw [← hK]; exact fh.l g1, fun ns' p pm pw np => ?_⟩
        have : ns' = isort ns := pw_uniq2 pw (isort_pw ns) (pm.trans (isort_perm ns).symm)
        subst this
        exact q p _ np (rpa_of_ints _)
  · cases hz
end Pu
namespace Pu
open PySem PySem.Spec PyProof.Rows L2
variable [TabT]
/-! ### the fields of a caught exception -/
/-! ### HouseError.__init__(self, ..) -/
/-! ### the own __init__ of an exception: its fields are its parameters -/
def sRaiseF (nm : Str) (fs : List Str) (ms : M (List D)) : M Fl := ms.bind fun ds => fun r => if ds.length = fs.length then .ex ⟨nm, (fs.zip ds).reverse⟩ r else .no
theorem zip_fst {α β : Type} : ∀ {fs : List α} {ys : List β}, ys.length = fs.length → (fs.zip ys).map (·.1) = fs
  | [], [], _ => rfl
  | _ :: fs, _ :: ys, h => by simp [zip_fst (fs := fs) (ys := ys) (by simpa using h)]
/-! ### the head with the statics -/
end Pu
namespace Pu
open PySem PySem.Spec PyProof.Rows L2
/-! ### the tables of the defs that make lambdas -/
/-- the code object and its table of the global def x -/
def tabP (K : PySem.W.Frag) (x : Str) : Option (Addr × Addr) := match K.lookup (He.ga K x) with
  | some ⟨_, _, .func fd, _⟩ => (match fd.code with
    | .ref c => (match K.lookup c with
      | some ⟨_, _, .fields vs, _⟩ => (match (vs[11]? : Option Value) with
        | some (.ref P) => some (c, P)
        | _ => none)
      | _ => none)
    | _ => none)
  | _ => none
def lamQ (x : Str) : Str := (x ++ ".<locals>.") ++ "<lambda>"
def tabsN (ln : List Str) (K : PySem.W.Frag) : List (Addr × Str) := ln.filterMap fun x => (tabP K x).map fun p => (p.2, lamQ x)
def csN (ln : List Str) (K : PySem.W.Frag) : List (Addr × Addr) := ln.filterMap (tabP K)
def emptyT : Option Obj → Bool
  | some ⟨.none, none, .fields vs, sl⟩ => vs.isEmpty && sl.isEmpty
  | _ => false
theorem emptyT_ok {o : Option Obj} (h : emptyT o = true) : o = some { cls := .none, data := .fields #[] } := by
  unfold emptyT at h
  split at h
  · simp only [Bool.and_eq_true, Array.isEmpty_iff] at h
    obtain ⟨rfl, rfl⟩ := h
    rfl
  · cases h
def lamB (ln : List Str) (K : PySem.W.Frag) (g : Addr → Option Obj) : Bool := (ln.all fun x => match tabP K x with
  | some (c, P) => PySem.W.codeHdIn K c P && ((K.lookup P).isNone && emptyT (g P))
  | none => false) && (tabsN ln K).all fun p => (tabsN ln K).all fun q => !(p.1 == q.1) || p.2 == q.2
structure LamOk (ln : List Str) (K : PySem.W.Frag) (h : Heap) : Prop where
  at_ : ∀ x ∈ ln, ∃ c P, tabP K x = some (c, P) ∧ PySem.W.codeHdIn K c P = true ∧ K.lookup P = none ∧ h.get? P = some { cls := .none, data := .fields #[] }
  un : ∀ p ∈ tabsN ln K, ∀ q ∈ tabsN ln K, p.1 = q.1 → p.2 = q.2
theorem lamB_ok {ln : List Str} {K : PySem.W.Frag} {h : Heap} (e : lamB ln K h.get? = true) : LamOk ln K h := by
  unfold lamB at e
  simp only [Bool.and_eq_true, List.all_eq_true] at e
  obtain ⟨e1, e2⟩ := e
  refine ⟨fun x hx => ?_, fun p hp q hq z => ?_⟩
  · have q := e1 x hx
    cases ht : tabP K x with
    | none =>
      rw [ht] at q
      cases q
    | some cp =>
      obtain ⟨c, P⟩ := cp
      rw [ht] at q
      simp only [Bool.and_eq_true] at q
      obtain ⟨q1, q2, q3⟩ := q
      exact ⟨c, P, rfl, q1, Option.isNone_iff_eq_none.mp q2, emptyT_ok q3⟩
  · have y := e2 p hp q hq
    simp only [Bool.or_eq_true, Bool.not_eq_true', beq_iff_eq, beq_eq_false_iff_ne] at y
    rcases y with y | y
    · exact absurd z y
    · exact y
theorem LamOk.keeps {ln : List Str} {K : PySem.W.Frag} {h h' : Heap} (l : LamOk ln K h) (k : ∀ b o, h.get? b = some o → h'.get? b = some o) : LamOk ln K h' := ⟨fun x hx => by
  obtain ⟨c, P, q1, q2, q3, q4⟩ := l.at_ x hx
  exact ⟨c, P, q1, q2, q3, k _ _ q4⟩, l.un⟩
def asL (g : Addr → Option Obj) (n : Nat) (ln : List Str) : List Addr :=
  let as := He.asD g n ++ [cStatics]
  let ts := (csN ln (He.frG g as)).map (·.2)
  as.filter fun a => !ts.contains a
def obsLG (n : Nat) (fa : List He.Fa) (fn : List He.DefD) (ex : PySem.W.Frag → Bool) (ln : List Str) (g : Addr → Option Obj) : AlB := (He.obsD fa fn (He.frG g (asL g n ln)), ex (He.frG g (asL g n ln)) && lamB ln (He.frG g (asL g n ln)) g)
def hookL (n : Nat) (fa : List He.Fa) (fn : List He.DefD) (ex : PySem.W.Frag → Bool) (ln : List Str) : PySem.W.Hook where
  α := AlB
  obs := fun s => obsLG n fa fn ex ln s.heap.get?
  val := fun _ => (He.valD fn, true)
  says := fun _ h => ∃ K : PySem.W.Frag, K.In h ∧ SaysB fa fn ex K ∧ LamOk ln K h
  of := fun _ _ e => by
    have e2 := congrArg (fun z : AlB => z.2) e
    have e2 := Bool.and_eq_true_iff.mp e2
    exact ⟨_, He.frG_in, ⟨congrArg (fun z : AlB => z.1) e, e2.1⟩, lamB_ok e2.2⟩
  keeps := fun _ _ _ ⟨K, hK, c, l⟩ k => ⟨K, PySem.W.Frag.In.keeps hK k, c, l.keeps k⟩
theorem obsLG_eq {n : Nat} {fa : List He.Fa} {fn : List He.DefD} {ex : PySem.W.Frag → Bool} {ln : List Str} {g : Addr → Option Obj} {s : Shared} (h : ∀ a, g a = s.heap.get? a) : obsLG n fa fn ex ln g = (hookL n fa fn ex ln).obs s := by
  have e : g = s.heap.get? := funext h
  rw [e] <;> rfl
/-- what the law's start is told of the tables -/
theorem LamOk.cs {ln : List Str} {K : PySem.W.Frag} {h : Heap} (l : LamOk ln K h) (X : K.In h) : (∀ p ∈ csN ln K, h.get? p.2 = some { cls := .none, data := .fields #[] }) ∧ (∀ p ∈ csN ln K, K.lookup p.2 = none) ∧ (∀ p ∈ csN ln K, PySem.W.CodeHd h p.1 p.2) := by
  have key : ∀ p ∈ csN ln K, PySem.W.codeHdIn K p.1 p.2 = true ∧ K.lookup p.2 = none ∧ h.get? p.2 = some { cls := .none, data := .fields #[] } := fun p hp => by
    obtain ⟨x, hx, e⟩ := List.mem_filterMap.mp hp
    obtain ⟨c, P, q1, q2, q3, q4⟩ := l.at_ x hx
    rw [q1] at e
    cases e
    exact ⟨q2, q3, q4⟩
  exact ⟨fun p hp => (key p hp).2.2, fun p hp => (key p hp).2.1, fun p hp => PySem.W.codeHd_of_K X (key p hp).1⟩
theorem tabs_start {ln : List Str} {K : PySem.W.Frag} {H : Hp} (h : ∀ p ∈ csN ln K, H p.2 = some (.tbl #[])) : LamX.Tabs (tabsN ln K) H := fun p hp => by
  obtain ⟨x, hx, e⟩ := List.mem_filterMap.mp hp
  cases ht : tabP K x with
  | none =>
    rw [ht] at e
    cases e
  | some cp =>
    rw [ht] at e
    cases e
    exact LamX.TabS.nil (h cp (List.mem_filterMap.mpr ⟨x, hx, ht⟩))
/-! ### the lambda called, with no guard under way -/
/-! ### the def that calls the lambda inside its try -/
section
open LamX
variable [TabT]
/-! ### x(lambda: E) -/
/-- the lambda sees data alone -/
def hideS : Sl → Sl
  | .v d => .v d
  | _ => .unk
def lamRes (r1 : En) : Re Fl → Re RV
  | .ok (.rt rv) _ => .ok rv r1
  | .ok .nx _ => .ok (.v .none) r1
  | _ => .no
def cLam (ns : List Str) (n i : Nat) (br : M Fl) (th : M D) : M RV := fun r => match th (r.map hideS) with
  | .ok _ _ => lamRes r (br ((List.replicate n Sl.unk).set i (.v .none)))
  | .ex e _ => if e.name ∈ ns then lamRes r (br ((List.replicate n Sl.unk).set i (.v (exOf e)))) else .no
  | .no => .no
end
end Pu
namespace Pu
open PySem PySem.Spec PyProof.Rows L2
variable [TabT]
section
variable {X : Cx} {c : Cc}
/-! ### l.remove(x), l.count(x) over data -/
noncomputable def eRemove (i : Nat) (m : M D) : M D := fun r => match getC i r with
  | some (.l _) => (m r).bind fun d r => match getC i r with
    | some (.l ds) => cI (SeqAt.shaped d = true ∧ SeqAt.shaped (.list ds) = true ∧ (SeqAt.dataPlace ds d).isSome = true) (.ok .none (putC i (.l (ds.eraseIdx ((SeqAt.dataPlace ds d).getD 0))) r)) .no
    | _ => .no
  | _ => .no
theorem cI_po {α : Type} {p : Prop} {x : Re α} {Xp : Exn → En → Prop} {k : α → En → Prop} (h : Po Xp (cI p x .no) k) : p ∧ Po Xp x k := by
  by_cases hp : p
  · have e : cI p x .no = x := by unfold cI; exact if_pos hp
    rw [e] at h
    exact ⟨hp, h⟩
  · have e : cI p x .no = .no := by unfold cI; exact if_neg hp
    rw [e] at h
    exact h.elim
/-- l.count(x) -/
def rCntD (K : PySem.W.Frag) : V → List V → Hp → VK → Prop := fun x xs H Q => ∃ (a : Addr) (y : V) (d : PyData) (ds : List PyData), x = V.ref a ∧ xs = [y] ∧ Dp K H (V.ref a) (.list ds) ∧ Dp K H y d ∧
  SeqAt.shaped (.list ds) = true ∧ SeqAt.shaped d = true ∧ Q (.int ((ds.countP fun z => PyData.eqv z d : Nat) : Int)) H
theorem mt_countD (hu : X.A.units + 65 < cLine) : MtR X "list.count" (rCntD X.K) := by
  intro pins s σ H x xs v us Q I rx rxs h
  obtain ⟨a, y, d, ds, rfl, rfl, hl, hy, sl, sd, q⟩ := h
  cases rx
  cases rxs with
  | cons ry rt =>
    rename_i uy ut
    cases rt
    obtain ⟨bs, r1⟩ := Dp.reads I d y uy hy ry
    have hxs : PyData.canLayAll0 ds = true := SeqAt.canLay_of_shaped sl
    have hroom : X.A.units + 1 + min (PyData.depthAll ds) d.depth < cLine := room_in_shaped sd hu
    cases hl with
    | lst hs ha =>
      obtain ⟨its, rv, ⟨⟨cls, dd, data, sls⟩, n, ho, hc, hdn, hdt⟩, hlen⟩ := I.list hs
      simp only at hc hdt
      subst hc hdt
      obtain ⟨as, h4⟩ := Dp.readsAll I ds _ its ha rv
      have h4' : ReadsAll s.heap its.toArray.toList ds as := h4
      refine call_meets PySem.F.slot_list_count ⟨_, ho, rfl⟩ PySem.F.entry_list_count (PySem.F.args_list_count_2 _ _)
        (SeqAt.list_countAt a its.toArray n dd sls uy (fun u => PyData.eqv (SeqAt.readOf s.heap u) d)) ⟨ho, SeqAt.items_eqAt (vs := its.toArray) h4' r1 hxs (SeqAt.canLay_of_shaped sd) hroom, ?_⟩
      refine ⟨.int ((ds.countP fun z => PyData.eqv z d : Nat) : Int), H, I.tok _, ⟨s.toks, ?_⟩, q⟩
      rw [SeqAt.count_at h4' (PyData.plainAll_of_canLay0 ds hxs)]
noncomputable def countD : D → D → Option D
  | .list ds, d => cI (SeqAt.shaped d = true ∧ SeqAt.shaped (.list ds) = true) (some (.int ((ds.countP fun z => PyData.eqv z d : Nat) : Int))) none
  | _, _ => none
noncomputable def eCount (mo me : M D) : M D := mo.bind fun d => match d with
  | .list ds => me.bind fun b => M.opt (countD (.list ds) b)
  | _ => M.no
theorem e_count {k : Nat} {o e : Expr} {mo me : M D} {apos cpos : Pos} (ho : PE X o (tM c mo)) (he : PE X e (tM c me)) (hr : Rm k X.A) (hK : c.K = X.K := by rfl) (hs1 : starEach [e] X.env = [(false, eval e X.env)] := by rfl)
    (hbase : attributeBase o "count" X.env (eval o X.env) = eval o X.env := by rfl)
    (hfew : ((backTo cpos (starEach [e] X.env)).all (fun x => !x.1) && (backToKw cpos (keywordEach [] X.env)).all (fun x => x.1.isSome) && decide (([e] : List Expr).length + ([] : List Keyword).length + (if ([] : List Keyword).isEmpty then 0 else 1) < 30)) = true := by rfl)
    (hline : (apos.endLine == cpos.line) = true := by rfl) (hplain : (backTo cpos (starEach [] X.env)).any (·.1) = false := by rfl) :
    PE X (.Call (.Attribute o "count" apos) [e] [] cpos) (tM c (eCount mo me)) :=
  pe_cq (pe_bm PySem.F.plainAttrs_list PySem.F.slot_list_count PySem.F.type_list_count (mt_countD hr.in65) ho (pa_cons he pa_nil hs1) hbase hfew hline hs1 hplain) fun st H Q ⟨pa, H0, F0, F, r, ok, po⟩ => seqM ok po fun d r1 F1 H1 v k1 e1 dp q => by
    cases dp with
    | @lst a vs ds g1 g2 =>
      have q := Po.bind (show Po _ ((me.bind fun b => M.opt (countD (.list ds) b)) r1) _ from q)
      refine ⟨.inl ⟨rfl, vs, by rw [← hK]; exact k1.fH.l g1⟩, pa, H0, F0, F1, r1, k1, q.mono (fun _ _ x => x) fun b r2 q F2 H2 w k2 e2 dq => ?_⟩
      obtain ⟨z, hz, q2⟩ := opt_po q
      have hz : (if SeqAt.shaped b = true ∧ SeqAt.shaped (.list ds) = true then some (PyData.int ((ds.countP fun z => PyData.eqv z b : Nat) : Int)) else none) = some z := by
        rw [← cI_eq]
        exact hz
      split at hz
      · rename_i hm
        cases hz
        exact ⟨a, w, b, ds, rfl, rfl, by rw [← hK]; exact rp_dp (dp_mono (e2.trans k2.fH) (.lst g1 g2)) hm.2, by rw [← hK]; exact rp_dp (dp_mono k2.fH dq) hm.1, hm.2, hm.1, q2 F2 H2 _ k2 (e1.trans e2) (.int _)⟩
      · cases hz
    | _ => exact (show False from q).elim
/-! ### d.get(k, x) of an owned dict -/
def eGet (i : Nat) (mk mx : M D) : M D := fun r => match getC i r with
  | some (.d _) => (mk r).bind fun k r => (mx r).bind fun x r => (match getC i r with
    | some (.d kvs) => (match keyD k with
      | some y => .ok ((vK kvs y).getD x) r
      | none => .no)
    | _ => .no)
  | _ => .no
theorem e_get (i : Nat) {x : Str} {e f : Expr} {mk mx : M D} {px apos cpos : Pos} (h : PE X e (tM c mk)) (hf : PE X f (tM c mx)) (hu : X.A.units + 1 < cLine) (hN : X.N[i]? = some x := by rfl) (hv : Vis X.env.scope x := by first | exact Or.inl rfl | exact Or.inr (Or.inl rfl) | exact Or.inr (Or.inr rfl)) (hd : (x == ("__debug__" : Str)) = false := by decide)
    (hcd : (x == ("__classdict__" : Str)) = false := by decide)
    (hbase : attributeBase (.Name x px) "get" X.env (eval (.Name x px) X.env) = eval (.Name x px) X.env := by rfl)
    (hfew : ((backTo cpos (starEach [e, f] X.env)).all (fun x => !x.1) && (backToKw cpos (keywordEach [] X.env)).all (fun x => x.1.isSome) && decide (([e, f] : List Expr).length + ([] : List Keyword).length + (if ([] : List Keyword).isEmpty then 0 else 1) < 30)) = true := by rfl)
    (hline : (apos.endLine == cpos.line) = true := by rfl) (htr : backTo cpos (starEach [e, f] X.env) = [(false, eval e X.env), (false, eval f X.env)] := by rfl) :
    PE X (.Call (.Attribute (.Name x px) "get" apos) [e, f] [] cpos) (tM c (eGet i mk mx)) :=
  pe_cq (pe_dget2 hu (pe_var (i := i) hN hv hd hcd) h hf ⟨hbase, hfew, hline, htr⟩) fun st H Q ⟨pa, H0, F0, F, r, ok, po⟩ => by
    unfold eGet at po
    split at po
    · rename_i kv0 hg
      obtain ⟨s0, hs0, hso0⟩ := getC_some hg
      obtain ⟨a, hst, nF, n0, ks0, hH0, hr0⟩ := ok.ownd hs0 hso0
      refine ⟨_, hst, a, rfl, .inl ⟨ks0, .inl hH0⟩, ?_⟩
      refine ⟨pa, H0, F0, F, r, ok, (Po.bind po).mono (fun _ _ x => x) fun kd r1 q F1 H1 v k1 e1 dp => ?_⟩
      refine ⟨pa, H0, F0, F1, r1, k1, (Po.bind q).mono (XW.mono e1) fun xd r2 q F2 H2 z k2 e2 dq => ?_⟩
      split at q
      · rename_i kvs hg1
        obtain ⟨s1, hs1, hso1⟩ := getC_some hg1
        obtain ⟨a1, hst1, nF1, n01, ks, hH1, hr1⟩ := k2.ownd hs1 hso1
        rw [hst] at hst1
        cases hst1
        cases hy : keyD kd with
        | none =>
          rw [hy] at q
          exact q.elim
        | some y =>
          rw [hy] at q
          cases rp_key dp hy
          refine ⟨_, DGet.k hH1, ?_⟩
          cases hvk : vK kvs y with
          | none =>
            rw [kv_none hr1 hvk]
            simp only [hvk] at q
            exact q F2 H2 z k2 (e1.trans e2) dq
          | some d =>
            obtain ⟨w, g1, g2⟩ := kv_get hr1 hvk
            rw [g1]
            simp only [hvk] at q
            exact q F2 H2 w k2 (e1.trans e2) g2
      · exact q.elim
    · exact po.elim
/-! ### l.clear() -/
def eClear (i : Nat) : M D := fun r => match getC i r with
  | some (.l _) => .ok .none (putC i (.l []) r)
  | _ => .no
end
end Pu
namespace Pu
open PySem PySem.Spec PyProof.Rows L2
variable [TabT]
/-! ### zip of a tuple and a list -/
def zipW : List D → Option (List D)
  | [.tuple xs, .list ys] => some (zipD xs ys)
  | [.list xs, .list ys] => some (zipD xs ys)
  | [.tuple xs, .tuple ys] => some (zipD xs ys)
  | _ => none
end Pu
namespace Pu
open PySem PySem.Spec PyProof.Rows L2
variable [TabT]
section
variable {X : Cx} {c : Cc}
/-! ### repr(x), isinstance(x, T) of an owned name -/
noncomputable def eReprS (i : Nat) : M D := fun r => match getC i r with
  | some (.l ds) => M.opt (reprD (.list ds)) r
  | some (.d _) => .no
  | some (.t _) => .no
  | some (.n (.l its)) => M.opt (reprD (.list (its.map Im.data))) r
  | some (.n _) => .no
  | none => nry (one reprD) (aCons (getS i) aNil) r
noncomputable def eIsiS (T : String) (i : Nat) : M D := fun r => match getC i r with
  | some (.l ds) => M.opt ((kitB "list" T).map PyData.bool) r
  | some (.d _) => M.opt ((kitB "dict" T).map PyData.bool) r
  | some (.t _) => .no
  | some (.n (.l _)) => M.opt ((kitB "list" T).map PyData.bool) r
  | some (.n _) => .no
  | none => una (isiD T) (getS i) r
/-! ### list(d), sorted(d) of an owned dict -/
def kD : Key → D
  | .inl i => .int i
  | .inr x => .str x
def oListK (i : Nat) : M RV := fun r => match getC i r with
  | some (.d kvs) => .ok (.o (.l (kvs.map fun kv => kD kv.1))) r
  | some (.l _) => .no
  | some (.t _) => .no
  | some (.n _) => .no
  | none => nryO listD (aCons (getS i) aNil) r
theorem kv_keys {K : PySem.W.Frag} {F : Hp} : ∀ {ks : List (Key × V)} {kvs : List (Key × D)}, KvAll K F ks kvs → ks.map (·.1) = kvs.map (·.1)
  | _, _, .nil => rfl
  | _, _, .cons r t => by
    rw [List.map_cons, List.map_cons, kv_keys t]
def intKs : List Key → Option (List Int)
  | [] => some []
  | .inl i :: ks => (intKs ks).map (i :: ·)
  | .inr _ :: _ => none
theorem intKs_eq : ∀ {ks : List Key} {is : List Int}, intKs ks = some is → ks = is.map Sum.inl
  | [], is, h => by
    cases h
    rfl
  | .inl i :: ks, is, h => by
    unfold intKs at h
    cases hk : intKs ks with
    | none =>
      rw [hk] at h
      cases h
    | some js =>
      rw [hk] at h
      cases h
      rw [intKs_eq hk]
      rfl
  | .inr _ :: _, _, h => by cases h
noncomputable def oSortK (i : Nat) : M RV := fun r => match getC i r with
  | some (.d kvs) => (match intKs (kvs.map (·.1)) with
    | some is => cI (is.length < 64) (.ok (.o (.l ((isort is).map .int))) r) .no
    | none => .no)
  | some (.l _) => .no
  | some (.t _) => .no
  | some (.n _) => .no
  | none => nryO sortD (aCons (getS i) aNil) r
theorem o_sortK (i : Nat) {x : Str} {p px pos : Pos} (hm : X.mg "sorted" = none) (hK : c.K = X.K := by rfl) (hc : X.calm = true := by rfl) (hg : Gl X "sorted" := by rfl) (hs1 : starEach [.Name x px] X.env = [(false, eval (.Name x px) X.env)] := by rfl) (hpl : (backTo pos (starEach [] X.env)).any (·.1) = false := by rfl)
    (hN : X.N[i]? = some x := by rfl) (hv : Vis X.env.scope x := by first | exact Or.inl rfl | exact Or.inr (Or.inl rfl) | exact Or.inr (Or.inr rfl)) (hd : (x == ("__debug__" : Str)) = false := by decide)
    (hcd : (x == ("__classdict__" : Str)) = false := by decide) : PE X (.Call (.Name "sorted" p) [.Name x px] [] pos) (tO c (oSortK i)) :=
  pe_cq (pe_or' (pe_callB (call_sortedDI hc) hg hm (by decide +kernel) (pa_cons (pe_var (i := i) hN hv hd hcd) pa_nil hs1) (by decide) (by decide) hs1 hpl)
    (o_callB (c := c) (sort_data hK) hm (a_cons (e_var i hN hv hd hcd) a_nil hs1) hg (by decide +kernel) (by decide) (by decide) hs1 hpl)) fun st H Q ⟨pa, H0, F0, F, r, ok, po⟩ => by
    unfold oSortK at po
    split at po
    · rename_i kvs hg
      obtain ⟨s0, hs0, hso0⟩ := getC_some hg
      obtain ⟨a, hst, nF, n0, ks, hH, hr⟩ := ok.ownd hs0 hso0
      split at po
      · rename_i is his
        obtain ⟨h64, po⟩ := cI_po po
        refine .inl ⟨_, hst, a, ks, is, rfl, .inl hH, ?_, h64, fun ys p hp hs np => ?_⟩
        · rw [kv_keys hr]
          exact intKs_eq his
        · have e : ys = isort is := pw_uniq2 hs (isort_pw is) (hp.trans (isort_perm is).symm)
          rw [e]
          exact oA_end ok po p _ np (dpa_ints _)
      · exact po.elim
    · exact po.elim
    · exact po.elim
    · exact po.elim
    · exact .inr ⟨pa, H0, F0, F, r, ok, po⟩
/-! ### tuple(x) of an owned list: x stays one's own -/
def eTupS (i : Nat) : M D := fun r => match getC i r with
  | some (.l ds) => .ok (.tuple ds) r
  | some (.d _) => .no
  | some (.t _) => .no
  | some (.n _) => .no
  | none => nry (one tupD) (aCons (getS i) aNil) r
theorem e_tupS (i : Nat) {x : Str} {p px pos : Pos} (hm : X.mg "tuple" = none) (hK : c.K = X.K := by rfl) (hg : Gl X "tuple" := by rfl) (hs1 : starEach [.Name x px] X.env = [(false, eval (.Name x px) X.env)] := by rfl) (hpl : (backTo pos (starEach [] X.env)).any (·.1) = false := by rfl)
    (hN : X.N[i]? = some x := by rfl) (hv : Vis X.env.scope x := by first | exact Or.inl rfl | exact Or.inr (Or.inl rfl) | exact Or.inr (Or.inr rfl)) (hd : (x == ("__debug__" : Str)) = false := by decide)
    (hcd : (x == ("__classdict__" : Str)) = false := by decide) : PE X (.Call (.Name "tuple" p) [.Name x px] [] pos) (tM c (eTupS i)) :=
  pe_cq (pe_or' (pe_callTy call_tuple_of hg hm (by decide +kernel) (pa_cons (pe_var (i := i) hN hv hd hcd) pa_nil hs1) (by decide) (by decide) hs1 hpl)
    (e_callT (c := c) (tup_data hK) hm (a_cons (e_var i hN hv hd hcd) a_nil hs1) hg (by decide +kernel) (by decide) (by decide) hs1 hpl)) fun st H Q ⟨pa, H0, F0, F, r, ok, po⟩ => by
    unfold eTupS at po
    split at po
    · rename_i ds hg
      obtain ⟨s0, hs0, hso0⟩ := getC_some hg
      obtain ⟨a, hst, nF, n0, vs, hH, hr⟩ := ok.ownd hs0 hso0
      refine .inl ⟨_, hst, a, vs, rfl, .inl ⟨.inl (.inl hH), fun p np => ?_⟩⟩
      have nFp := ok.fH.nn np
      exact op_end (r' := r) ok (fun F' H' v k e dp => po F' H' v k e dp) _ _ _ (.inr ⟨p, _, np, rfl, rfl⟩) (.tup upd_same (dpa_mono (Ex.new nFp) hr))
    · exact po.elim
    · exact po.elim
    · exact po.elim
    · exact .inr ⟨pa, H0, F0, F, r, ok, po⟩
end
end Pu
namespace Pu
open PySem PySem.Spec PyProof.Rows L2
variable [TabT]
section
variable {X : Cx} {c : Cc}
/-! ### max(list of ints, default=int) -/
def maxI (d : Int) : List Int → Int
  | [] => d
  | x :: xs => xs.foldl (fun a y => max a y) x
theorem lay0 : ∀ xs : List Int, PyData.canLayAll0 (xs.map .int) = true
  | [] => rfl
  | _ :: xs => lay0 xs
def maxdD : D → D → Option D
  | .list ds, .int d => (intsOf ds).map fun ns => .int (maxI d ns)
  | _, _ => none
/-! ### a call with an owned list lent -/
mutual
def noL : D → Bool
  | .tuple ds => noLAll ds
  | .list _ => false
  | .dict _ => false
  | _ => true
def noLAll : List D → Bool
  | [] => true
  | d :: ds => noL d && noLAll ds
end
def noLR : RV → Bool
  | .v d => noL d
  | .o (.l ds) => noLAll ds
  | .o (.d _) => false
  | .o (.t _) => false
  | .o (.n _) => false
end
end Pu
/-! ### sorted(set(a list of ints)), any number of them -/
namespace L2
open PySem PySem.Spec PyProof.Rows
section
variable {P : Program} {w : World} {A : Around} {E : Value → Shared → Prop} {s : Shared} {a : Addr}
theorem sorted_setA {S : Int → Bool} {n : Nat} {Q : Value → Shared → Prop} (R : SetR w s.heap a S n) (hh : A.handled = none) (hnz : n ≤ sizeLine)
    (hQ : ∀ s' p (out : Array Value) (c : Nat) (ns : List Int), (∀ b o, s.heap.get? b = some o → s'.heap.get? b = some o) → s'.gens = s.gens → s'.os = s.os → s.heap.objs.size ≤ p →
      s'.heap.get? p = some (seqObj "list" out c) → IntsAre out.toList ns → ns.Pairwise (· < ·) → (∀ k, k ∈ ns ↔ S k = true) → Q (.ref p) s') :
    wpAny (model P w) A (call (.builtin "sorted") [.ref a]) Q E s := by
  obtain ⟨o, es, ep, t, ho, hex, hd, g, nd, hm, hb, hf, hn, hr, hl⟩ := R
  refine Calls.call_function_entry kind_sorted plain_sorted entry_sorted (args_sorted1 _) ?_
  unfold Builtin.«sorted»
  refine wpAny_bind (m := checkCount "sorted" 1 1 _) (wpAny_pure ?_)
  refine wpAny_bind (collect_set (A := A.in1) hh ⟨o, ho, hex.1, hd⟩ hf hb hr hl fun s1 vs k1 hz g1 o1 pm => ?_)
  have hvl : vs.length = n := (pm.length_eq.trans (by simp)).trans hn
  have hI : IntsAre vs (vs.map Builtin.Re.reRawOf) := ints_of vs fun v hv => by
    obtain ⟨e, he, q⟩ := List.mem_map.mp (pm.mem_iff.mp hv)
    obtain ⟨k, tk, h1, _⟩ := g e he
    exact ⟨k, tk, q ▸ h1⟩
  have pk : (vs.map Builtin.Re.reRawOf).Perm (es.toList.map keyOf) := by
    have q := pm.map Builtin.Re.reRawOf
    rwa [List.map_map] at q
  have hob : (s1.heap.push (seqObj "list" vs.toArray 0)).get? s1.heap.objs.size = some (seqObj "list" vs.toArray 0) := Heap.get?_push_size _ rfl
  refine wpAny_bind (wpAny_newList ?_ (by omega))
  refine wpAny_bind (wpAny_holding (wpAny_call_entry slot_list_sort ⟨_, hob, rfl⟩ entry_list_sort
    (SrtO.list_sort_ord SrtO.swo_int hob (by rw [hvl]; exact hnz) (fun h2 => SrtO.ints_sortable hI h2) fun out b1 b2 => ⟨_, rfl, ?_⟩) (args_list_sort _)))
  obtain ⟨a1, a2, a3⟩ := SrtO.ints_out hI b1 b2
  obtain ⟨c, hc⟩ := sortedHeap_at (vs := vs) (out := out.toArray) hob
  have pn : (out.map SrtO.iv).Perm (es.toList.map keyOf) := a2.trans pk
  have hlt : (out.map SrtO.iv).Pairwise (· < ·) := by
    have := a3.and (pn.nodup_iff.mpr nd)
    exact this.imp fun {x y} h => by have h1 := h.1; have h2 : x ≠ y := h.2; show x < y; omega
  refine wpAny_pure ⟨_, rfl, hQ _ s1.heap.objs.size out.toArray c (out.map SrtO.iv) (fun b u e => ?_) g1 o1 hz hc a1 hlt (fun k => by rw [pn.mem_iff, ← hm k])⟩
  have q := k1 b u e
  have hl := Heap.lt_size q
  show (sortedHeap (s1.heap.push (seqObj "list" vs.toArray 0)) s1.heap.objs.size vs out.toArray).get? b = some u
  rw [sortedHeap_old (Nat.ne_of_lt hl) (by rw [size_push']; exact Nat.lt_succ_of_lt hl)]
  exact Heap.get?_push_of_some _ q
end
end L2
namespace Pu
open PySem PySem.Spec PyProof.Rows L2
variable [TabT]
def tSortSetA (K : PySem.W.Frag) (ta : TE) : TE := fun σ H Q => ta σ H fun x H1 => ∃ (l : Addr) (ns : List Int), x = .ref l ∧ SqL K H1 l (ns.map V.int) ∧ ns.length < 4000 ∧ ∀ p, H1 p = none → Q (.ref p) (upd H1 p (.lst ((sset ns).map V.int)))
theorem pe_sortSetA {X : Cx} {a : Expr} {ta : TE} {p p2 q pos : Pos} (hg : Gl X "sorted") (hm : X.mg "sorted" = none) (hg2 : Gl X "set") (hm2 : X.mg "set" = none) (ha : PE X a ta) (hc : X.calm = true)
    (na : starEach [a] X.env = (false, eval a X.env) :: starEach [] X.env) (nb : starEach [.Call (.Name "set" p2) [a] [] q] X.env = (false, eval (.Call (.Name "set" p2) [a] [] q) X.env) :: starEach [] X.env) : PE X (.Call (.Name "sorted" p) [.Call (.Name "set" p2) [a] [] q] [] pos) (tSortSetA X.K ta) := by
  refine ⟨fun pins s σ H Q I h => ?_⟩
  refine Call_ (ld_blt I hg hm boot_sorted ?_)
  refine PyProof.Rows.callWith_builtin1 (PyProof.Rows.args_cons ?_ rfl) rfl rfl
  refine Call_ (ld_blt I hg2 hm2 boot_set ?_)
  refine PyProof.Rows.callWith_type1 (PyProof.Rows.args_cons (thn (ha.run pins s σ H _ I h) fun v s1 ⟨x, H1, I1, r1, q1⟩ => PyProof.Rows.args_nil ?_) na) na rfl
  obtain ⟨l, ns, rfl, hq, hl, q1⟩ := q1
  cases r1
  obtain ⟨its, r, pl, hz⟩ := I1.list hq
  refine call_set_lstI ns (I1.ok.hd hc) pl.isList (by simpa using RZ.intsAre_vals r) (by unfold scanBound; omega) fun h' tk c hS hcl hk => ?_
  refine PyProof.Rows.args_nil ?_
  have I2 : Inv X pins σ H1 { s1 with heap := h', toks := tk } := I1.kept fun b o e => hk b o e
  have S2 : SetR X.w ({ s1 with heap := h', toks := tk } : Shared).heap s1.heap.objs.size (fun j => decide (j ∈ ns)) c := hS
  have hd2 := I1.ok.hd hc
  generalize ({ s1 with heap := h', toks := tk } : Shared) = s2 at I2 S2 ⊢
  refine sorted_setA S2 hd2 (by rw [sizeLine_eq]; omega) fun s' p out cc ms k g o hp hgt hi hs hmm => ?_
  have hms : ms = sset ns := sset_uniq hs fun k => by rw [hmm, decide_eq_true_eq]
  subst hms
  have hln : ((sset ns).map V.int).length ≤ sizeLine := by
    have := sset_len ns
    rw [List.length_map, sizeLine_eq]
    omega
  have hn : H1 p = none := I2.hok.fresh hp
  have J : Inv X pins σ (upd H1 p (.lst ((sset ns).map V.int))) { s2 with heap := s'.heap, gens := s'.gens, drawn := s'.drawn, toks := s'.toks } :=
    I2.call (ch := []) (Un.laid k hp hn) (I2.hok.laid k hp ⟨hln, out.toList, cc, vals_of_ints hi, hgt⟩) (by rw [g]; exact I2.bare) (fun _ z => nomatch z)
  have e : s' = { s2 with heap := s'.heap, gens := s'.gens, drawn := s'.drawn, toks := s'.toks } := by
    cases s'
    cases s2
    cases o
    rfl
  rw [e]
  exact ⟨.ref p, _, J, rfl, q1 p hn⟩
noncomputable def ssetAD : D → Option (List D)
  | .list ds => (intsOf ds).bind fun ns => cI (ns.length < 4000) (some ((sset ns).map .int)) none
  | _ => none
theorem ssetAD_some {ds : D} {z : List D} (h : ssetAD ds = some z) : ∃ ns : List Int, ds = .list (ns.map .int) ∧ ns.length < 4000 ∧ z = (sset ns).map .int := by
  unfold ssetAD at h
  split at h
  · rename_i ds
    cases e : intsOf ds with
    | none =>
      rw [e] at h
      cases h
    | some ns =>
      rw [e] at h
      have h : cI (ns.length < 4000) (some ((sset ns).map PyData.int)) none = some z := h
      rw [cI_eq] at h
      split at h
      · rename_i hh
        cases h
        exact ⟨ns, by rw [intsOf_some e], hh, rfl⟩
      · cases h
  · cases h
section
variable {X : Cx} {c : Cc}
theorem o_ssetA {a : Expr} {m : M D} {p p2 q pos : Pos} (hm : X.mg "sorted" = none) (hm2 : X.mg "set" = none) (ha : PE X a (tM c m)) (hK : c.K = X.K := by rfl) (hg : Gl X "sorted" := by rfl) (hg2 : Gl X "set" := by rfl) (hc : X.calm = true := by rfl)
    (na : starEach [a] X.env = (false, eval a X.env) :: starEach [] X.env := by rfl) (nb : starEach [.Call (.Name "set" p2) [a] [] q] X.env = (false, eval (.Call (.Name "set" p2) [a] [] q) X.env) :: starEach [] X.env := by rfl) : PE X (.Call (.Name "sorted" p) [.Call (.Name "set" p2) [a] [] q] [] pos) (tO c (unaO ssetAD m)) :=
  pe_cq (pe_sortSetA hg hm hg2 hm2 ha hc na nb) fun st H Q ⟨pa, H0, F0, F, r, ok, po⟩ => seqM ok po fun d r1 F1 H1 v k1 e1 dp q => by
    obtain ⟨z, hz, q3⟩ := opt_po q
    cases hg2 : ssetAD d with
    | none =>
      rw [hg2] at hz
      cases hz
    | some w =>
      rw [hg2] at hz
      cases hz
      obtain ⟨ns, e, h1, rfl⟩ := ssetAD_some hg2
      cases e
      cases dp with
      | @lst a vs ds g1 g2 =>
        have e := rpa_ints g2
        subst e
        exact ⟨a, ns, rfl, by rw [← hK]; exact k1.fH.l g1, h1, fun p np => oA_end k1 (fun F' H' v ok ex dp => q3 F' H' v ok (e1.trans ex) dp) p _ np (rpa_of_ints _)⟩
end
end Pu
/-! ### x(lambda: E) where E changes one object of the maker's -/
namespace Pu
open PySem PySem.Spec PyProof.Rows L2 LamX
end Pu
/-! ### texts -/
namespace Pu
open PySem PySem.Spec PyProof.Rows L2
end Pu
namespace Pu
open PySem PySem.Spec PyProof.Rows L2
/-! ### where a text stands in a text -/
end Pu
namespace Pu
open PySem PySem.Spec PyProof.Rows L2
/-! ### a text parted at a mark -/
end Pu
namespace Pu
open PySem PySem.Spec PyProof.Rows L2
variable [TabT]
section
variable {X : Cx} {c : Cc}
/-! ### l.reverse() -/
def eLRev (i : Nat) : M D := fun r => match getC i r with
  | some (.l ds) => .ok .none (putC i (.l ds.reverse) r)
  | _ => .no
end
@[simp] theorem eLRev_ap (i : Nat) (r : En) : eLRev i r = (match getC i r with
  | some (.l ds) => .ok .none (putC i (.l ds.reverse) r)
  | _ => .no) := rfl
end Pu
namespace Pu
open PySem PySem.Spec PyProof.Rows L2
variable [TabT]
/-! ### i // j of any size -/
noncomputable def fdivLD : D → D → Option D
  | .int i, .int j => cI (j ≠ 0) (some (.int (i.fdiv j))) none
  | _, _ => none
section
variable {X : Cx} {c : Cc}
theorem pylong_room {k : Nat} (hr : Rm k X.A) (NS : SeerK X.prog X.base) {pins : List (Addr × Obj)} {σ : L2.St} {H : Hp} {s : Shared} (I : Inv X pins σ H s) : PySem.PylongRoom (model X.prog X.w) X.A s := by
  have kp : ∀ b o, X.base.get? b = some o → s.heap.get? b = some o := fun b o e => (I.env0.bs b o e).1
  obtain ⟨env, l, hf, t⟩ := hr.top
  refine PySem.PylongRoom.of (I.ok.mod.nolimit.keeps kp) ?_ (PySem.SeerAt.of (NS.ns.keeps kp) NS.tree hf t.gen t.co t.bl t.gl)
  have := hr.dl
  show X.A.depth + 100 < recursionLimit
  omega
theorem op_fdivL {k : Nat} (hr : Rm k X.A) (NS : SeerK X.prog X.base) : OpR X (binaryOp .FloorDiv) (rI (fun _ j => j ≠ 0) fun i j => .int (i.fdiv j)) := by
  intro pins s σ H x y v u Q I rx ry h
  obtain ⟨i, j, rfl, rfl, hc, q⟩ := h
  obtain ⟨t, rfl⟩ := rx
  obtain ⟨t', rfl⟩ := ry
  exact floordiv_int hc ⟨.int (i.fdiv j), H, I.tok _, ⟨_, rfl⟩, q⟩ (.inr (pylong_room hr NS I))
theorem fdivL_data {k : Nat} (hr : Rm k X.A) (NS : SeerK X.prog X.base) : OpR X (binaryOp .FloorDiv) (rD2 c.K fdivLD) := opr_cq (op_fdivL hr NS) fun x y H Q ⟨F, d, e, z, fh, dx, dy, hz, q⟩ => by
  cases dx with
  | int i =>
    cases dy with
    | int j =>
      have hz : (if j ≠ 0 then some (PyData.int (i.fdiv j)) else none) = some z := by
        rw [← cI_eq]
        exact hz
      split at hz
      · rename_i hm
        cases hz
        exact ⟨i, j, rfl, rfl, hm, q _ F H (.inl ⟨rfl, rfl⟩) (.int _)⟩
      · cases hz
    | _ => cases hz
  | _ => cases hz
end
end Pu
namespace Pu
open PySem PySem.Spec PyProof.Rows L2
variable [TabT]
/-! ### f(x, ..) that lends an owned list x and hands further values -/
noncomputable def cCallBn (i : Nat) (f : List Sl → Re RV) (ms : M (List D)) : M RV := fun r => match getC i r with
  | some _ => (match ms r with
    | .ok es r1 => (match r1[i]? with
      | some (.o (.l ds)) => (match f (.v (.list ds) :: es.map .v) with
        | .ok rv _ => cI (noLR rv = true) (.ok rv r1) .no
        | _ => .no)
      | _ => .no)
    | _ => .no)
  | none => .no
end Pu
namespace Pu
open PySem PySem.Spec PyProof.Rows L2
variable [TabT]
/-! ### sorted(xs) of a list of data, any number -/
noncomputable def sortAD : D → Option (List D)
  | .list ds => cI (ds.length ≤ 1) (some ds) (cI (PySem.W.AllAlike ds ∧ PySem.W.Sortable ds ∧ ∀ d ∈ ds, SeqAt.shaped d = true) (some (ds.mergeSort (PySem.W.dataLe false id))) none)
  | _ => none
noncomputable def sortAL : List D → Option (List D)
  | [d] => sortAD d
  | _ => none
theorem vals_ap {K : PySem.W.Frag} {F : Hp} {R : Value → (D × V) → Prop} (hR : ∀ v b, R v b → RelV b.2 v ∧ Rp K F b.2 b.1) : ∀ {out : List Value} {bs : List (D × V)}, PySem.W.EachIs R out bs → Vals (bs.map (·.2)) out ∧ RpAll K F (bs.map (·.2)) (bs.map (·.1))
  | _, _, .nil => ⟨.nil, .nil⟩
  | _, _, .cons h t => by
    obtain ⟨h1, h2⟩ := hR _ _ h
    obtain ⟨g1, g2⟩ := vals_ap hR t
    exact ⟨.cons h1 g1, .cons h2 g2⟩
theorem ap_vals {K : PySem.W.Frag} {F : Hp} : ∀ {vs : List Value} {xs : List V} {ds : List D}, Vals xs vs → RpAll K F xs ds → PySem.W.EachIs (fun (v : Value) (b : D × V) => RelV b.2 v ∧ Rp K F b.2 b.1) vs (ds.zip xs)
  | _, _, _, .nil, .nil => .nil
  | _, _, _, .cons h t, .cons g q => .cons ⟨h, g⟩ (ap_vals t q)
theorem zipd_fst {ds : List D} {xs : List V} (h : xs.length = ds.length) : (ds.zip xs).map (·.1) = ds := List.map_fst_zip (by omega)
theorem perm_small {α : Type} : ∀ {l m : List α}, l.Perm m → m.length ≤ 1 → l = m
  | l, [], h, _ => h.eq_nil
  | l, [x], h, _ => List.perm_singleton.mp h
  | l, x :: y :: t, _, h => by simp at h
section
variable {X : Cx} {c : Cc}
theorem call_sortedA {k : Nat} (hr : Rm k X.A) (hK : c.K = X.K := by rfl) : CallR X (.builtin "sorted") (rDAo c.K sortAL) := by
  classical
  intro pins s σ H vs us Q I r h
  obtain ⟨F, ds, z, fh, dps, hz, q⟩ := h
  have hz : ∃ d, ds = [d] ∧ sortAD d = some z := by
    unfold sortAL at hz
    split at hz
    · exact ⟨_, rfl, hz⟩
    · cases hz
  obtain ⟨d, rfl, hz⟩ := hz
  obtain ⟨v, rfl, dp⟩ := rpa_one dps
  cases dp with
  | @lst a xs ds h1 h2 =>
    rw [Vals.ref1 r]
    obtain ⟨its, rv, hl, hlz⟩ := I.list (by rw [← hK]; exact fh.l h1)
    have lxd := dpa_len h2
    have hz : cI (ds.length ≤ 1) (some ds) (cI (PySem.W.AllAlike ds ∧ PySem.W.Sortable ds ∧ ∀ d ∈ ds, SeqAt.shaped d = true) (some (ds.mergeSort (PySem.W.dataLe false id))) none) = some z := hz
    have fin : ∀ (out : Array Value) (ys : List V), ys.length ≤ sizeLine → Vals ys out.toList → RpAll c.K F ys z → EP X pins σ Q (.ref (s.heap.objs.size + 1)) { s with heap := sortedAll s.heap its out } := fun out ys hys h3 h4 => by
      obtain ⟨ep, he'⟩ := PyProof.Rows.sortedAll_at s.heap its out
      exact ⟨.ref _, upd H (s.heap.objs.size + 1) (.lst ys), I.laid (t' := s.toks) (fun _ _ => PyProof.Rows.sortedAll_old) (Nat.le_succ _) ⟨hys, out.toList, ep, h3, he'⟩, rfl, q _ _ (I.hok.fresh (Nat.le_succ _)) h4⟩
    rw [cI_eq] at hz
    by_cases h11 : ds.length ≤ 1
    · rw [if_pos h11] at hz
      cases hz
      have lv := rv.length
      have key : ∀ out : List Value, SrtO.Srtd SrtO.ltIv out → SrtO.Stb SrtO.ltIv out its → EP X pins σ Q (.ref (s.heap.objs.size + 1)) { s with heap := sortedAll s.heap its out.toArray } := fun out _ hb => by
        have eo : out = its := perm_small hb.perm (by omega)
        subst eo
        exact fin out.toArray xs hlz (by simpa using rv) h2
      exact SrtO.sorted_ord (E := X.xe) SrtO.swo_int hl.isList (by rw [← rv.length]; exact hlz) (fun h2' _ _ _ _ => by omega) key
    · rw [if_neg h11, cI_eq] at hz
      split at hz
      · rename_i hc
        obtain ⟨hal, hso, hsh⟩ := hc
        cases hz
        have hzf := zipd_fst (ds := ds) (xs := xs) lxd
        have er : PySem.W.EachIs (fun (v : Value) (b : D × V) => ∃ as, Reads s.heap v (b.1) as) its (ds.zip xs) := by
          have base := ap_vals (K := c.K) (F := F) rv h2
          have go : ∀ {vs : List Value} {bs : List (D × V)}, PySem.W.EachIs (fun (v : Value) (b : D × V) => RelV b.2 v ∧ Rp c.K F b.2 b.1) vs bs → (∀ b ∈ bs, SeqAt.shaped b.1 = true) → PySem.W.EachIs (fun (v : Value) (b : D × V) => ∃ as, Reads s.heap v (b.1) as) vs bs := by
            intro vs bs e
            induction e with
            | nil => intro _; exact .nil
            | @cons v b as bs hvb _ ih =>
              intro hall
              refine .cons ?_ (ih fun b hb => hall b (List.mem_cons_of_mem _ hb))
              have hdp : Dp X.K H b.2 b.1 := by
                rw [← hK]
                exact rp_dp (dp_mono fh hvb.2) (hall b (List.mem_cons_self ..))
              exact Dp.reads I b.1 b.2 v hdp hvb.1
          exact go base fun b hb => hsh b.1 (List.of_mem_zip (a := b.1) (b := b.2) hb).1
        have p1 : PySem.W.AllAlike ((ds.zip xs).map fun b : D × V => b.1) := by rw [show (ds.zip xs).map (fun b : D × V => b.1) = ds from hzf]; exact hal
        have p2 : PySem.W.Sortable ((ds.zip xs).map fun b : D × V => b.1) := by rw [show (ds.zip xs).map (fun b : D × V => b.1) = ds from hzf]; exact hso
        have p3 : (ds.zip xs).length ≤ sizeLine := by
          rw [List.length_zip]
          exact Nat.le_trans (Nat.min_le_right _ _) hlz
        refine PySem.W.sorted_data (prog := X.prog) (w := X.w) (A := X.A) (E := X.xe) (s := s) (vs := its) (bs := ds.zip xs) (l := a) (Q := EP X pins σ Q) (enc := fun b : D × V => b.1) (R := fun v b => RelV b.2 v ∧ Rp c.K F b.2 b.1) hl.isList (ap_vals rv h2) er p1 p2 p3 (fun b hb => ?_) fun out hlen ho => ?_
        · have h64 := SeqAt.depth_of_shaped (hsh b.1 (List.of_mem_zip (a := b.1) (b := b.2) hb).1)
          have := hr.u150
          omega
        · obtain ⟨g1, g2⟩ := vals_ap (K := c.K) (F := F) (fun _ _ h => h) ho
          have em : ((ds.zip xs).mergeSort (PySem.W.dataLe false fun b : D × V => b.1)).map (·.1) = ds.mergeSort (PySem.W.dataLe false id) := by
            refine (List.map_mergeSort (r := PySem.W.dataLe false fun b : D × V => b.1) (s := PySem.W.dataLe false id) (f := fun b : D × V => b.1) (l := ds.zip xs) fun a _ b _ => rfl).trans ?_
            rw [show (ds.zip xs).map (fun b : D × V => b.1) = ds from hzf]
          rw [em] at g2
          refine fin _ _ ?_ (by simpa using g1) g2
          rw [List.length_map, List.length_mergeSort, List.length_zip]
          omega
      · cases hz
  | _ => cases hz
/-! ### {k: v}, the key a tuple -/
def oDictT1 (mk mv : M D) : M RV := mk.bind fun kd => mv.bind fun d => M.opt ((tkeyD kd).map fun y => .o (.t [(y, d)]))
/-! ### k in d, k not in d: an owned dict -/
def eInS (i : Nat) (mk : M D) : M D := mk.bind fun kd r => match getC i r with
  | some (.t kvs) => (match tkeyD kd with
    | some y => .ok (.bool (vK kvs y).isSome) r
    | none => .no)
  | some (.d kvs) => (match keyD kd with
    | some y => .ok (.bool (vK kvs y).isSome) r
    | none => .no)
  | _ => .no
def eNinS (i : Nat) (mk : M D) : M D := mk.bind fun kd r => match getC i r with
  | some (.t kvs) => (match tkeyD kd with
    | some y => .ok (.bool (!(vK kvs y).isSome)) r
    | none => .no)
  | some (.d kvs) => (match keyD kd with
    | some y => .ok (.bool (!(vK kvs y).isSome)) r
    | none => .no)
  | _ => .no
/-! ### sum of a list or a tuple of ints -/
/-! ### min, max of a list of ints -/
theorem maxOf_eqm (x : Int) (xs : List Int) : PySem.W.maxOf x xs = xs.foldl (fun a y => max a y) x := by
  unfold PySem.W.maxOf
  induction xs generalizing x with
  | nil => rfl
  | cons y ys ih =>
    rw [List.foldl_cons, List.foldl_cons]
    have e : (if PySem.W.DatumOrd.lt x y = true then y else x) = max x y := by
      by_cases h : x < y
      · rw [if_pos (show PySem.W.DatumOrd.lt x y = true from decide_eq_true h)]
        omega
      · rw [if_neg (show ¬ PySem.W.DatumOrd.lt x y = true from fun z => h (of_decide_eq_true z))]
        omega
    rw [e]
    exact ih (max x y)
def maxL : D → Option D
  | .list ds => (intsOf ds).bind fun ns => (match ns with
    | [] => none
    | x :: xs => some (.int (xs.foldl (fun a y => max a y) x)))
  | _ => none
theorem maxL_data (hu : X.A.units + 65 < cLine) (hK : c.K = X.K := by rfl) (hc : X.calm = true := by rfl) : CallR X (.builtin "max") (rDA c.K (one maxL)) := by
  intro pins s σ H vs us Q I r h
  obtain ⟨F, ds, z, fh, dps, hz, q⟩ := h
  obtain ⟨d, rfl, hz2⟩ := one_some hz
  clear hz
  obtain ⟨v, rfl, dp⟩ := rpa_one dps
  unfold maxL at hz2
  split at hz2
  · rename_i es
    cases ei : intsOf es with
    | none =>
      rw [ei] at hz2
      cases hz2
    | some ns =>
      rw [ei] at hz2
      cases ns with
      | nil => cases hz2
      | cons x xs =>
        cases hz2
        rw [intsOf_some ei] at dp
        cases dp with
        | @lst a ws _ g1 g2 =>
          have e := rpa_ints g2
          subst e
          rw [Vals.ref1 r]
          obtain ⟨its, rv, hl, hlz⟩ := I.list (by rw [← hK]; exact fh.l g1)
          have da : DpAll X.K H ((x :: xs).map V.int) ((x :: xs).map PyData.int) := rpa_dpa0 (dpa_ints (x :: xs)) (PyData.hasDict_of_canLay (.list ((x :: xs).map .int)) (lay0 (x :: xs)))
          obtain ⟨as, rs⟩ := Dp.readsAll I _ _ its da rv
          have HA : PySem.W.HoldAll s.heap its.toArray.toList (x :: xs) := ⟨as, rs⟩
          have dpt : PySem.W.Datum.depth Int ≤ 60 := by decide
          refine PySem.W.max_list_datum (I.ok.hd hc) hl.isList HA (by omega) fun i v h' tk hi hv kp => ?_
          obtain ⟨bs, hr⟩ := hv
          rw [maxOf_eqm] at hr
          have hr : Reads h' v (.int (xs.foldl (fun a y => max a y) x)) bs := hr
          cases hr with
          | int k t => exact ⟨.int _, H, I.kept (t' := tk) kp, ⟨t, rfl⟩, q _ F H (.inl ⟨rfl, rfl⟩) (.int _)⟩
  · cases hz2
end
end Pu
namespace Pu
open PySem PySem.Spec PyProof.Rows L2
variable [TabT]
section
variable {X : Cx} {c : Cc}
/-! ### e in x, e not in x for an owned list x, which stays owned -/
noncomputable def eInLS (i : Nat) (mk : M D) : M D := mk.bind fun kd r => match getC i r with
  | some (.l ds) => M.opt (inD kd (.list ds)) r
  | _ => .no
noncomputable def eNinLS (i : Nat) (mk : M D) : M D := mk.bind fun kd r => match getC i r with
  | some (.l ds) => M.opt (ninD kd (.list ds)) r
  | _ => .no
end
@[simp] theorem eInLS_ap (i : Nat) (mk : M D) (r : En) : eInLS i mk r = (mk r).bind fun kd r => (match getC i r with
  | some (.l ds) => M.opt (inD kd (.list ds)) r
  | _ => .no) := rfl
@[simp] theorem eNinLS_ap (i : Nat) (mk : M D) (r : En) : eNinLS i mk r = (mk r).bind fun kd r => (match getC i r with
  | some (.l ds) => M.opt (ninD kd (.list ds)) r
  | _ => .no) := rfl
end Pu
namespace Pu
open PySem PySem.Spec PyProof.Rows L2
variable [TabT]
/-! ### dict(a list of pairs whose keys are tuples) -/
section
variable {X : Cx}
variable {c : Cc}
def pairT : D → Option (List Key × D)
  | .tuple [k, v] => (tkeyD k).map fun y => (y, v)
  | _ => none
def pairsT : List D → Option (List (List Key × D))
  | [] => some []
  | d :: ds => (pairT d).bind fun p => (pairsT ds).map fun ps => p :: ps
def dictP : List D → Option (List (List Key × D))
  | [.list xs] => (pairsT xs).map fun kvs => kvs.foldl (fun acc kv => pK acc kv.1 kv.2) []
  | _ => none
def oDictP (ms : M (List D)) : M RV := ms.bind fun ds => M.opt ((dictP ds).map fun kvs => .o (.t kvs))
end
@[simp] theorem oDictP_ap (ms : M (List D)) (r : En) : oDictP ms r = (ms r).bind fun ds => M.opt ((dictP ds).map fun kvs => RV.o (.t kvs)) := rfl
end Pu
namespace Pu
open PySem PySem.Spec PyProof.Rows L2
variable [TabT]
/-! ### f(.., x) that lends an owned x as the last value -/
section
variable {X : Cx} {c : Cc} {k n : Nat} {x : Str} {f : List Sl → Re RV} {e : Expr} {es : List Expr} {p pos : Pos} {ms : M (List D)}
def cCallZ (i : Nat) (f : List Sl → Re RV) (m1 m2 : M D) : M RV := fun r => match getC i r with
  | none => .no
  | some _ => (m1 r).bind fun d1 r => (m2 r).bind fun d2 r => match getC i r with
    | some ct => (match f [.v d1, .v d2, .io ct] with
      | .ok rv z => (match (z[2]? : Option Sl) with
        | some (Sl.io ct') => .ok rv (putC i ct' r)
        | _ => .no)
      | .ex e z => (match (z[2]? : Option Sl) with
        | some (Sl.io ct') => .ex e (putC i ct' r)
        | _ => .no)
      | .no => .no)
    | none => .no
/-! ### e in x, x data or a dict with tuple keys of one's own -/
noncomputable def eInX (i : Nat) (mk : M D) : M D := fun r => match getC i r with
  | some (.t _) => eInS i mk r
  | none => bin inD mk (getS i) r
  | _ => .no
end
@[simp] theorem eInX_ap (i : Nat) (mk : M D) (r : En) : eInX i mk r = (match getC i r with
  | some (.t _) => eInS i mk r
  | none => bin inD mk (getS i) r
  | _ => .no) := rfl
@[simp] theorem cCallZ_ap (i : Nat) (f : List Sl → Re RV) (m1 m2 : M D) (r : En) : cCallZ i f m1 m2 r = (match getC i r with
  | none => .no
  | some _ => (m1 r).bind fun d1 r => (m2 r).bind fun d2 r => match getC i r with
    | some ct => (match f [.v d1, .v d2, .io ct] with
      | .ok rv z => (match (z[2]? : Option Sl) with
        | some (Sl.io ct') => .ok rv (putC i ct' r)
        | _ => .no)
      | .ex e z => (match (z[2]? : Option Sl) with
        | some (Sl.io ct') => .ex e (putC i ct' r)
        | _ => .no)
      | .no => .no)
    | none => .no) := rfl
end Pu
namespace Pu
open PySem PySem.Spec PyProof.Rows L2
variable [TabT]
/-! ### any of a tuple of ints -/
section
variable {X : Cx} {c : Cc}
theorem dpa_ints' {K : PySem.W.Frag} {H : Hp} : ∀ ns : List Int, DpAll K H (ns.map V.int) (ns.map PyData.int)
  | [] => .nil
  | n :: ns => .cons (.int n) (dpa_ints' ns)
theorem rpa_intV {K : PySem.W.Frag} {F : Hp} : ∀ {ns : List Int} {vs : List V}, RpAll K F vs (ns.map .int) → vs = ns.map V.int
  | [], _, .nil => rfl
  | n :: ns, _, .cons h t => by
    cases h
    rw [List.map_cons, rpa_intV t]
def anyAD : D → Option D
  | .list ds => (boolsOf ds).map fun bs => .bool (bs.any id)
  | .tuple ds => (intsOf ds).map fun ns => .bool (ns.any fun n => n != 0)
  | _ => none
end
@[simp] theorem anyAD_b (ds : List D) : anyAD (.list ds) = (boolsOf ds).map fun bs => .bool (bs.any id) := rfl
end Pu
namespace Pu
open PySem PySem.Spec PyProof.Rows L2
variable [TabT]
/-! ### max of a tuple of ints -/
section
variable {X : Cx} {c : Cc}
theorem call_maxT (hu : X.A.units + 65 < cLine) (hc : X.calm = true) : CallR X (.builtin "max") (fun xs H Q => ∃ (a : Addr) (n : Int) (ns : List Int), xs = [.ref a] ∧ SqT X.K H a ((n :: ns).map V.int) ∧ Q (.int (ns.foldl (fun a y => max a y) n)) H) := by
  intro pins s σ H vs us Q I r h
  obtain ⟨a, x, xs, rfl, hs, q⟩ := h
  obtain ⟨its, rv, ht, _⟩ := I.tuple hs
  rw [Vals.ref1 r]
  obtain ⟨as, rs⟩ := Dp.readsAll I ((x :: xs).map PyData.int) _ its (dpa_ints' (x :: xs)) rv
  have HA : PySem.W.HoldAll s.heap its.toArray.toList (x :: xs) := ⟨as, rs⟩
  have dpt : PySem.W.Datum.depth Int ≤ 60 := by decide
  refine PySem.W.max_tuple_datum (I.ok.hd hc) ht HA (by omega) fun i v h' tk hi hv kp => ?_
  obtain ⟨bs, hr⟩ := hv
  rw [maxOf_eqm] at hr
  have hr : Reads h' v (.int (xs.foldl (fun a y => max a y) x)) bs := hr
  cases hr with
  | int k t => exact ⟨.int _, H, I.kept (t' := tk) kp, ⟨t, rfl⟩, q⟩
def maxLT : D → Option D
  | .tuple ds => (intsOf ds).bind fun ns => (match ns with
    | [] => none
    | x :: xs => some (.int (xs.foldl (fun a y => max a y) x)))
  | d => maxL d
theorem maxLT_data (hu : X.A.units + 65 < cLine) (hK : c.K = X.K := by rfl) (hc : X.calm = true := by rfl) : CallR X (.builtin "max") (rDA c.K (one maxLT)) := callr_cq (callr_or (maxL_data (c := c) hu hK hc) (call_maxT hu hc)) fun xs H Q ⟨F, ds, z, fh, dps, hz, q⟩ => by
  obtain ⟨d, rfl, hz⟩ := one_some hz
  obtain ⟨v, rfl, dp⟩ := rpa_one dps
  cases dp with
  | @lst a vs ds g1 g2 => exact .inl ⟨F, [.list ds], z, fh, .cons (.lst g1 g2) .nil, hz, q⟩
  | @tup a vs ds g1 g2 =>
    obtain ⟨ns, hn, hz2⟩ := Option.bind_eq_some_iff.mp (show ((intsOf ds).bind fun ns => (match ns with
      | [] => none
      | x :: xs => some (PyData.int (xs.foldl (fun a y => max a y) x)))) = some z from hz)
    have := intsOf_some hn
    subst this
    have ev := rpa_intV g2
    subst ev
    cases ns with
    | nil => cases hz2
    | cons n ns =>
      cases hz2
      exact .inr ⟨a, n, ns, rfl, by rw [← hK]; exact (fh.u g1).s, q _ F H (.inl ⟨rfl, rfl⟩) (.int _)⟩
  | _ => cases hz
end
end Pu
namespace Pu
open PySem PySem.Spec PyProof.Rows L2
/-! ### repr of tuples that hold {} -/
end Pu
namespace Pu
open PySem PySem.Spec PyProof.Rows L2
variable [TabT]
/-! ### lists with lists of one's own within -/
/-! ### for y in x[lo:hi]: .., the inner lists lent one by one -/
section
variable {K : PySem.W.Frag} {pa : Nat → Addr} {H0 F0 F H F' H' : Hp} {st st2 : L2.St} {r r2 : En}
open Classical in
/-- the frame while an inner list is lent: the outer list, the other inner lists stand -/
noncomputable def LdK (H0 H : Hp) (a b : Addr) (t : Nt) : Hp := fun x => if x = a ∨ (Inn H a (.n t) x ∧ x ≠ b) then H x else H0 x
omit [TabT] in
theorem LdK.at_ {a b x : Addr} {t : Nt} (h : x = a ∨ (Inn H a (.n t) x ∧ x ≠ b)) : LdK H0 H a b t x = H x := if_pos h
/-- a new object joins what must stand -/
theorem Ok.inL (k : Ok K pa H0 F0 F H st r) {L : Addr} {o : HO} (n : H L = none) : Ok K pa (upd H0 L o) F0 F (upd H L o) st r := by
  have kl := k.lay (o := o) n
  have nF := k.fH.nn n
  refine kl.frame ⟨fun a u z nt => ?_, fun a ps z => ?_⟩ (fun a z1 z2 => ?_) (fun j s c a h1 h2 h3 => ?_)
  · by_cases ha : a = L
    · subst ha
      rw [upd_same] at z ⊢
      exact z
    · rw [upd_ne ha] at z ⊢
      exact k.hH.at_ a u z nt
  · by_cases ha : a = L
    · subst ha
      rw [upd_same] at z ⊢
      exact ⟨#[], by rw [Array.append_empty]; exact z⟩
    · rw [upd_ne ha] at z ⊢
      exact k.hH.tb a ps z
  · by_cases ha : a = L
    · subst ha
      exact absurd nF z2
    · rw [upd_ne ha] at z1
      exact k.sep a z1 z2
  · obtain ⟨na, ni⟩ := k.nobody n j s c a h1 h2 h3
    obtain ⟨a', g1, g2, g3, g4⟩ := k.ownd h1 h2
    rw [h3] at g1
    cases g1
    rw [upd_ne na]
    refine ⟨g3, fun b hb => ?_⟩
    have hb' := hb.cg (upd_ne na).symm
    have nb : b ≠ L := fun z => ni (z ▸ hb')
    rw [upd_ne nb]
    exact (k.inn j s c a b h1 h2 h3 hb').2.1
end
/-! ### x[k1][k2] = e, within a list of lists of one's own -/
end Pu
namespace Pu
open PySem PySem.Spec PyProof.Rows L2
variable [TabT]
/-! ### an object of one's own that is no slot's, kept while something else is reckoned -/
open Classical in
noncomputable def FrN (H0 H : Hp) (a : Addr) (t : Nt) : Hp := fun x => if x = a ∨ Inn H a (.n t) x then H x else H0 x
omit [TabT] in
theorem FrN.at_ {H0 H : Hp} {a x : Addr} {t : Nt} (h : x = a ∨ Inn H a (.n t) x) : FrN H0 H a t x = H x := if_pos h
section
variable {K : PySem.W.Frag} {pa : Nat → Addr} {H0 F0 F H F' H' F2 H2 : Hp} {st st2 : L2.St} {r r2 : En} {a : Addr} {its : List Im}
/-- what is nobody's, behind a block -/
theorem Nob.back {is : List Nat} {q : En} (hn : noOwn r is = true) (h : Nob H (wipe st is) (wipeE q is) a) : Nob H st (backE r (wipeE q is) is) a := fun j s ct b hj hct hst => by
  rw [backE_get] at hj
  by_cases hji : j ∈ is
  · rw [if_pos hji] at hj
    split at hj
    · cases hj
      have hz := List.all_eq_true.mp hn j hji
      rw [List.getD_eq_getElem?_getD] at hct
      cases hr : r[j]? with
      | none =>
        rw [hr] at hz
        cases hz
      | some x =>
        rw [hr] at hz hct
        have hz : x.own.isNone = true := hz
        have hct : x.own = some ct := hct
        rw [hct] at hz
        cases hz
    · cases hj
  · rw [if_neg hji] at hj
    exact h j s ct b hj hct (by rw [wipe_get, if_neg hji]; exact hst)
end
/-! ### [e for x in xs], e a list of one's own -/
end Pu
namespace Pu
open PySem PySem.Spec PyProof.Rows L2
/-! ### repr(x), empty dicts within -/
mutual
inductive Gd (h : Heap) : Value → PyData → Prop
  | none : Gd h .none .none
  | bool (b) : Gd h (.bool b) (.bool b)
  | int (i t) : Gd h (.int i t) (.int i)
  | str (x t) : Gd h (.str x t) (.str x)
  | list {a : Addr} {o : Obj} {vs : Array Value} {n : Nat} {xs : List PyData} : h.get? a = some o → o.cls = .type "list" → o.data = .seq vs n → GdAll h vs.toList xs → Gd h (.ref a) (.list xs)
  | tuple {a : Addr} {o : Obj} {vs : Array Value} {n : Nat} {xs : List PyData} : h.get? a = some o → o.cls = .type "tuple" → o.data = .seq vs n → GdAll h vs.toList xs → Gd h (.ref a) (.tuple xs)
  | emp {a : Addr} {o : Obj} {es : Array DictEntry} {n : Nat} : h.get? a = some o → o.cls = .type "dict" → o.data = .dict es n → es.toList = [] → (a == sysModules) = false → Gd h (.ref a) (.dict [])
inductive GdAll (h : Heap) : List Value → List PyData → Prop
  | nil : GdAll h [] []
  | cons {v : Value} {vs : List Value} {d : PyData} {ds : List PyData} : Gd h v d → GdAll h vs ds → GdAll h (v :: vs) (d :: ds)
end
mutual
theorem Gd.reads {h : Heap} : ∀ {v : Value} {d : PyData}, Gd h v d → ∃ as, Reads h v d as
  | _, _, .none => ⟨_, .none⟩
  | _, _, .bool b => ⟨_, .bool b⟩
  | _, _, .int i t => ⟨_, .int i t⟩
  | _, _, .str x t => ⟨_, .str x t⟩
  | _, _, .list h1 h2 h3 h4 => by
    obtain ⟨as, r⟩ := GdAll.reads h4
    exact ⟨_, .list h1 h2 h3 r⟩
  | _, _, .tuple h1 h2 h3 h4 => by
    obtain ⟨as, r⟩ := GdAll.reads h4
    exact ⟨_, .tuple h1 h2 h3 r⟩
  | _, _, .emp h1 h2 h3 h4 _ => ⟨_, .dict (kvs := []) h1 h2 h3 (by rw [h4]; exact .nil) (by rw [h4]; exact .nil)⟩
theorem GdAll.reads {h : Heap} : ∀ {vs : List Value} {ds : List PyData}, GdAll h vs ds → ∃ as, ReadsAll h vs ds as
  | _, _, .nil => ⟨_, .nil⟩
  | _, _, .cons a b => by
    obtain ⟨as, r⟩ := Gd.reads a
    obtain ⟨bs, q⟩ := GdAll.reads b
    exact ⟨_, .cons r q⟩
end
variable [TabT]
end Pu
namespace Pu
open PySem PySem.Spec PyProof.Rows L2
end Pu
namespace Pu
open PySem PySem.Spec PyProof.Rows L2
variable [TabT]
/-! ### a frozen dict with whole numbers as keys -/
/-- what stands at i -/
def fdG : List (D × D) → Int → Option D
  | [], _ => none
  | (.int j, d) :: r, i => if j = i then some d else fdG r i
  | _ :: _, _ => none
def inKD : D → D → Option D
  | .int i, .dict (x :: r) => some (.bool (fdG (x :: r) i).isSome)
  | _, _ => none
section
variable {X : Cx} {c : Cc}
/-- is it a dict that numbers stand for -/
def isKD : D → Bool
  | .dict ((.int _, _) :: _) => true
  | _ => false
def inK (x d : D) : Option D := if isKD d = true then inKD x d else none
/-! ### for k in d, for k, v in d.items() -/
/-! ### an owned dict is frozen -/
/-! ### len of a frozen dict -/
end
end Pu
namespace Pu
open PySem PySem.Spec PyProof.Rows L2
/-! ### len(set(a list of tuples of whole numbers)) -/
end Pu
namespace Pu
open PySem PySem.Spec PyProof.Rows L2
end Pu
namespace Pu
open PySem PySem.Spec PyProof.Rows L2
variable [TabT]
/-! ### f(..) that lends some owned names, at any places -/
abbrev Az := List (Sum Nat D)
inductive ZAll (K : PySem.W.Frag) (F : Hp) (st : L2.St) : List V → Az → Prop
  | nil : ZAll K F st [] []
  | l {v : V} {vs : List V} {i : Nat} {xs : Az} : st[i]? = some (some v) → ZAll K F st vs xs → ZAll K F st (v :: vs) (.inl i :: xs)
  | d {v : V} {vs : List V} {d : D} {xs : Az} : Rp K F v d → ZAll K F st vs xs → ZAll K F st (v :: vs) (.inr d :: xs)
omit [TabT] in
theorem ZAll.len {K : PySem.W.Frag} {F : Hp} {st : L2.St} : ∀ {vs : List V} {xs : Az}, ZAll K F st vs xs → vs.length = xs.length
  | _, _, .nil => rfl
  | _, _, .l _ t => congrArg Nat.succ t.len
  | _, _, .d _ t => congrArg Nat.succ t.len
omit [TabT] in
theorem ZAll.getD {K : PySem.W.Frag} {F : Hp} {st : L2.St} : ∀ {vs : List V} {xs : Az} {p : Nat} {d : D}, ZAll K F st vs xs → xs[p]? = some (.inr d) → ∃ v, vs[p]? = some v ∧ Rp K F v d
  | _, _, _, _, .nil, e => by simp at e
  | _, _, 0, _, .l h t, e => by simp at e
  | _, _, 0, _, .d h t, e => by
    simp at e
    subst e
    exact ⟨_, rfl, h⟩
  | _, _, p + 1, _, .l h t, e => by
    obtain ⟨v, g1, g2⟩ := ZAll.getD (p := p) t (by simpa using e)
    exact ⟨v, by simpa using g1, g2⟩
  | _, _, p + 1, _, .d h t, e => by
    obtain ⟨v, g1, g2⟩ := ZAll.getD (p := p) t (by simpa using e)
    exact ⟨v, by simpa using g1, g2⟩
omit [TabT] in
theorem ZAll.mono {K : PySem.W.Frag} {F F' : Hp} {st : L2.St} (e : Ex F F') : ∀ {vs : List V} {xs : Az}, ZAll K F st vs xs → ZAll K F' st vs xs
  | _, _, .nil => .nil
  | _, _, .l h t => .l h (t.mono e)
  | _, _, .d h t => .d (dp_mono e h) (t.mono e)
end Pu
namespace Pu
open PySem PySem.Spec PyProof.Rows L2
variable [TabT]
/-! ### for rows, .. in ((x, ..), (y["k"], ..), (y["l"], ..)): each list changed in its turn -/
section
variable {K : PySem.W.Frag} {pa pa' : Nat → Addr} {H0 H1 F0 F H : Hp} {st : L2.St} {r r' : En}
theorem Ok.nobH (k : Ok K pa H0 F0 F H st r) {p : Addr} (h : H0 p ≠ none) : Nob H st r p := fun i s c a h1 h2 h3 => by
  obtain ⟨a', g1, g2, g3, g4⟩ := k.ownd h1 h2
  rw [h3] at g1
  cases g1
  exact ⟨fun z => h (z ▸ g3), fun n => h (k.inn i s c a p h1 h2 h3 n).2.1⟩
theorem Ok.less (k : Ok K pa H0 F0 F H st r) (hl : r'.length = r.length) (h : ∀ (j : Nat) (s' : Sl), r'[j]? = some s' → r[j]? = some s' ∨ s' = .unk ∨ (s' = .pin ∧ st[j]? = some (some (.ref (pa j))))) : Ok K pa H0 F0 F H st r' := by
  have old : ∀ (j : Nat) (s' : Sl) (c : Ct), r'[j]? = some s' → s'.own = some c → r[j]? = some s' := fun j s' c h1 h2 => by
    rcases h j s' h1 with h3 | rfl | ⟨rfl, _⟩
    · exact h3
    · cases h2
    · cases h2
  refine ⟨k.hH, k.fF, k.fH, k.sep, by rw [hl]; exact k.len, fun j s' h1 n => ?_, k.tb, fun i j s q c c' a ne h1 h2 o1 o2 g1 g2 => k.dis i j s q c c' a ne (old i s c h1 o1) (old j q c' h2 o2) o1 o2 g1 g2, fun i s c a b h1 h2 h3 h4 => ?_⟩
  · rcases h j s' h1 with h3 | rfl | ⟨rfl, h3⟩
    · exact k.sl j s' h3 n
    · exact absurd rfl n
    · exact ⟨_, h3, rfl⟩
  · obtain ⟨g1, g2, g3⟩ := k.inn i s c a b (old i s c h1 h2) h2 h3 h4
    exact ⟨g1, g2, fun j q c' a' w1 w2 w3 => g3 j q c' a' (old j q c' w1 w2) w2 w3⟩
/-- an owned object becomes one that must come back -/
theorem Ok.toIo (k : Ok K pa H0 F0 F H st r) {i : Nat} {a : Addr} {c : Ct} (h : r[i]? = some (.o c)) (ha : st[i]? = some (some (.ref a))) (hp : pa' i = a) (hq : ∀ j, j ≠ i → pa' j = pa j) : Ok K pa' H0 F0 F H st (r.set i (.io c)) := by
  have li : i < r.length := (List.getElem?_eq_some_iff.mp h).1
  have view : ∀ (j : Nat) (s' : Sl), (r.set i (.io c))[j]? = some s' → (j = i ∧ s' = .io c) ∨ (j ≠ i ∧ r[j]? = some s') := fun j s' e => by
    by_cases q : i = j
    · subst q
      rw [List.getElem?_set_self li] at e
      cases e
      exact .inl ⟨rfl, rfl⟩
    · rw [List.getElem?_set_ne q] at e
      exact .inr ⟨fun z => q z.symm, e⟩
  have old : ∀ (j : Nat) (s' : Sl) (c' : Ct), (r.set i (.io c))[j]? = some s' → s'.own = some c' → ∃ s, r[j]? = some s ∧ s.own = some c' := fun j s' c' h1 h2 => by
    rcases view j s' h1 with ⟨rfl, rfl⟩ | ⟨_, h3⟩
    · exact ⟨_, h, h2⟩
    · exact ⟨s', h3, h2⟩
  refine ⟨k.hH, k.fF, k.fH, k.sep, by rw [List.length_set]; exact k.len, fun j s' h1 n => ?_, k.tb, fun i1 j1 s q c1 c2 a ne h1 h2 o1 o2 g1 g2 => ?_, fun i1 s c1 a1 b h1 h2 h3 h4 => ?_⟩
  · rcases view j s' h1 with ⟨rfl, rfl⟩ | ⟨nj, h3⟩
    · obtain ⟨v, g1, a', rfl, g2, g3, g4⟩ := k.sl j _ h (fun z => nomatch z)
      rw [ha] at g1
      cases g1
      refine ⟨_, ha, ?_⟩
      show V.ref a = V.ref (pa' j) ∧ F (pa' j) = none ∧ H0 (pa' j) = none ∧ CtOk K F H (pa' j) c
      rw [hp]
      exact ⟨rfl, g2, g3, g4⟩
    · obtain ⟨v, g1, g2⟩ := k.sl j s' h3 n
      refine ⟨v, g1, ?_⟩
      rw [hq j nj]
      exact g2
  · obtain ⟨s', y1, y2⟩ := old i1 s c1 h1 o1
    obtain ⟨q', y3, y4⟩ := old j1 q c2 h2 o2
    exact k.dis i1 j1 s' q' c1 c2 a ne y1 y3 y2 y4 g1 g2
  · obtain ⟨s', y1, y2⟩ := old i1 s c1 h1 h2
    obtain ⟨g1, g2, g3⟩ := k.inn i1 s' c1 a1 b y1 y2 h3 h4
    refine ⟨g1, g2, fun j q c' a' w1 w2 w3 => ?_⟩
    obtain ⟨q', y3, y4⟩ := old j q c' w1 w2
    exact g3 j q' c' a' y3 y4 w3
theorem Ok.pinS (k : Ok K pa H0 F0 F H st r) (S : Addr → Prop) (h1 : ∀ x, S x → H1 x = H x ∧ F x = none ∧ Nob H st r x) (h2 : ∀ x, ¬ S x → H1 x = H0 x) : Ok K pa H1 F0 F H st r := by
  classical
  refine k.frame ⟨fun x o e nt => ?_, fun x ps e => ?_⟩ (fun x z1 z2 => ?_) fun j s c a g1 g2 g3 => ?_
  · by_cases hx : S x
    · rw [(h1 x hx).1] at e
      exact e
    · rw [h2 x hx] at e
      exact k.hH.at_ x o e nt
  · by_cases hx : S x
    · rw [(h1 x hx).1] at e
      exact ⟨#[], by rw [Array.append_empty]; exact e⟩
    · rw [h2 x hx] at e
      exact k.hH.tb x ps e
  · by_cases hx : S x
    · exact absurd (h1 x hx).2.1 z2
    · rw [h2 x hx] at z1
      exact k.sep x z1 z2
  · obtain ⟨a', y1, y2, y3, y4⟩ := k.ownd g1 g2
    rw [g3] at y1
    cases y1
    refine ⟨?_, fun b hb => ?_⟩
    · rw [h2 a fun hx => ((h1 a hx).2.2 j s c a g1 g2 g3).1 rfl]
      exact y3
    · rw [h2 b fun hx => ((h1 b hx).2.2 j s c a g1 g2 g3).2 hb]
      exact (k.inn j s c a b g1 g2 g3 hb).2.1
theorem Ok.unpin (k : Ok K pa H1 F0 F H st r) (h : ∀ x, H0 x = H1 x ∨ H0 x = none) : Ok K pa H0 F0 F H st r := by
  have sub : ∀ x o, H0 x = some o → H1 x = some o := fun x o e => by
    rcases h x with g | g
    · rw [← g]; exact e
    · rw [g] at e; cases e
  have non : ∀ x, H1 x = none → H0 x = none := fun x e => by
    rcases h x with g | g
    · rw [g]; exact e
    · exact g
  refine k.frame ⟨fun x o e nt => k.hH.at_ x o (sub x o e) nt, fun x ps e => k.hH.tb x ps (sub x _ e)⟩ (fun x z1 z2 => k.sep x (fun q => z1 (non x q)) z2) fun j s c a g1 g2 g3 => ?_
  obtain ⟨a', y1, y2, y3, y4⟩ := k.ownd g1 g2
  rw [g3] at y1
  cases y1
  exact ⟨non a y3, fun b hb => non b (k.inn j s c a b g1 g2 g3 hb).2.1⟩
/-- a list that must stand is lent into a slot -/
theorem Ok.take (k : Ok K pa H1 F0 F H st r) {q : Nat} {qs : Sl} {b : Addr} {ws : List V} {L : List D} (hq : r[q]? = some qs) (hio : qs.isIo = false) (hb : H1 b = some (.lst ws)) (hF : F b = none) (hr : RpAll K F ws L) :
    Ok K (fun j => if j = q then b else pa j) (fun x => if x = b then none else H1 x) F0 F H (st.set q (some (.ref b))) (r.set q (.io (.l L))) := by
  have lq : q < r.length := (List.getElem?_eq_some_iff.mp hq).1
  have nb : Nob H st r b := k.nobH (ne_none hb)
  have hHb : H b = some (.lst ws) := k.hH.at_ b _ hb fun ps z => nomatch z
  have k1 : Ok K pa (fun x => if x = b then none else H1 x) F0 F H st r := k.unpin fun x => by
    by_cases e : x = b
    · exact .inr (if_pos e)
    · exact .inl (if_neg e)
  have k2 : Ok K pa (fun x => if x = b then none else H1 x) F0 F H (st.set q (some (.ref b))) (r.set q (.o (.l L))) := k1.set (s := .o (.l L)) (fun s' e => by
    rw [hq] at e
    cases e
    exact hio) rfl ⟨b, rfl, hF, if_pos rfl, ws, hHb, hr⟩ fun a c e1 e2 => by
      cases e1
      cases e2
      exact .l (nb.unk)
  have k3 := k2.toIo (pa' := fun j => if j = q then b else pa j) (i := q) (a := b) (c := .l L) (List.getElem?_set_self lq) (List.getElem?_set_self (by rw [k.len]; exact lq)) (if_pos rfl) fun j nj => if_neg nj
  rw [List.set_set] at k3
  exact k3
end
/-- the state between two turns -/
def S3 (c : Cc) (pa : Nat → Addr) (H0 F0 F : Hp) (ts : List (Addr × HO)) (i j : Nat) (a1 b1 : Addr) (k1 k2 : Key) (G A B : List D) (st : L2.St) (H : Hp) (r : En) : Prop :=
  ∃ F' H1, Ok c.K pa H1 F0 F' H st r ∧ Ex F F' ∧ (∀ x, H0 x = H1 x ∨ H0 x = none) ∧ (∀ p ∈ ts, H1 p.1 = some p.2) ∧ H1 (pa j) = some (.dK [(k1, .ref a1), (k2, .ref b1)]) ∧ F' (pa j) = none ∧
    (∃ ws, H1 (pa i) = some (.lst ws) ∧ RpAll c.K F' ws G ∧ F' (pa i) = none) ∧ (∃ ws, H1 a1 = some (.lst ws) ∧ RpAll c.K F' ws A ∧ F' a1 = none) ∧ (∃ ws, H1 b1 = some (.lst ws) ∧ RpAll c.K F' ws B ∧ F' b1 = none)
section
variable {X : Cx} {c : Cc} {pa : Nat → Addr} {H0 F0 F : Hp} {ts : List (Addr × HO)} {i j : Nat} {a1 b1 : Addr} {k1 k2 : Key} {G A B G' A' B' : List D}
omit [TabT] in
theorem base_upd {H1 : Hp} {b : Addr} {o : HO} (h : ∀ x, H0 x = H1 x ∨ H0 x = none) (hb : H0 b = none) : ∀ x, H0 x = upd H1 b o x ∨ H0 x = none := fun x => by
  by_cases e : x = b
  · subst e
    exact .inr hb
  · rw [upd_ne e]
    exact h x
theorem lst_ne {H1 : Hp} {b a : Addr} {ws : List V} {o : HO} (hb : H1 b = some (.lst ws)) (ha : H1 a = some o) (n : ∀ ws, o ≠ .lst ws) : a ≠ b := fun z => by
  rw [z, hb] at ha
  exact n ws (Option.some.inj ha).symm
theorem Nob.setIo {K : PySem.W.Frag} {H : Hp} {st : L2.St} {r : En} {p a : Addr} {L : List D} {i : Nat} (h : Nob H st r p) (ha : st[i]? = some (some (.ref a))) (ne : a ≠ p) : Nob H st (r.set i (.io (.l L))) p := fun n s c b h1 h2 h3 => by
  by_cases e : i = n
  · subst e
    rw [ha] at h3
    cases h3
    rw [List.getElem?_set_self'] at h1
    cases hr : r[i]? with
    | none => rw [hr] at h1; cases h1
    | some z =>
      rw [hr] at h1
      cases h1
      cases h2
      exact ⟨ne, inn_l⟩
  · rw [List.getElem?_set_ne e] at h1
    exact h n s c b h1 h2 h3
/-- all comes back -/
theorem S3.out {st : L2.St} {H : Hp} {r : En} (hW : S3 c pa H0 F0 F ts i j a1 b1 k1 k2 G A B st H r) (n0i : H0 (pa i) = none) (n0j : H0 (pa j) = none) (n0a : H0 a1 = none) (n0b : H0 b1 = none) (nia : pa i ≠ a1) (nib : pa i ≠ b1) (nab : a1 ≠ b1) (hij : i ≠ j)
    (hi : r[i]? = some .pin) (hj : r[j]? = some .pin) : ∃ F', Ex F F' ∧ Ok c.K pa H0 F0 F' H st ((r.set i (.io (.l G))).set j (.io (.n (.d [(k1, .l A), (k2, .l B)])))) := by
  obtain ⟨F', H1, k, e, hb0, hts1, hd, fj, ⟨ws1, x1, y1, z1⟩, ⟨ws2, x2, y2, z2⟩, ⟨ws3, x3, y3, z3⟩⟩ := hW
  refine ⟨F', e, ?_⟩
  have li : i < r.length := (List.getElem?_eq_some_iff.mp hi).1
  have lj : j < r.length := (List.getElem?_eq_some_iff.mp hj).1
  obtain ⟨vi, si, hvi⟩ := k.sl i _ hi (fun z => nomatch z)
  obtain rfl : vi = .ref (pa i) := hvi
  obtain ⟨vj, sj, hvj⟩ := k.sl j _ hj (fun z => nomatch z)
  obtain rfl : vj = .ref (pa j) := hvj
  have h1 : H (pa i) = some (.lst ws1) := k.hH.at_ _ _ x1 fun ps z => nomatch z
  have h2 : H a1 = some (.lst ws2) := k.hH.at_ _ _ x2 fun ps z => nomatch z
  have h3 : H b1 = some (.lst ws3) := k.hH.at_ _ _ x3 fun ps z => nomatch z
  have hdH : H (pa j) = some (.dK [(k1, .ref a1), (k2, .ref b1)]) := k.hH.at_ _ _ hd fun ps z => nomatch z
  have nij : pa i ≠ pa j := fun z => (lst_ne x1 hd fun ws z => nomatch z) z.symm
  have nbi := k.nobH (ne_none x1)
  have nbj := k.nobH (ne_none hd)
  have nba := k.nobH (ne_none x2)
  have nbb := k.nobH (ne_none x3)
  have stI : ∀ (n : Nat) (a : Addr), st[n]? = some (some (.ref a)) → st.set n (some (V.ref a)) = st := fun n a h => by
    refine List.ext_getElem? fun m => ?_
    by_cases q : n = m
    · subst q
      rw [List.getElem?_set_self (List.getElem?_eq_some_iff.mp h).1, h]
    · rw [List.getElem?_set_ne q]
  have k0 : Ok c.K pa H0 F0 F' H st r := k.unpin hb0
  have ku : Ok c.K pa H0 F0 F' H (st.set i (some (.ref (pa i)))) (r.set i .unk) := k0.forget
  have ka : Ok c.K pa H0 F0 F' H ((st.set i (some (.ref (pa i)))).set i (some (.ref (pa i)))) ((r.set i .unk).set i (.o (.l G))) := ku.set (s := .o (.l G)) (fun s' w => by
    rw [List.getElem?_set_self li] at w
    cases w
    rfl) rfl ⟨pa i, rfl, z1, n0i, ws1, h1, y1⟩ fun a c' w1 w2 => by
      cases w1
      cases w2
      exact .l nbi.unk.unk
  rw [List.set_set, List.set_set, stI i _ si] at ka
  have kb := ka.toIo (pa' := pa) (i := i) (List.getElem?_set_self li) si rfl fun _ _ => rfl
  rw [List.set_set] at kb
  have hct : CtOk c.K F' H (pa j) (.n (.d [(k1, .l A), (k2, .l B)])) := by
    refine ⟨[.ref a1, .ref b1], ⟨_, hdH, rfl, rfl⟩, .cons ⟨a1, ws2, rfl, h2, y2⟩ (.cons ⟨b1, ws3, rfl, h3, y3⟩ .nil), fun n m b ne g1 g2 => ?_⟩
    obtain ⟨us, ds, p1, p2, p3⟩ := g1
    obtain ⟨us', ds', q1, q2, q3⟩ := g2
    rw [hdH] at p1 q1
    cases p1
    cases q1
    have hn : n < 2 := (List.getElem?_eq_some_iff.mp p2).1
    have hm : m < 2 := (List.getElem?_eq_some_iff.mp q2).1
    rcases n with _ | _ | n
    · rcases m with _ | _ | m
      · exact ne rfl
      · simp at p2 q2
        exact nab (p2.trans q2.symm)
      · omega
    · rcases m with _ | _ | m
      · simp at p2 q2
        exact nab (q2.trans p2.symm)
      · exact ne rfl
      · omega
    · omega
  have inn : ∀ b, Inn H (pa j) (.n (.d [(k1, .l A), (k2, .l B)])) b → b = a1 ∨ b = b1 := fun b ⟨n, us, ds, p1, p2, p3⟩ => by
    rw [hdH] at p1
    cases p1
    have hn : n < 2 := (List.getElem?_eq_some_iff.mp p2).1
    rcases n with _ | _ | n
    · simp at p2
      exact .inl p2.symm
    · simp at p2
      exact .inr p2.symm
    · omega
  have kv : Ok c.K pa H0 F0 F' H (st.set j (some (.ref (pa j)))) ((r.set i (.io (.l G))).set j .unk) := kb.forget
  have kc : Ok c.K pa H0 F0 F' H ((st.set j (some (.ref (pa j)))).set j (some (.ref (pa j)))) (((r.set i (.io (.l G))).set j .unk).set j (.o (.n (.d [(k1, .l A), (k2, .l B)])))) := kv.set (s := .o (.n (.d [(k1, .l A), (k2, .l B)]))) (fun s' w => by
    rw [List.getElem?_set_self (by rw [List.length_set]; exact lj)] at w
    cases w
    rfl) rfl ⟨pa j, rfl, fj, n0j, hct⟩ fun a c' w1 w2 => by
      cases w1
      cases w2
      refine ⟨(nbj.setIo (K := c.K) si nij).unk.unk, fun b hb => ?_⟩
      rcases inn b hb with rfl | rfl
      · exact ⟨z2, n0a, lst_ne x2 hd (fun ws z => nomatch z), (nba.setIo (K := c.K) si nia).unk.unk⟩
      · exact ⟨z3, n0b, lst_ne x3 hd (fun ws z => nomatch z), (nbb.setIo (K := c.K) si nib).unk.unk⟩
  rw [List.set_set, List.set_set, stI j _ sj] at kc
  have kd := kc.toIo (pa' := pa) (i := j) (List.getElem?_set_self (by rw [List.length_set]; exact lj)) sj rfl fun _ _ => rfl
  rw [List.set_set] at kd
  exact kd
end
section
variable {X : Cx} {c : Cc} {pa : Nat → Addr} {H0 F0 F : Hp} {ts : List (Addr × HO)} {i j : Nat} {a1 b1 : Addr} {k1 k2 : Key} {G A B : List D} {st : L2.St} {H : Hp} {r : En}
/-- the object at a slot, the lists within another's dict: all stand from now on -/
theorem S3.begin (k : Ok c.K pa H0 F0 F H st r) (hi : r[i]? = some (.io (.l G))) (hj : r[j]? = some (.io (.n (.d [(k1, .l A), (k2, .l B)])))) (hij : i ≠ j) :
    ∃ a1 b1, S3 c pa H0 F0 F [] i j a1 b1 k1 k2 G A B st H ((r.set i .pin).set j .pin) ∧ H0 (pa i) = none ∧ H0 (pa j) = none ∧ H0 a1 = none ∧ H0 b1 = none ∧ pa i ≠ a1 ∧ pa i ≠ b1 ∧ a1 ≠ b1 := by
  classical
  obtain ⟨vi, si, rfl, zi, n0i, ws1, h1, y1⟩ := k.sl i _ hi (fun z => nomatch z)
  obtain ⟨vj, sj, rfl, zj, n0j, us, ⟨ks, hd, hkeys, hvals⟩, hit, hun⟩ := k.sl j _ hj (fun z => nomatch z)
  have hl2 : us.length = 2 := hit.len
  obtain ⟨w1, g1, a1, ws2, rfl, h2, y2⟩ := hit.get (j := 0) (i := .l A) rfl
  obtain ⟨w2, g2, b1, ws3, rfl, h3, y3⟩ := hit.get (j := 1) (i := .l B) rfl
  have eks : ks = [(k1, .ref a1), (k2, .ref b1)] := by
    rw [hvals] at g1 g2 hl2
    match ks, hkeys, g1, g2, hl2 with
    | [(p1, q1), (p2, q2)], hkeys, g1, g2, _ =>
      simp at hkeys g1 g2
      obtain ⟨rfl, rfl⟩ := hkeys
      subst g1
      subst g2
      rfl
    | [], _, g1, _, _ => simp at g1
    | [_], _, _, g2, _ => simp at g2
    | _ :: _ :: _ :: _, _, _, _, hl => simp at hl
  subst eks
  have ia : Inn H (pa j) (.n (.d [(k1, .l A), (k2, .l B)])) a1 := ⟨0, us, A, by rw [hd, hvals]; rfl, g1, rfl⟩
  have ib : Inn H (pa j) (.n (.d [(k1, .l A), (k2, .l B)])) b1 := ⟨1, us, B, by rw [hd, hvals]; rfl, g2, rfl⟩
  obtain ⟨fa, n0a, fa3⟩ := k.inn j _ _ _ a1 hj rfl sj ia
  obtain ⟨fb, n0b, fb3⟩ := k.inn j _ _ _ b1 hj rfl sj ib
  have nia : pa i ≠ a1 := (fa3 i _ _ _ hi rfl si).1
  have nib : pa i ≠ b1 := (fb3 i _ _ _ hi rfl si).1
  have nab : a1 ≠ b1 := fun z => hun 0 1 a1 (by decide) ⟨us, A, by rw [hd, hvals]; rfl, g1, rfl⟩ ⟨us, B, by rw [hd, hvals]; rfl, by rw [z]; exact g2, rfl⟩
  have li : i < r.length := (List.getElem?_eq_some_iff.mp hi).1
  have lj : j < r.length := (List.getElem?_eq_some_iff.mp hj).1
  have view : ∀ (n : Nat) (s' : Sl), ((r.set i .pin).set j .pin)[n]? = some s' → (s' = .pin ∧ (n = i ∨ n = j)) ∨ (n ≠ i ∧ n ≠ j ∧ r[n]? = some s') := fun n s' e => by
    by_cases q : j = n
    · subst q
      rw [List.getElem?_set_self (by rw [List.length_set]; exact lj)] at e
      cases e
      exact .inl ⟨rfl, .inr rfl⟩
    · rw [List.getElem?_set_ne q] at e
      by_cases q2 : i = n
      · subst q2
        rw [List.getElem?_set_self li] at e
        cases e
        exact .inl ⟨rfl, .inl rfl⟩
      · rw [List.getElem?_set_ne q2] at e
        exact .inr ⟨fun z => q2 z.symm, fun z => q z.symm, e⟩
  have kp : Ok c.K pa H0 F0 F H st ((r.set i .pin).set j .pin) := k.less (by rw [List.length_set, List.length_set]) fun n s' e => by
    rcases view n s' e with ⟨rfl, rfl | rfl⟩ | ⟨_, _, e⟩
    · exact .inr (.inr ⟨rfl, si⟩)
    · exact .inr (.inr ⟨rfl, sj⟩)
    · exact .inl e
  have nobs : ∀ x, (x = pa i ∨ x = pa j ∨ x = a1 ∨ x = b1) → Nob H st ((r.set i .pin).set j .pin) x := fun x hx n s' c' a e1 e2 e3 => by
    rcases view n s' e1 with ⟨rfl, _⟩ | ⟨ni, nj, e⟩
    · cases e2
    · rcases hx with rfl | rfl | rfl | rfl
      · refine ⟨fun z => ?_, fun z => ((k.inn n s' c' a _ e e2 e3 z).2.2 i _ _ _ hi rfl si).1 rfl⟩
        subst z
        exact k.dis n i s' _ c' _ _ ni e hi e2 rfl e3 si
      · refine ⟨fun z => ?_, fun z => ((k.inn n s' c' a _ e e2 e3 z).2.2 j _ _ _ hj rfl sj).1 rfl⟩
        subst z
        exact k.dis n j s' _ c' _ _ nj e hj e2 rfl e3 sj
      · obtain ⟨z1, z2⟩ := fa3 n s' c' a e e2 e3
        exact ⟨z1, z2 nj⟩
      · obtain ⟨z1, z2⟩ := fb3 n s' c' a e e2 e3
        exact ⟨z1, z2 nj⟩
  have kS : Ok c.K pa (fun x => if (x = pa i ∨ x = pa j ∨ x = a1 ∨ x = b1) then H x else H0 x) F0 F H st ((r.set i .pin).set j .pin) := kp.pinS (fun x => x = pa i ∨ x = pa j ∨ x = a1 ∨ x = b1) (fun x hx => ⟨if_pos hx, by
    rcases hx with rfl | rfl | rfl | rfl
    · exact zi
    · exact zj
    · exact fa
    · exact fb, nobs x hx⟩) fun x hx => if_neg hx
  refine ⟨a1, b1, ⟨F, _, kS, Ex.refl F, fun x => ?_, fun p hp => (by cases hp), ?_, zj, ⟨ws1, ?_, y1, zi⟩, ⟨ws2, ?_, y2, fa⟩, ⟨ws3, ?_, y3, fb⟩⟩, n0i, n0j, n0a, n0b, nia, nib, nab⟩
  · by_cases hx : x = pa i ∨ x = pa j ∨ x = a1 ∨ x = b1
    · right
      rcases hx with rfl | rfl | rfl | rfl
      · exact n0i
      · exact n0j
      · exact n0a
      · exact n0b
    · exact .inl (if_neg hx).symm
  · exact (if_pos (.inr (.inl rfl))).trans hd
  · exact (if_pos (.inl rfl)).trans h1
  · exact (if_pos (.inr (.inr (.inl rfl)))).trans h2
  · exact (if_pos (.inr (.inr (.inr rfl)))).trans h3
theorem S3.add (hW : S3 c pa H0 F0 F ts i j a1 b1 k1 k2 G A B st H r) {t : Addr} {o : HO} (n : H t = none) : S3 c pa H0 F0 F ((t, o) :: ts) i j a1 b1 k1 k2 G A B st (upd H t o) r := by
  obtain ⟨F', H1, k, e, hb0, hts1, hd, fj, ⟨ws1, x1, y1, z1⟩, ⟨ws2, x2, y2, z2⟩, ⟨ws3, x3, y3, z3⟩⟩ := hW
  have n1 : H1 t = none := k.hH.nn n
  have n0 : H0 t = none := (hb0 t).elim (fun z => z.trans n1) id
  have ne : ∀ x u, H1 x = some u → x ≠ t := fun x u h z => by
    rw [z, n1] at h
    cases h
  refine ⟨F', _, k.inL n, e, base_upd hb0 n0, fun p hp => ?_, by rw [upd_ne (ne _ _ hd)]; exact hd, fj, ⟨ws1, by rw [upd_ne (ne _ _ x1)]; exact x1, y1, z1⟩, ⟨ws2, by rw [upd_ne (ne _ _ x2)]; exact x2, y2, z2⟩, ⟨ws3, by rw [upd_ne (ne _ _ x3)]; exact x3, y3, z3⟩⟩
  rcases List.mem_cons.mp hp with rfl | hp
  · exact upd_same
  · rw [upd_ne (ne _ _ (hts1 p hp))]
    exact hts1 p hp
end
end Pu
namespace Pu
open PySem PySem.Spec PyProof.Rows L2
/-! ### {"k": a list of one's own, "l": another} -/
end Pu
namespace Pu
open PySem PySem.Spec PyProof.Rows L2
variable [TabT]
theorem sp_start {K : PySem.W.Frag} {mg : Str → Option Value} {f : List Sl → Re RV} {ns : List Int} {H : Hp} {a : Addr} (hl : ∃ r, f [.v (.list (ns.map .int))] = .ok (.v (.bool true)) r) (hS : SqL K H a (ns.map V.int)) (tb : LamX.Tabs (TabT.T K) H) : spG K mg 1 f [.ref a] H (fun v _ => v = .bl true) fun _ _ _ => False := by
  obtain ⟨r, hr⟩ := hl
  refine ⟨rfl, fun _ => 0, H, H, _, argsV (vs := [.ref a]) (ds := [.list (ns.map .int)]) (.cons (.lst hS (dpa_ints ns)) .nil) (Ex.refl H) tb, argsOkV _, ?_⟩
  rw [show [PyData.list (ns.map PyData.int)].map Sl.v = [Sl.v (.list (ns.map .int))] from rfl, hr]
  intro F' H' v ok rv
  cases rv
  rfl
theorem no_cx {P : Program} {w : World} {H : Hp} {s s' : Shared} {e : Value} (h : L2.CX P w [] H s (fun _ _ _ => False) e s') : False := by
  obtain ⟨_, _, _, _, _, _, _, _, _, _, _, _, z⟩ := h
  exact z
/-- the law called from outside, with the tables of code objects -/
theorem lawG {P : Program} {w : World} {K : PySem.W.Frag} {mg mb : Str → Option Value} {k : Nat} {fa a : Addr} {cs : List (Addr × Addr)} {fd : FuncData} {x : Str} {sp : Sp} {s₁ : Shared} {vs : List Value} {ns : List Int}
    (KX : K.In s₁.heap) (hns : s₁.heap.Ns mainGlobals mg) (hb : s₁.heap.Ns builtinsNs mb) (hbb : ∀ x : Str, x ≠ "__name__" → mb x = bootBuiltins x) (hlim : s₁.heap.NoLimit) (hg : s₁.gens = #[])
    (hT : ∀ p ∈ cs, s₁.heap.get? p.2 = some { cls := .none, data := .fields #[] }) (nT : ∀ p ∈ cs, K.lookup p.2 = none) (C : ∀ p ∈ cs, PySem.W.CodeHd s₁.heap p.1 p.2)
    (hbm : ∃ (bm : Addr) (ob : Obj), mg "__builtins__" = some (.ref bm) ∧ bm ≠ builtinsNs ∧ s₁.heap.get? bm = some ob ∧ ob.cls = .type "module" ∧ ob.dict = some builtinsNs ∧ ob.data = .plain)
    (ha : s₁.heap.get? a = some { cls := .type "list", data := .seq vs.toArray }) (hi : IntsAre vs ns) (hl : ns.length ≤ sizeLine) (hr : RmC k callerA) (hsr : s₁.heap.NoSeer)
    (F : ∀ base : Heap, K.In base → base.Ns mainGlobals mg → base.NoSeer → (∀ p ∈ cs, LamX.TabB base mg p.1 p.2) → FnG P w K mg base k fa fd [x] sp) (hbind : ∀ (s : Shared) (u : Value), BindsTo s fd ⟨[u], []⟩ [(x, u)])
    (hsp : ∀ H : Hp, (∀ p ∈ cs, H p.2 = some (.tbl #[])) → SqL K H a (ns.map V.int) → sp [.ref a] H (fun v _ => v = .bl true) fun _ _ _ => False) :
    codeAny (model P w) callerA (.call (.ref fa) ⟨[.ref a], []⟩) (fun r s' => r = .ok (.ret (.bool true)) ∧ OldK s₁.heap s'.heap ∧ s'.os = s₁.os ∧ AllBare s'.gens) s₁ := by
  have rv := vals_ints hi
  have lenV := hi.length
  have isT : ∀ b : Addr, b ∈ cs.map (·.2) → s₁.heap.get? b = some { cls := .none, data := .fields #[] } := fun b hb => by
    obtain ⟨p, hp, e⟩ := List.mem_map.mp hb
    rw [← e]
    exact hT p hp
  have aT : a ∉ cs.map (·.2) := fun z => by
    have q := isT a z
    rw [ha] at q
    have z' : Data.seq vs.toArray _ = Data.fields #[] := congrArg Obj.data (Option.some.inj q)
    cases z'
  have memT : ∀ p ∈ cs, p.2 ∈ cs.map (·.2) := fun p hp => List.mem_map.mpr ⟨p, hp, rfl⟩
  -- from an abstract heap in which nothing but the script and the tables may be tracked
  have core : ∀ H : Hp, (∀ p ∈ cs, H p.2 = some (.tbl #[])) → (∀ b, H b = none ∨ b ∈ cs.map (·.2) ∨ ∃ o xs, H b = some (.frz o (.lst xs))) → SqL K H a (ns.map V.int) → HOk P w H s₁.heap → (∀ b, H b ≠ none → b = a ∨ b ∈ cs.map (·.2)) → (H a ≠ none → K.lookup a = none) →
      codeAny (model P w) callerA (.call (.ref fa) ⟨[.ref a], []⟩) (fun r s' => r = .ok (.ret (.bool true)) ∧ OldK s₁.heap s'.heap ∧ s'.os = s₁.os ∧ AllBare s'.gens) s₁ := by
    intro H hH hO hS hok hA hK
    have base_of : ∀ {b : Addr} {o : Obj}, s₁.heap.get? b = some o → H b = none → (hidT s₁.heap H).get? b = some o := fun e n => hidT_get e n
    have noD : ∀ {b : Addr} {o : Obj}, s₁.heap.get? b = some o → (∀ vs n, o.data ≠ .seq vs n) → o.data ≠ .fields #[] → H b = none := fun {b o} e h1 h2 => by
      cases q : H b with
      | none => rfl
      | some u =>
        rcases hA b (by rw [q]; simp) with e' | e'
        · rw [e', ha] at e
          cases e
          exact (h1 _ _ rfl).elim
        · rw [isT b e'] at e
          cases e
          exact (h2 rfl).elim
    have noA : ∀ {b : Addr} {o : Obj} {es : Array DictEntry} {ep : Nat}, s₁.heap.get? b = some o → o.data = .dict es ep → H b = none := fun {b o es ep} e d => by
      refine noD e (fun vs n z => ?_) fun z => ?_
      · rw [d] at z
        cases z
      · rw [d] at z
        cases z
    have nsK : ∀ {b : Addr} {m : Str → Option Value}, s₁.heap.Ns b m → (hidT s₁.heap H).Ns b m := fun {b m} ⟨o, es, ep, e, d, r⟩ => ⟨o, es, ep, base_of e (noA e d), d, r⟩
    have hKb : K.In (hidT s₁.heap H) := fun b o e => base_of (KX b o e) (by
      cases q : H b with
      | none => rfl
      | some u =>
        rcases hA b (by rw [q]; simp) with e' | e'
        · rw [e'] at e q
          rw [hK (by rw [q]; simp)] at e
          cases e
        · obtain ⟨p, hp, ep⟩ := List.mem_map.mp e'
          rw [← ep, nT p hp] at e
          cases e)
    have hM : L2.Mod K mg (hidT s₁.heap H) := ⟨hKb, nsK hns, ⟨mb, nsK hb, hbb⟩, let ⟨mc, h1, h2⟩ := hlim; ⟨mc, nsK h1, h2⟩⟩
    have hSR : (hidT s₁.heap H).NoSeer := ⟨(let ⟨mc, a, b⟩ := hsr.statics; ⟨mc, nsK a, b⟩), (let ⟨mc, a, b⟩ := hsr.mods; ⟨mc, nsK a, b⟩), (let ⟨mb, a, b⟩ := hsr.imp; ⟨mb, nsK a, b⟩), by
      obtain ⟨bm, ob, b1, b2, b3, b4, b5, b6⟩ := hbm
      refine ⟨mg, bm, ob, nsK hns, b1, base_of b3 (noD b3 (fun vs n z => ?_) fun z => ?_), b4, b5⟩
      · rw [b6] at z
        cases z
      · rw [b6] at z
        cases z⟩
    have TB : ∀ p ∈ cs, LamX.TabB (hidT s₁.heap H) mg p.1 p.2 := fun p hp => by
      have hTp := hT p hp
      refine ⟨?_, ?_, fun z => ?_⟩
      · obtain ⟨o, us, file, tf, flags, tg, inF, text, tt, e1, r1, r2, r3, r4, r5, r6, r7, r8, hne⟩ := C p hp
        refine ⟨o, us, file, tf, flags, tg, inF, text, tt, base_of e1 (noD e1 (fun vs n z => ?_) fun z => ?_), r1, r2, r3, r4, r5, r6, r7, r8, hne⟩
        · rw [r2] at z
          cases z
        · rw [r2] at z
          cases z
          simp at r3
      · obtain ⟨bm, ob, b1, b2, b3, b4, b5, b6⟩ := hbm
        have nG : bm ≠ mainGlobals := fun q => by
          obtain ⟨o, es, ep, e, hd, _⟩ := hns
          rw [q, e] at b3
          cases b3
          rw [hd] at b6
          cases b6
        have nP : bm ≠ p.2 := fun q => by
          rw [q, hTp] at b3
          cases b3
          cases b6
        refine ⟨bm, ob, b1, b2, nG, nP, base_of b3 (noD b3 (fun vs n z => ?_) fun z => ?_), b4, b5, b6⟩
        · rw [b6] at z
          cases z
        · rw [b6] at z
          cases z
      · obtain ⟨o, es, ep, e, hd, _⟩ := hns
        rw [z, hTp] at e
        cases e
        cases hd
    have e0 : Env0 P w K mg (hidT s₁.heap H) callerA [] s₁ H := ⟨rfl, hM, fun b o e => of_hidT e, Nat.le_of_eq (hidT_size _ _), trivial, fun b hb => absurd (show b ∈ ([] : List Addr) from hb) (by simp), hok, .of_eq hg⟩
    refine codeAny_mono ((F _ hKb (nsK hns) hSR TB).run callerA [] s₁ H ⟨[.ref a], []⟩ [.ref a] [.ref a] _ _ hr e0 (hbind s₁ (.ref a)) (.cons rfl .nil) (hsp H hH hS)) fun r s' h => ?_
    cases r with
    | error e => exact (no_cx h).elim
    | ok fl =>
      cases fl with
      | next => exact False.elim h
      | brk => exact False.elim h
      | cont => exact False.elim h
      | ret u =>
        obtain ⟨v, H', os, bare, un, hok', r', q⟩ := h
        have q' : v = .bl true := q
        subst q'
        obtain rfl : u = Value.bool true := r'
        have key : ∀ b o, b ∉ cs.map (·.2) → s₁.heap.get? b = some o → s'.heap.get? b = some o := fun b o nb e => by
          cases q : H b with
          | none => exact un.keep b o e q (by intro z; exact absurd (show b ∈ ([] : List Addr) from z) (by simp)) (by simp)
          | some u =>
            rcases hO b with z | z | ⟨ob, xs, z⟩
            · rw [q] at z; cases z
            · exact absurd z nb
            · have z2 := un.frzs b ob _ z
              obtain ⟨e1, _⟩ := hok b _ z
              obtain ⟨e2, _⟩ := hok' b _ z2
              rw [e] at e1; cases e1
              exact e2
        have grown : ∀ p ∈ cs, ∃ more : Array Value, s'.heap.get? p.2 = some { cls := .none, data := .fields more } := fun p hp => by
          obtain ⟨more, z⟩ := un.tbls p.2 #[] (hH p hp)
          exact ⟨_, hok' p.2 _ z⟩
        refine ⟨rfl, ⟨fun b o e => ?_, fun b o e => ?_⟩, os, bare⟩
        · by_cases hb : b ∈ cs.map (·.2)
          · obtain ⟨p, hp, ep⟩ := List.mem_map.mp hb
            obtain ⟨more, hm⟩ := grown p hp
            rw [← ep] at e ⊢
            rw [hT p hp] at e
            cases e
            exact .inr (.inl ⟨((C p hp).tab (hT p hp)).isCodeTable, rfl, #[], more, rfl, by rw [Array.empty_append]; exact hm⟩)
          · exact .inl (key b o hb e)
        · by_cases hb : b ∈ cs.map (·.2)
          · obtain ⟨p, hp, ep⟩ := List.mem_map.mp hb
            obtain ⟨more, hm⟩ := grown p hp
            rw [← ep]
            exact ⟨_, hm⟩
          · exact ⟨o, key b o hb e⟩
  cases hk : K.lookup a with
  | some o =>
    have e := KX a o hk
    rw [ha] at e
    cases e
    refine core (fun b => if b ∈ cs.map (·.2) then some (.tbl #[]) else none) (fun p hp => if_pos (memT p hp)) (fun b => ?_) (.inr ⟨_, vs.toArray, _, hk, rfl, rfl, rfl, by rw [List.size_toArray, lenV]; exact hl, by simpa using rv⟩) (fun b u z => ?_) (fun b z => ?_) fun z => absurd (show (if a ∈ cs.map (·.2) then some (HO.tbl #[]) else none) = none from if_neg aT) z
    · by_cases hb : b ∈ cs.map (·.2)
      · exact .inr (.inl hb)
      · exact .inl (if_neg hb)
    · by_cases hb : b ∈ cs.map (·.2)
      · have z' := (if_pos hb).symm.trans z
        cases z'
        exact isT b hb
      · have z' := (if_neg hb).symm.trans z
        cases z'
    · by_cases hb : b ∈ cs.map (·.2)
      · exact .inr hb
      · exact absurd (if_neg hb) z
  | none =>
    refine core (fun b => if b = a then some (.frz { cls := .type "list", data := .seq vs.toArray } (.lst (ns.map V.int))) else if b ∈ cs.map (·.2) then some (.tbl #[]) else none) (fun p hp => (if_neg (show ¬ p.2 = a from fun z => aT (by rw [← z]; exact memT p hp))).trans (if_pos (memT p hp))) (fun b => ?_)
      (.inl (.inr ⟨{ cls := .type "list", data := .seq vs.toArray }, if_pos rfl⟩)) (fun b u z => ?_) (fun b z => ?_) fun _ => hk
    · by_cases hb : b = a
      · exact .inr (.inr ⟨_, _, if_pos hb⟩)
      · by_cases hb2 : b ∈ cs.map (·.2)
        · exact .inr (.inl hb2)
        · exact .inl ((if_neg hb).trans (if_neg hb2))
    · by_cases hb : b = a
      · have z' := (if_pos hb).symm.trans z
        cases z'
        rw [hb]
        exact ⟨ha, by rw [List.length_map]; exact hl, vs, _, rv, ha⟩
      · have z1 := (if_neg hb).symm.trans z
        by_cases hb2 : b ∈ cs.map (·.2)
        · have z' := (if_pos hb2).symm.trans z1
          cases z'
          exact isT b hb2
        · have z' := (if_neg hb2).symm.trans z1
          cases z'
    · by_cases hb : b = a
      · exact .inl hb
      · by_cases hb2 : b ∈ cs.map (·.2)
        · exact .inr hb2
        · exact absurd ((if_neg hb).trans (if_neg hb2)) z
theorem walk_ofP {l : PySem.W.OpenLaw} {n k : Nat} {q : Program} {loose : List Str} {XP : (Str → Option Value) → Heap → Prop} {YP : World → Heap → Prop} {d : DefRec} {x : Str} (hn : l.most = some n) (hn2 : n ≤ sizeLine) (hdf : d.params.defaults = []) (hr : RmC k callerA) (hi : PyProof.Rows.importsNone q = true)
    (F : ∀ (w : World) (mg : Str → Option Value) (fa : Addr) (h : Heap), YP w h → h.Ns mainGlobals mg → mg d.name = some (.ref fa) → ∃ (K : PySem.W.Frag) (fd : FuncData) (cs : List (Addr × Addr)) (sp : Sp), K.In h ∧ (∀ p ∈ cs, h.get? p.2 = some { cls := .none, data := .fields #[] }) ∧ (∀ p ∈ cs, K.lookup p.2 = none) ∧ (∀ p ∈ cs, PySem.W.CodeHd h p.1 p.2) ∧ (∀ (s : Shared) (u : Value), BindsTo s fd ⟨[u], []⟩ [(x, u)]) ∧
      (∀ (H : Hp) (a : Addr) (ns : List Int), ns.length ≤ n → (∀ z ∈ ns, Builtin.Int.intBits z ≤ 1048576) → (∀ p ∈ cs, H p.2 = some (.tbl #[])) → SqL K H a (ns.map V.int) → sp [.ref a] H (fun v _ => v = .bl true) fun _ _ _ => False) ∧ ∀ base : Heap, K.In base → base.Ns mainGlobals mg → base.NoSeer → (∀ p ∈ cs, LamX.TabB base mg p.1 p.2) → FnG l.prog w K mg base k fa fd [x] sp) :
    PySem.W.WalkO q loose XP YP l.row.toRowW d [] (fun f vs => PySem.call f vs) :=
  Att.attach_callB hn hdf fun w t0 t1 mg mb fa o pm cd doc a us ns G Y ho hd hcd hmg hobj hints hlen hbits hg => by
    obtain ⟨K, fd, cs, sp, KX, hT, nT, C, hb, hsp, hF⟩ := F w mg fa _ Y G.T.g hmg
    exact lawG KX G.T.g G.T.b G.T.builtins G.T.nolimit hg hT nT C G.T.bmain hobj hints (Nat.le_trans hlen hn2) hr (G.T.seer hi) hF hb fun H hH hS => hsp H a ns hlen hbits hH hS
end Pu
namespace Pu
open PySem L2
variable [TabT]
theorem ite_some {α : Type} (p : Prop) [Decidable p] (a b : α) : ((if p then some a else none) = some b) = (p ∧ a = b) := by
  by_cases h : p
  · rw [if_pos h]
    simp [h]
  · rw [if_neg h]
    simp [h]
/-! ### what a mirror does, from the left -/
variable {α β : Type} {X : Exn → En → Prop} {k : α → En → Prop}
@[simp] theorem qo_ok (a : α) (r : En) : Po X (.ok a r) k = k a r := rfl
@[simp] theorem qo_ex (e : Exn) (r : En) : Po X (.ex e r) k = X e r := rfl
@[simp] theorem qo_no : Po X (.no : Re α) k = False := rfl
@[simp] theorem qo_bind (x : Re β) (f : β → M α) : Po X (x.bind f) k = Po X x fun a r => Po X (f a r) k := by cases x <;> rfl
theorem qo_opt (o : Option α) (r : En) : Po X (M.opt o r) k = ∃ a, o = some a ∧ k a r := by
  cases o with
  | none => simp [M.opt]
  | some a => simp [M.opt]
theorem qo_mono {x : Re α} {k' : α → En → Prop} (h : Po X x k') (i : ∀ a r, k' a r → k a r) : Po X x k := h.mono (fun _ _ z => z) i
theorem qo_true {f : Re RV} (h : Po (fun _ _ => False) f fun rv _ => rv = .v (.bool true)) : ∃ r, f = .ok (.v (.bool true)) r := by
  cases f with
  | ok a r => exact ⟨r, by rw [show a = .v (.bool true) from h]⟩
  | ex e r => exact h.elim
  | no => exact h.elim
@[simp] theorem getS_ap (i : Nat) (r : En) : getS i r = (match r[i]? with
  | some (.v d) => .ok d r
  | _ => .no) := rfl
@[simp] theorem bin_ap (g : D → D → Option D) (a b : M D) (r : En) : bin g a b r = (a r).bind fun x r => (b r).bind fun y r => M.opt (g x y) r := rfl
@[simp] theorem una_ap (g : D → Option D) (a : M D) (r : En) : una g a r = (a r).bind fun x r => M.opt (g x) r := rfl
@[simp] theorem nry_ap (g : List D → Option D) (a : M (List D)) (r : En) : nry g a r = (a r).bind fun x r => M.opt (g x) r := rfl
@[simp] theorem unaO_ap (g : D → Option (List D)) (a : M D) (r : En) : unaO g a r = (a r).bind fun x r => M.opt ((g x).map fun z => .o (.l z)) r := rfl
@[simp] theorem nryO_ap (g : List D → Option (List D)) (a : M (List D)) (r : En) : nryO g a r = (a r).bind fun x r => M.opt ((g x).map fun z => .o (.l z)) r := rfl
@[simp] theorem aNil_ap (r : En) : aNil r = .ok [] r := rfl
@[simp] theorem aCons_ap (a : M D) (b : M (List D)) (r : En) : aCons a b r = (a r).bind fun x r => (b r).bind fun y r => .ok (x :: y) r := rfl
@[simp] theorem frzM_ap (m : M RV) (r : En) : frzM m r = (m r).bind fun rv r => M.opt rv.data r := rfl
@[simp] theorem data_v (d : D) : RV.data (.v d) = some d := rfl
@[simp] theorem data_l (ds : List D) : RV.data (.o (.l ds)) = some (.list ds) := rfl
@[simp] theorem eTup_ap (m : M (List D)) (r : En) : eTup m r = (m r).bind fun ds r => M.opt (szC ds.length (.tuple ds)) r := rfl
@[simp] theorem oLst_ap (m : M (List D)) (r : En) : oLst m r = (m r).bind fun ds r => M.opt (szC ds.length (.o (.l ds))) r := rfl
theorem szC_iff (n : Nat) (a b : α) : (szC n a = some b) = (n ≤ 16777216 ∧ a = b) := by
  unfold szC
  exact ite_some _ _ _
@[simp] theorem tBool_ap (m : M D) (r : En) : tBool m r = (m r).bind fun d r => M.opt (match d with
  | .bool b => some b
  | _ => none) r := rfl
@[simp] theorem tTru_ap (m : M D) (r : En) : tTru m r = (m r).bind fun d r => M.opt (tru d) r := rfl
@[simp] theorem tNotM_ap (m : M Bool) (r : En) : tNotM m r = (m r).bind fun b r => .ok (!b) r := rfl
@[simp] theorem tAndM_ap (m n : M Bool) (r : En) : tAndM m n r = (m r).bind fun b r => if b = true then n r else .ok false r := by
  show (m r).bind (fun b => if b = true then n else M.ret false) = _
  congr 1
  funext b r
  cases b <;> rfl
@[simp] theorem tOrM_ap (m n : M Bool) (r : En) : tOrM m n r = (m r).bind fun b r => if b = true then .ok true r else n r := by
  show (m r).bind (fun b => if b = true then M.ret true else n) = _
  congr 1
  funext b r
  cases b <;> rfl
@[simp] theorem eNot_ap (m : M D) (r : En) : eNot m r = (tBool m r).bind fun b r => .ok (.bool (!b)) r := rfl
@[simp] theorem eNotT_ap (m : M D) (r : En) : eNotT m r = (tTru m r).bind fun b r => .ok (.bool (!b)) r := rfl
@[simp] theorem eAnd_ap (m n : M D) (r : En) : eAnd m n r = (tBool m r).bind fun b r => if b = true then n r else .ok (.bool false) r := by
  show (tBool m r).bind (fun b => if b = true then n else M.ret (.bool false)) = _
  congr 1
  funext b r
  cases b <;> rfl
@[simp] theorem eOr_ap (m n : M D) (r : En) : eOr m n r = (tBool m r).bind fun b r => if b = true then .ok (.bool true) r else n r := by
  show (tBool m r).bind (fun b => if b = true then M.ret (.bool true) else n) = _
  congr 1
  funext b r
  cases b <;> rfl
@[simp] theorem eIf_ap (t : M Bool) (m n : M D) (r : En) : eIf t m n r = (t r).bind fun b r => if b = true then m r else n r := by
  show (t r).bind (fun b => if b = true then m else n) = _
  congr 1
  funext b r
  cases b <;> rfl
@[simp] theorem eChain_ap (g g' : D → D → Option D) (a b d : M D) (r : En) : eChain g g' a b d r = (a r).bind fun x r => (b r).bind fun y r => (M.opt (g x y) r).bind fun z r => (match z with
  | .bool true => (d r).bind fun z r => M.opt (g' y z) r
  | .bool false => .ok (.bool false) r
  | _ => .no) := by
  show (a r).bind (fun x => b.bind fun y => (M.opt (g x y)).bind fun z => (match z with
  | .bool true => d.bind fun z => M.opt (g' y z)
  | .bool false => M.ret (.bool false)
  | _ => M.no)) = _
  congr 1
  funext x r
  show (b r).bind _ = _
  congr 1
  funext y r
  show (M.opt (g x y) r).bind _ = _
  congr 1
  funext z r
  cases z with
  | bool b => cases b <;> rfl
  | _ => rfl
@[simp] theorem setN_ap (i : Nat) (s : Sl) (r : En) : setN i s r = (match r[i]? with
  | some q => if q.isIo = true then none else some (r.set i s)
  | none => none) := by
  unfold setN
  cases r[i]? with
  | none => rfl
  | some q => cases q <;> rfl
@[simp] theorem io_unk : Sl.isIo .unk = false := rfl
@[simp] theorem io_v (d : D) : Sl.isIo (.v d) = false := rfl
@[simp] theorem io_o (c : Ct) : Sl.isIo (.o c) = false := rfl
@[simp] theorem io_io (c : Ct) : Sl.isIo (.io c) = true := rfl
@[simp] theorem setM_ap (i : Nat) (s : Sl) (r : En) : setM i s r = (match setN i s r with
  | some r' => .ok .nx r'
  | none => .no) := rfl
@[simp] theorem slOf_v (d : D) : slOf (.v d) = .v d := rfl
@[simp] theorem slOf_o (d : Ct) : slOf (.o d) = .o d := rfl
@[simp] theorem sSet_ap (i : Nat) (m : M D) (r : En) : sSet i m r = (m r).bind fun d r => setM i (.v d) r := rfl
@[simp] theorem sSetO_ap (i : Nat) (m : M RV) (r : En) : sSetO i m r = (m r).bind fun d r => setM i (slOf d) r := rfl
@[simp] theorem sNil_ap (r : En) : sNil r = .ok .nx r := rfl
theorem sSeq_ap (m n : M Fl) (r : En) : sSeq m n r = (m r).bind fun fl r => (match fl with
  | .nx => n r
  | f => .ok f r) := by
  show (m r).bind (fun fl => (match fl with
  | .nx => n
  | f => M.ret f)) = _
  congr 1
  funext fl r
  cases fl <;> rfl
theorem qo_seq {kk : Fl → En → Prop} (m n : M Fl) (r : En) : Po X (sSeq m n r) kk = Po X (m r) fun fl r => (match fl with
  | .nx => Po X (n r) kk
  | f => kk f r) := by
  rw [sSeq_ap, qo_bind]
  congr 1
  funext fl r
  cases fl <;> rfl
@[simp] theorem sIf_ap (t : M Bool) (a b : M Fl) (r : En) : sIf t a b r = (t r).bind fun x r => if x = true then a r else b r := by
  show (t r).bind (fun x => if x = true then a else b) = _
  congr 1
  funext x r
  cases x <;> rfl
@[simp] theorem qo_ite (p : Prop) [Decidable p] (x y : Re α) : Po X (if p then x else y) k = if p then Po X x k else Po X y k := by split <;> rfl
@[simp] theorem sRet_ap (m : M RV) (r : En) : sRet m r = (m r).bind fun d r => .ok (.rt d) r := rfl
@[simp] theorem sDrop_ap (m : M D) (r : En) : sDrop m r = (m r).bind fun _ r => .ok .nx r := rfl
@[simp] theorem sDropO_ap (m : M RV) (r : En) : sDropO m r = (m r).bind fun _ r => .ok .nx r := rfl
@[simp] theorem frzE_ap (i : Nat) (r : En) : frzE i r = (match r[i]? with
  | some (.o (.l ds)) => r.set i (.v (.list ds))
  | some (.o (.n t)) => (match t.data with
    | some d => r.set i (.v d)
    | none => r)
  | _ => r) := rfl
@[simp] theorem frz_ap (i : Nat) (m : M α) (r : En) : frz i m r = m (frzE i r) := rfl
@[simp] theorem takeS_ap (i : Nat) (r : En) : takeS i r = (match r[i]? with
  | some (.v d) => .ok (.v d) r
  | some (.o ct) => .ok (.o ct) (r.set i .unk)
  | _ => .no) := rfl
@[simp] theorem gN_ap (i : Nat) (d : D) (r : En) : gN i d r = setN i (.v d) r := rfl
@[simp] theorem gT_ap (t : Tgs) (ds : List D) (r : En) : gT t (.tuple ds) r = t ds r := rfl
@[simp] theorem gT_l (t : Tgs) (ds : List D) (r : En) : gT t (.list ds) r = t ds r := rfl
@[simp] theorem gNl_ap (r : En) : gNl [] r = some r := rfl
@[simp] theorem gCn_ap (t : Tg) (ts : Tgs) (d : D) (ds : List D) (r : En) : gCn t ts (d :: ds) r = (t d r).bind fun r' => ts ds r' := rfl
@[simp] theorem sAsg_ap (t : Tg) (m : M D) (r : En) : sAsg t m r = (m r).bind fun d r => (match t d r with
  | some r' => .ok .nx r'
  | none => .no) := rfl
@[simp] theorem sPar_ap (i j : Nat) (m : M (List D)) (r : En) : sPar i j m r = (m r).bind fun ds r => (match ds with
  | [a, b] => (match (setN i (.v a) r).bind (setN j (.v b)) with
    | some r' => .ok .nx r'
    | none => .no)
  | _ => .no) := by
  unfold sPar
  show (m r).bind _ = _
  congr 1
  funext ds r
  rcases ds with _ | ⟨a, _ | ⟨b, _ | ⟨c, ds⟩⟩⟩ <;> rfl
@[simp] theorem iSeq_ap (m : M D) (r : En) : iSeq m r = (m r).bind fun d r => M.opt (seqOf d) r := rfl
@[simp] theorem seqOf_l (ds : List D) : seqOf (.list ds) = some ds := rfl
@[simp] theorem seqOf_t (ds : List D) : seqOf (.tuple ds) = some ds := rfl
@[simp] theorem iBy_ap (g : List D → Option (List D)) (m : M (List D)) (r : En) : iBy g m r = (m r).bind fun ds r => M.opt (g ds) r := rfl
theorem rng1_iff (j : Int) (xs : List D) : (rng1 [.int j] = some xs) = ((-(2 ^ 62) ≤ j ∧ j < 2 ^ 62) ∧ rngD 0 j.toNat = xs) := by
  show (cI (-(2 ^ 62) ≤ j ∧ j < 2 ^ 62) (some (rngD 0 j.toNat)) none = some xs) = _
  rw [cI_eq]
  exact ite_some _ _ _
theorem rng2_iff (i j : Int) (xs : List D) : (rng2 [.int i, .int j] = some xs) = (((-(2 ^ 62) ≤ i ∧ i < 2 ^ 62) ∧ (-(2 ^ 62) ≤ j ∧ j < 2 ^ 62)) ∧ rngD i (j - i).toNat = xs) := by
  show (cI ((-(2 ^ 62) ≤ i ∧ i < 2 ^ 62) ∧ (-(2 ^ 62) ≤ j ∧ j < 2 ^ 62)) (some (rngD i (j - i).toNat)) none = some xs) = _
  rw [cI_eq]
  exact ite_some _ _ _
theorem enF_zip {γ : Type} (g : γ → D) : ∀ (k : Nat) (xs : List γ), enF k (xs.map g) = (xs.zipIdx k).map fun p => .tuple [.int (p.2 : Nat), g p.1]
  | _, [] => rfl
  | k, x :: xs => by
    rw [List.map_cons, List.zipIdx_cons, List.map_cons, ← enF_zip g (k + 1) xs]
    rfl
@[simp] theorem enOf_l {γ : Type} (g : γ → D) (xs : List γ) : enOf [.list (xs.map g)] = some ((xs.zipIdx 0).map fun p => .tuple [.int (p.2 : Nat), g p.1]) := by
  rw [← enF_zip]
  rfl
@[simp] theorem enOf_t {γ : Type} (g : γ → D) (xs : List γ) : enOf [.tuple (xs.map g)] = some ((xs.zipIdx 0).map fun p => .tuple [.int (p.2 : Nat), g p.1]) := by
  rw [← enF_zip]
  rfl
theorem rng_map (lo : Int) (n : Nat) : rngD lo n = (List.range n).map fun k : Nat => PyData.int (lo + (k : Int)) := rfl
@[simp] theorem pNone_ap (r : En) : pNone r = .ok none r := rfl
@[simp] theorem pSome_ap (m : M D) (r : En) : pSome m r = (m r).bind fun d r => M.opt (match d with
  | .int i => some (some i)
  | _ => none) r := rfl
@[simp] theorem eSl_ap (m : M D) (l u : M (Option Int)) (r : En) : eSl m l u r = (m r).bind fun d r => (l r).bind fun a r => (u r).bind fun b r => M.opt (slD d a b) r := rfl
@[simp] theorem slD_l (ds : List D) (a b : Option Int) : slD (.list ds) a b = some (.list (cutL ds a b)) := rfl
@[simp] theorem slD_t (ds : List D) (a b : Option Int) : slD (.tuple ds) a b = some (.tuple (cutL ds a b)) := rfl
@[simp] theorem revD_l (ds : List D) : revD (.list ds) = some (.list ds.reverse) := rfl
@[simp] theorem revD_t (ds : List D) : revD (.tuple ds) = some (.tuple ds.reverse) := rfl
@[simp] theorem sAppend_ap (i : Nat) (m : M D) (r : En) : sAppend i m r = (match getC i r with
  | some (.l _) => (m r).bind fun d r => (match getC i r with
    | some (.l ds) => if ds.length < 16777216 then .ok .nx (putC i (.l (ds ++ [d])) r) else .no
    | _ => .no)
  | _ => .no) := rfl
@[simp] theorem sExtend_ap (i : Nat) (m : M RV) (r : En) : sExtend i m r = (match getC i r with
  | some (.l _) => (m r).bind fun rv r => (match rv, getC i r with
    | .o (.l es), some (.l ds) => if ds.length + es.length ≤ 16777216 then .ok .nx (putC i (.l (ds ++ es)) r) else .no
    | _, _ => .no)
  | _ => .no) := rfl
@[simp] theorem getC_ap (i : Nat) (r : En) : getC i r = (r[i]?).bind Sl.own := rfl
@[simp] theorem putC_ap (i : Nat) (ct : Ct) (r : En) : putC i ct r = (match r[i]? with
  | some s => r.set i (s.put ct)
  | none => r) := rfl
@[simp] theorem own_o (c : Ct) : Sl.own (.o c) = some c := rfl
@[simp] theorem own_io (c : Ct) : Sl.own (.io c) = some c := rfl
@[simp] theorem own_v (d : D) : Sl.own (.v d) = none := rfl
@[simp] theorem own_unk : Sl.own .unk = none := rfl
@[simp] theorem put_o (c c' : Ct) : Sl.put c (.o c') = .o c := rfl
@[simp] theorem put_io (c c' : Ct) : Sl.put c (.io c') = .io c := rfl
@[simp] theorem eIxS_ap (i : Nat) (mk : M D) (r : En) : eIxS i mk r = (match getC i r with
  | some (.l _) => (mk r).bind fun k r => (match getC i r with
    | some (.l ds) => M.opt (ixL ds k) r
    | _ => .no)
  | some (.d _) => (mk r).bind fun k r => (match getC i r with
    | some (.d kvs) => M.opt ((keyD k).bind (vK kvs)) r
    | _ => .no)
  | some (.t _) => .no
  | some (.n _) => .no
  | none => bin ixD (getS i) mk r) := rfl
@[simp] theorem sPut_ap (i : Nat) (mk m : M D) (r : En) : sPut' i mk m r = (m r).bind fun d r => (match getC i r with
  | none => .no
  | some _ => (mk r).bind fun k r => (match getC i r with
    | some (.l ds) => (match k with
      | .int n => (match ixN ds.length n with
        | some j => .ok .nx (putC i (.l (ds.set j d)) r)
        | none => .no)
      | _ => .no)
    | some (.d kvs) => (match keyD k with
      | some y => if kvs.length < 16777216 then .ok .nx (putC i (.d (pK kvs y d)) r) else .no
      | none => .no)
    | some (.t kvs) => (match tkeyD k with
      | some y => if kvs.length < 16777216 then .ok .nx (putC i (.t (pK kvs y d)) r) else .no
      | none => .no)
    | some (.n _) => .no
    | none => .no)) := rfl
@[simp] theorem ixL_ap (ds : List D) (n : Int) : ixL ds (.int n) = atI ds n := rfl
@[simp] theorem ixD_l (ds : List D) (k : D) : ixD (.list ds) k = ixL ds k := rfl
@[simp] theorem ixD_t (ds : List D) (k : D) : ixD (.tuple ds) k = ixL ds k := rfl
@[simp] theorem lenD_l (ds : List D) : lenD (.list ds) = some (.int (ds.length : Nat)) := rfl
@[simp] theorem lenD_t (ds : List D) : lenD (.tuple ds) = some (.int (ds.length : Nat)) := rfl
@[simp] theorem one_ap (g : D → Option D) (d : D) : one g [d] = g d := rfl
@[simp] theorem two_ap (g : D → D → Option D) (d e : D) : two g [d, e] = g d e := rfl
@[simp] theorem eLenS_ap (i : Nat) (r : En) : eLenS i r = (match getC i r with
  | some (.l ds) => .ok (.int (ds.length : Nat)) r
  | some (.d kvs) => .ok (.int (kvs.length : Nat)) r
  | some (.t _) => .no
  | some (.n _) => .no
  | none => nry (one lenD) (aCons (getS i) aNil) r) := rfl
@[simp] theorem addD_i (i j : Int) : addD (.int i) (.int j) = some (.int (i + j)) := rfl
@[simp] theorem addD_l (xs ys : List D) : addD (.list xs) (.list ys) = szC (xs.length + ys.length) (.list (xs ++ ys)) := rfl
@[simp] theorem addD_t (xs ys : List D) : addD (.tuple xs) (.tuple ys) = szC (xs.length + ys.length) (.tuple (xs ++ ys)) := rfl
@[simp] theorem subD_i (i j : Int) : subD (.int i) (.int j) = some (.int (i - j)) := rfl
theorem mulD_iff (i j : Int) (d : D) : (mulD (.int i) (.int j) = some d) = (mulOk i j ∧ .int (i * j) = d) := by
  show (cI (mulOk i j) (some (PyData.int (i * j))) none = some d) = _
  rw [cI_eq]
  exact ite_some _ _ _
theorem fdivD_iff (i j : Int) (d : D) : (fdivD (.int i) (.int j) = some d) = ((j ≠ 0 ∧ j.natAbs.log2 < 9000) ∧ .int (i.fdiv j) = d) := by
  show (cI (j ≠ 0 ∧ j.natAbs.log2 < 9000) (some (PyData.int (i.fdiv j))) none = some d) = _
  rw [cI_eq]
  exact ite_some _ _ _
theorem modD_iff (i j : Int) (d : D) : (modD (.int i) (.int j) = some d) = (j ≠ 0 ∧ .int (i.fmod j) = d) := by
  show (cI (j ≠ 0) (some (PyData.int (i.fmod j))) none = some d) = _
  rw [cI_eq]
  exact ite_some _ _ _
theorem powD_iff (i j : Int) (d : D) : (powD (.int i) (.int j) = some d) = ((0 ≤ j ∧ j ≤ 1000000 ∧ i.natAbs < 2 ^ 64) ∧ .int (i ^ j.toNat) = d) := by
  show (cI (0 ≤ j ∧ j ≤ 1000000 ∧ i.natAbs < 2 ^ 64) (some (PyData.int (i ^ j.toNat))) none = some d) = _
  rw [cI_eq]
  exact ite_some _ _ _
@[simp] theorem negD_i (i : Int) : negD (.int i) = some (.int (-i)) := rfl
@[simp] theorem ltD_i (i j : Int) : ltD (.int i) (.int j) = some (.bool (decide (i < j))) := congrArg (fun b => some (PyData.bool b)) (cd_eq _)
@[simp] theorem leD_i (i j : Int) : leD (.int i) (.int j) = some (.bool (decide (i ≤ j))) := congrArg (fun b => some (PyData.bool b)) (cd_eq _)
@[simp] theorem gtD_i (i j : Int) : gtD (.int i) (.int j) = some (.bool (decide (j < i))) := congrArg (fun b => some (PyData.bool b)) (cd_eq _)
@[simp] theorem geD_i (i j : Int) : geD (.int i) (.int j) = some (.bool (decide (j ≤ i))) := congrArg (fun b => some (PyData.bool b)) (cd_eq _)
@[simp] theorem eqD_i (i j : Int) : eqD (.int i) (.int j) = some (.bool (decide (i = j))) := by
  show some (PyData.bool (i == j)) = _
  congr 2
@[simp] theorem neD_i (i j : Int) : neD (.int i) (.int j) = some (.bool (!decide (i = j))) := by
  show some (PyData.bool (!(i == j))) = _
  congr 2
@[simp] theorem eqD_s (i j : Str) : eqD (.str i) (.str j) = some (.bool (decide (i = j))) := rfl
@[simp] theorem neD_s (i j : Str) : neD (.str i) (.str j) = some (.bool (!decide (i = j))) := rfl
theorem eqD_ll {xs ys : List D} (h1 : SeqAt.shaped (.list xs) = true) (h2 : SeqAt.shaped (.list ys) = true) : eqD (.list xs) (.list ys) = some (.bool (PyData.eqvAll xs ys)) := if_pos ⟨h1, h2⟩
theorem neD_ll {xs ys : List D} (h1 : SeqAt.shaped (.list xs) = true) (h2 : SeqAt.shaped (.list ys) = true) : neD (.list xs) (.list ys) = some (.bool (!PyData.eqvAll xs ys)) := if_pos ⟨h1, h2⟩
theorem eqD_tt {xs ys : List D} (h1 : SeqAt.shaped (.tuple xs) = true) (h2 : SeqAt.shaped (.tuple ys) = true) : eqD (.tuple xs) (.tuple ys) = some (.bool (PyData.eqvAll xs ys)) := if_pos ⟨h1, h2⟩
theorem neD_tt {xs ys : List D} (h1 : SeqAt.shaped (.tuple xs) = true) (h2 : SeqAt.shaped (.tuple ys) = true) : neD (.tuple xs) (.tuple ys) = some (.bool (!PyData.eqvAll xs ys)) := if_pos ⟨h1, h2⟩
/-! plain data: whole numbers, yes and no, None, rows of such -/
mutual
def pln : D → Bool
  | .none => true
  | .bool _ => true
  | .int i => decide (i.natAbs < 2 ^ 1900)
  | .str x => (PyData.str x).showable && ((PyData.str x).canLay0 && (PyData.str x).leavesShort 1901)
  | .list xs => plnAll xs
  | .tuple xs => plnAll xs
  | .dict _ => false
def plnAll : List D → Bool
  | [] => true
  | x :: xs => pln x && plnAll xs
end
theorem int_len {i : Int} (h : i.natAbs < 2 ^ 1900) : (PyData.shown (.int i)).length ≤ 1901 := by
  show (Str.ofString (toString i)).length ≤ 1901
  rw [ofString_length]
  exact int_text_length_le (k := 1900) (by decide) (PySem.Flt.log2_lt_of (by decide) h)
mutual
theorem pln_ok : ∀ d : D, pln d = true → d.showable = true ∧ d.canLay0 = true ∧ d.leavesShort 1901 = true
  | .none, _ => ⟨rfl, rfl, rfl⟩
  | .bool _, _ => ⟨rfl, rfl, rfl⟩
  | .int i, h => by
    have h : i.natAbs < 2 ^ 1900 := of_decide_eq_true h
    refine ⟨?_, rfl, ?_⟩
    · exact decide_eq_true (by
        have : i.natAbs.log2 < 1900 := PySem.Flt.log2_lt_of (by decide) h
        omega)
    · exact decide_eq_true (int_len h)
  | .str x, h => by
    have h : ((PyData.str x).showable && ((PyData.str x).canLay0 && (PyData.str x).leavesShort 1901)) = true := h -- pln_str
    rw [Bool.and_eq_true, Bool.and_eq_true] at h
    exact ⟨h.1, h.2.1, h.2.2⟩
  | .list xs, h => plnAll_ok xs h
  | .tuple xs, h => plnAll_ok xs h
  | .dict _, h => by cases h
theorem plnAll_ok : ∀ xs : List D, plnAll xs = true → PyData.showableAll xs = true ∧ PyData.canLayAll0 xs = true ∧ PyData.leavesShortAll 1901 xs = true
  | [], _ => ⟨rfl, rfl, rfl⟩
  | x :: xs, h => by
    have h : (pln x && plnAll xs) = true := h
    obtain ⟨h1, h2⟩ := Bool.and_eq_true_iff.mp h
    obtain ⟨a1, a2, a3⟩ := pln_ok x h1
    obtain ⟨b1, b2, b3⟩ := plnAll_ok xs h2
    exact ⟨Bool.and_eq_true_iff.mpr ⟨a1, b1⟩, Bool.and_eq_true_iff.mpr ⟨a2, b2⟩, Bool.and_eq_true_iff.mpr ⟨a3, b3⟩⟩
end
theorem pln_shaped {d : D} (h : pln d = true) (hd : d.depth ≤ 64) : SeqAt.shaped d = true := Bool.and_eq_true_iff.mpr ⟨(pln_ok d h).2.1, decide_eq_true hd⟩
theorem plnAll_map {γ : Type} (f : γ → D) : ∀ xs : List γ, (∀ x ∈ xs, pln (f x) = true) → plnAll (xs.map f) = true
  | [], _ => rfl
  | x :: xs, h => Bool.and_eq_true_iff.mpr ⟨h x (List.mem_cons_self ..), plnAll_map f xs fun y hy => h y (List.mem_cons_of_mem _ hy)⟩
theorem depthAll_map {γ : Type} (f : γ → D) (k : Nat) : ∀ xs : List γ, (∀ x ∈ xs, (f x).depth ≤ k) → PyData.depthAll (xs.map f) ≤ k
  | [], _ => Nat.zero_le _
  | x :: xs, h => by
    have h1 := h x (List.mem_cons_self ..)
    have h2 := depthAll_map f k xs fun y hy => h y (List.mem_cons_of_mem _ hy)
    simp only [List.map_cons, PyData.depthAll]
    omega
theorem bulkAll_map {γ : Type} (f : γ → D) (k : Nat) : ∀ xs : List γ, (∀ x ∈ xs, (f x).bulk ≤ k) → PyData.bulkAll (xs.map f) ≤ (k + 1) * xs.length
  | [], _ => Nat.zero_le _
  | x :: xs, h => by
    have h1 := h x (List.mem_cons_self ..)
    have h2 := bulkAll_map f k xs fun y hy => h y (List.mem_cons_of_mem _ hy)
    simp only [List.map_cons, PyData.bulkAll, List.length_cons, Nat.mul_add, Nat.mul_one]
    omega
theorem lay_ints : ∀ xs : List Int, PyData.canLayAll0 (xs.map .int) = true
  | [] => rfl
  | _ :: xs => lay_ints xs
theorem shaped_t (xs : List Int) : SeqAt.shaped (.tuple (xs.map .int)) = true := Bool.and_eq_true_iff.mpr ⟨lay_ints xs, decide_eq_true (by
  have := depthAll_map PyData.int 1 xs fun x _ => by simp [PyData.depth]
  simp only [PyData.depth]
  omega)⟩
theorem shaped_l (xs : List Int) : SeqAt.shaped (.list (xs.map .int)) = true := Bool.and_eq_true_iff.mpr ⟨lay_ints xs, decide_eq_true (by
  have := depthAll_map PyData.int 1 xs fun x _ => by simp [PyData.depth]
  simp only [PyData.depth]
  omega)⟩
theorem eqv_ints : ∀ xs ys : List Int, PyData.eqvAll (xs.map .int) (ys.map .int) = decide (xs = ys)
  | [], [] => rfl
  | [], _ :: _ => rfl
  | _ :: _, [] => rfl
  | x :: xs, y :: ys => by
    show ((x == y) && PyData.eqvAll (xs.map .int) (ys.map .int)) = _
    rw [eqv_ints xs ys]
    by_cases h1 : x = y
    · by_cases h2 : xs = ys
      · simp [h1, h2]
      · simp [h1, h2]
    · simp [h1]
@[simp] theorem eqD_T (xs ys : List Int) : eqD (.tuple (xs.map .int)) (.tuple (ys.map .int)) = some (.bool (decide (xs = ys))) := by
  rw [eqD_tt (shaped_t _) (shaped_t _), eqv_ints]
@[simp] theorem neD_T (xs ys : List Int) : neD (.tuple (xs.map .int)) (.tuple (ys.map .int)) = some (.bool (!decide (xs = ys))) := by
  rw [neD_tt (shaped_t _) (shaped_t _), eqv_ints]
@[simp] theorem eqD_L (xs ys : List Int) : eqD (.list (xs.map .int)) (.list (ys.map .int)) = some (.bool (decide (xs = ys))) := by
  rw [eqD_ll (shaped_l _) (shaped_l _), eqv_ints]
@[simp] theorem neD_L (xs ys : List Int) : neD (.list (xs.map .int)) (.list (ys.map .int)) = some (.bool (!decide (xs = ys))) := by
  rw [neD_ll (shaped_l _) (shaped_l _), eqv_ints]
@[simp] theorem neD_b (i j : Bool) : neD (.bool i) (.bool j) = some (.bool (!decide (i = j))) := by
  show some (PyData.bool (!(i == j))) = _
  congr 2
@[simp] theorem eqD_b (i j : Bool) : eqD (.bool i) (.bool j) = some (.bool (decide (i = j))) := by
  show some (PyData.bool (i == j)) = _
  congr 2
@[simp] theorem tru_b (b : Bool) : tru (.bool b) = some b := rfl
@[simp] theorem tru_i (i : Int) : tru (.int i) = some (i != 0) := rfl
@[simp] theorem tru_l (ds : List D) : tru (.list ds) = some (!ds.isEmpty) := rfl
@[simp] theorem tru_t (ds : List D) : tru (.tuple ds) = some (!ds.isEmpty) := rfl
@[simp] theorem absD_i (i : Int) : absD (.int i) = some (.int (if i < 0 then -i else i)) := rfl
@[simp] theorem tupD_l (ds : List D) : tupD (.list ds) = some (.tuple ds) := rfl
@[simp] theorem tupD_t (ds : List D) : tupD (.tuple ds) = some (.tuple ds) := rfl
@[simp] theorem isi_ii (i : Int) : isiD "int" (.int i) = some (.bool true) := by kernel_rfl
@[simp] theorem isi_ib (i : Int) : isiD "bool" (.int i) = some (.bool false) := by kernel_rfl
@[simp] theorem isi_it (i : Int) : isiD "tuple" (.int i) = some (.bool false) := by kernel_rfl
@[simp] theorem isi_tt (ds : List D) : isiD "tuple" (.tuple ds) = some (.bool true) := by kernel_rfl
@[simp] theorem isi_ll (ds : List D) : isiD "list" (.list ds) = some (.bool true) := by kernel_rfl
@[simp] theorem eqS_ap (i : Nat) (mb : M D) (r : En) : eqS i mb r = (match getC i r with
  | some (.l _) => (mb r).bind fun d r => (match getC i r with
    | some (.l ds) => M.opt (eqD0 (.list ds) d) r
    | _ => .no)
  | some (.d _) => .no
  | some (.t _) => .no
  | some (.n _) => .no
  | none => bin eqD (getS i) mb r) := rfl
@[simp] theorem neS_ap (i : Nat) (mb : M D) (r : En) : neS i mb r = (match getC i r with
  | some (.l _) => (mb r).bind fun d r => (match getC i r with
    | some (.l ds) => M.opt (neD (.list ds) d) r
    | _ => .no)
  | some (.d _) => .no
  | some (.t _) => .no
  | some (.n _) => .no
  | none => bin neD (getS i) mb r) := rfl
@[simp] theorem cCall0_ap (f : List Sl → Re RV) (r : En) : cCall0 f r = cCall f aNil r := rfl
@[simp] theorem binO_ap (g : D → D → Option RV) (a b : M D) (r : En) : binO g a b r = (a r).bind fun x r => (b r).bind fun y r => M.opt (g x y) r := rfl
@[simp] theorem addO_l (xs ys : List D) : addO (.list xs) (.list ys) = szC (xs.length + ys.length) (.o (.l (xs ++ ys))) := rfl
@[simp] theorem addO_t (xs ys : List D) : addO (.tuple xs) (.tuple ys) = (szC (xs.length + ys.length) (PyData.tuple (xs ++ ys))).map .v := rfl
@[simp] theorem listD_t (xs : List D) : listD [.tuple xs] = some xs := rfl
@[simp] theorem listD_l (xs : List D) : listD [.list xs] = some xs := rfl
@[simp] theorem addO_i (i j : Int) : addO (.int i) (.int j) = some (.v (.int (i + j))) := rfl
@[simp] theorem mulO_iff (xs : List D) (k : Int) (d : RV) : (mulO (.list xs) (.int k) = some d) = (((-(2 ^ 63) ≤ k ∧ k < 2 ^ 63) ∧ xs.length * k.toNat ≤ 16777216) ∧ .o (.l (List.replicate k.toNat xs).flatten) = d) := by
  show (cI ((-(2 ^ 63) ≤ k ∧ k < 2 ^ 63) ∧ xs.length * k.toNat ≤ 16777216) (some (RV.o (.l (List.replicate k.toNat xs).flatten))) none = some d) = _
  rw [cI_eq]
  exact ite_some _ _ _
@[simp] theorem sAppX_ap (m : M RV) (r : En) : sAppX m r = (m r).bind fun rv r => (match rv with
  | .o (.l ds) => if ds.length < 16777216 then .ok .nx r else .no
  | _ => .no) := by
  show (m r).bind _ = _
  congr 1
  funext rv r
  rcases rv with d | ct
  · rfl
  · cases ct with
    | l ds =>
      simp only
      split <;> rfl
    | d kvs => rfl
    | t kvs => rfl
    | n t => rfl
/-! an answer with a condition -/
@[simp] theorem qo_szM {γ : Type} (n : Nat) (a : γ) (f : γ → α) (r : En) : Po X (M.opt ((szC n a).map f) r) k = (n ≤ 16777216 ∧ k (f a) r) := by
  unfold szC
  by_cases h : n ≤ 16777216
  · rw [if_pos h]
    simp [h]
  · rw [if_neg h]
    simp [h]
@[simp] theorem qo_szC (n : Nat) (a : α) (r : En) : Po X (M.opt (szC n a) r) k = (n ≤ 16777216 ∧ k a r) := by
  rw [qo_opt]
  simp only [szC_iff]
  exact propext ⟨fun ⟨_, ⟨h, e⟩, q⟩ => ⟨h, by rw [e]; exact q⟩, fun ⟨h, q⟩ => ⟨a, ⟨h, rfl⟩, q⟩⟩
section
variable {kd : D → En → Prop} {kl : List D → En → Prop}
@[simp] theorem qo_rng1 (j : Int) (r : En) : Po X (M.opt (rng1 [.int j]) r) kl = ((-(2 ^ 62) ≤ j ∧ j < 2 ^ 62) ∧ kl (rngD 0 j.toNat) r) := by
  rw [qo_opt]
  simp only [rng1_iff]
  exact propext ⟨fun ⟨_, ⟨h, e⟩, q⟩ => ⟨h, by rw [e]; exact q⟩, fun ⟨h, q⟩ => ⟨_, ⟨h, rfl⟩, q⟩⟩
@[simp] theorem qo_rng2 (i j : Int) (r : En) : Po X (M.opt (rng2 [.int i, .int j]) r) kl = (((-(2 ^ 62) ≤ i ∧ i < 2 ^ 62) ∧ (-(2 ^ 62) ≤ j ∧ j < 2 ^ 62)) ∧ kl (rngD i (j - i).toNat) r) := by
  rw [qo_opt]
  simp only [rng2_iff]
  exact propext ⟨fun ⟨_, ⟨h, e⟩, q⟩ => ⟨h, by rw [e]; exact q⟩, fun ⟨h, q⟩ => ⟨_, ⟨h, rfl⟩, q⟩⟩
@[simp] theorem qo_mul (i j : Int) (r : En) : Po X (M.opt (mulD (.int i) (.int j)) r) kd = (mulOk i j ∧ kd (.int (i * j)) r) := by
  rw [qo_opt]
  simp only [mulD_iff]
  exact propext ⟨fun ⟨_, ⟨h, e⟩, q⟩ => ⟨h, by rw [e]; exact q⟩, fun ⟨h, q⟩ => ⟨_, ⟨h, rfl⟩, q⟩⟩
@[simp] theorem qo_fdiv (i j : Int) (r : En) : Po X (M.opt (fdivD (.int i) (.int j)) r) kd = ((j ≠ 0 ∧ j.natAbs.log2 < 9000) ∧ kd (.int (i.fdiv j)) r) := by
  rw [qo_opt]
  simp only [fdivD_iff]
  exact propext ⟨fun ⟨_, ⟨h, e⟩, q⟩ => ⟨h, by rw [e]; exact q⟩, fun ⟨h, q⟩ => ⟨_, ⟨h, rfl⟩, q⟩⟩
@[simp] theorem qo_mod (i j : Int) (r : En) : Po X (M.opt (modD (.int i) (.int j)) r) kd = (j ≠ 0 ∧ kd (.int (i.fmod j)) r) := by
  rw [qo_opt]
  simp only [modD_iff]
  exact propext ⟨fun ⟨_, ⟨h, e⟩, q⟩ => ⟨h, by rw [e]; exact q⟩, fun ⟨h, q⟩ => ⟨_, ⟨h, rfl⟩, q⟩⟩
@[simp] theorem qo_pow (i j : Int) (r : En) : Po X (M.opt (powD (.int i) (.int j)) r) kd = ((0 ≤ j ∧ j ≤ 1000000 ∧ i.natAbs < 2 ^ 64) ∧ kd (.int (i ^ j.toNat)) r) := by
  rw [qo_opt]
  simp only [powD_iff]
  exact propext ⟨fun ⟨_, ⟨h, e⟩, q⟩ => ⟨h, by rw [e]; exact q⟩, fun ⟨h, q⟩ => ⟨_, ⟨h, rfl⟩, q⟩⟩
@[simp] theorem qo_mulO {kr : RV → En → Prop} (xs : List D) (j : Int) (r : En) : Po X (M.opt (mulO (.list xs) (.int j)) r) kr = (((-(2 ^ 63) ≤ j ∧ j < 2 ^ 63) ∧ xs.length * j.toNat ≤ 16777216) ∧ kr (.o (.l (List.replicate j.toNat xs).flatten)) r) := by
  rw [qo_opt]
  simp only [mulO_iff]
  exact propext ⟨fun ⟨_, ⟨h, e⟩, q⟩ => ⟨h, by rw [e]; exact q⟩, fun ⟨h, q⟩ => ⟨_, ⟨h, rfl⟩, q⟩⟩
@[simp] theorem qo_mulL (xs : List D) (k : Int) (r : En) : Po X (M.opt (mulD (.list xs) (.int k)) r) kd = (((-(2 ^ 63) ≤ k ∧ k < 2 ^ 63) ∧ xs.length * k.toNat ≤ 16777216) ∧ kd (.list (List.replicate k.toNat xs).flatten) r) := by
  rw [qo_opt]
  show (∃ a, cI ((-(2 ^ 63) ≤ k ∧ k < 2 ^ 63) ∧ xs.length * k.toNat ≤ 16777216) (some (PyData.list (List.replicate k.toNat xs).flatten)) none = some a ∧ kd a r) = _
  rw [cI_eq]
  simp only [ite_some]
  exact propext ⟨fun ⟨_, ⟨h, e⟩, q⟩ => ⟨h, by rw [e]; exact q⟩, fun ⟨h, q⟩ => ⟨_, ⟨h, rfl⟩, q⟩⟩
@[simp] theorem qo_mulT (xs : List D) (k : Int) (r : En) : Po X (M.opt (mulD (.tuple xs) (.int k)) r) kd = ((-1000 ≤ k ∧ k ≤ 1000 ∧ xs.length ≤ 1000) ∧ kd (.tuple (List.replicate k.toNat xs).flatten) r) := by
  rw [qo_opt]
  show (∃ a, cI (-1000 ≤ k ∧ k ≤ 1000 ∧ xs.length ≤ 1000) (some (PyData.tuple (List.replicate k.toNat xs).flatten)) none = some a ∧ kd a r) = _
  rw [cI_eq]
  simp only [ite_some]
  exact propext ⟨fun ⟨_, ⟨h, e⟩, q⟩ => ⟨h, by rw [e]; exact q⟩, fun ⟨h, q⟩ => ⟨_, ⟨h, rfl⟩, q⟩⟩
@[simp] theorem qo_at (xs : List D) (n : Int) (r : En) : Po X (M.opt (atI xs n) r) kd = ∃ d, atI xs n = some d ∧ kd d r := qo_opt _ _
@[simp] theorem atI_nat {α : Type} (xs : List α) (i : Nat) : atI xs (i : Int) = xs[i]? := by
  unfold atI ixN
  rw [if_pos (by omega)]
  by_cases h : i < xs.length
  · rw [if_pos (by omega)]
    simp
  · rw [if_neg (by omega), List.getElem?_eq_none (by omega)]
    rfl
theorem atI_map {α β : Type} (f : α → β) (xs : List α) (n : Int) : atI (xs.map f) n = (atI xs n).map f := by
  unfold atI
  rw [List.length_map]
  cases ixN xs.length n with
  | none => rfl
  | some j => simp
@[simp high] theorem qo_atI (xs : List Int) (n : Int) (r : En) : Po X (M.opt (atI (xs.map .int) n) r) kd = ∃ c, atI xs n = some c ∧ kd (.int c) r := by
  rw [qo_opt, atI_map]
  cases atI xs n with
  | none => simp
  | some c => simp
end
/-! calls -/
@[simp] theorem qo_call {kk : RV → En → Prop} (f : List Sl → Re RV) (ms : M (List D)) (r : En) : Po X (cCall f ms r) kk = Po X (ms r) fun ds r => Po (fun e _ => X e r) (f (ds.map .v)) fun rv _ => kk rv r := by
  show Po X ((ms r).bind _) kk = _
  rw [qo_bind]
  congr 1
  funext ds r
  cases f (ds.map .v) <;> rfl
def InIo (P : Ct → Prop) : List Sl → Prop
  | .io c :: _ => P c
  | _ => False
@[simp] theorem inIo (P : Ct → Prop) (c : Ct) (t : List Sl) : InIo P (.io c :: t) = P c := rfl
@[simp] theorem qo_callI {kk : RV → En → Prop} (f : List Sl → Re RV) (ms : M (List D)) (i : Nat) (r : En) : Po X (cCallI i f ms r) kk = (match getC i r with
  | none => False
  | some _ => Po X (ms r) fun ds r1 => (match getC i r1 with
    | none => False
    | some ct => Po (fun e z => InIo (fun c => X e (putC i c r1)) z) (f (.io ct :: ds.map .v)) fun rv z => InIo (fun c => kk rv (putC i c r1)) z)) := by
  unfold cCallI
  cases getC i r with
  | none => rfl
  | some c0 =>
    show Po X ((ms r).bind _) kk = _
    rw [qo_bind]
    simp only
    congr 1
    funext ds r1
    cases getC i r1 with
    | none => rfl
    | some ct =>
      simp only
      cases f (.io ct :: ds.map .v) with
      | no => rfl
      | ok rv z => rcases z with _ | ⟨q, z⟩ <;> first | rfl | (cases q <;> rfl)
      | ex rv z => rcases z with _ | ⟨q, z⟩ <;> first | rfl | (cases q <;> rfl)
theorem qo_fn {kk : RV → List Sl → Prop} {n : Nat} {m : M Fl} {rs : List Sl} (h : Po (fun e r => ∃ z, backA rs r = some z ∧ X e z) (m (rs ++ List.replicate (n - rs.length) .unk)) fun fl r => ∃ rv z, backA rs r = some z ∧ (fl = .rt rv ∨ (fl = .nx ∧ rv = .v .none)) ∧ kk rv z) : Po X (fnOf n m rs) kk := by
  unfold fnOf backR flRv
  cases hm : m (rs ++ List.replicate (n - rs.length) .unk) with
  | ok fl r =>
    rw [hm] at h
    obtain ⟨rv, z, hz, hfl, hk⟩ := h
    rcases hfl with rfl | ⟨rfl, rfl⟩
    · simp only [hz]
      exact hk
    · simp only [hz]
      exact hk
  | ex e r =>
    rw [hm] at h
    obtain ⟨z, hz, hk⟩ := h
    simp only [hz]
    exact hk
  | no =>
    rw [hm] at h
    exact h.elim
@[simp] theorem backA_nil (r : En) : backA [] r = some [] := rfl
@[simp] theorem backA_io (c c' : Ct) (s : List Sl) (r : En) : backA (.io c :: s) (.io c' :: r) = (backA s r).map fun z => .io c' :: z := rfl
@[simp] theorem backA_v (d : D) (s : List Sl) (q : Sl) (r : En) : backA (.v d :: s) (q :: r) = (backA s r).map fun z => .v d :: z := rfl
/-! loops -/
theorem qo_for {kk : Fl → En → Prop} {tg : Tg} {b : M Fl} (I : List D → List D → En → Prop) : ∀ (xs done : List D) (r : En), I done xs r →
    (∀ done x xs r, I done (x :: xs) r → ∃ r1, tg x r = some r1 ∧ Po X (b r1) fun fl r2 => (match fl with
      | .nx => I (done ++ [x]) xs r2
      | .ct => I (done ++ [x]) xs r2
      | .bk => kk .nx r2
      | .rt v => kk (.rt v) r2)) → (∀ done r, I done [] r → kk .nx r) → Po X (forL tg b xs r) kk
  | [], done, r, h0, hs, he => he done r h0
  | x :: xs, done, r, h0, hs, he => by
    obtain ⟨r1, h1, h2⟩ := hs done x xs r h0
    unfold forL
    rw [h1]
    simp only
    cases hb : b r1 with
    | no =>
      rw [hb] at h2
      exact h2.elim
    | ex e r2 =>
      rw [hb] at h2
      exact h2
    | ok fl r2 =>
      rw [hb] at h2
      cases fl with
      | nx => exact qo_for I xs (done ++ [x]) r2 h2 hs he
      | ct => exact qo_for I xs (done ++ [x]) r2 h2 hs he
      | bk => exact h2
      | rt v => exact h2
/-- over a list of things told as data -/
theorem qo_forM {γ : Type} {kk : Fl → En → Prop} {tg : Tg} {b : M Fl} {f : γ → D} (I : List γ → En → Prop) (xs : List γ) (r : En) (h0 : I [] r)
    (hs : ∀ done x rest r, xs = done ++ x :: rest → I done r → ∃ r1, tg (f x) r = some r1 ∧ Po X (b r1) fun fl r2 => (match fl with
      | .nx => I (done ++ [x]) r2
      | .ct => I (done ++ [x]) r2
      | .bk => kk .nx r2
      | .rt v => kk (.rt v) r2)) (he : ∀ r, I xs r → kk .nx r) : Po X (forL tg b (xs.map f) r) kk := by
  refine qo_for (fun d1 rest r => ∃ done xs2, xs = done ++ xs2 ∧ rest = xs2.map f ∧ I done r) _ [] r ⟨[], xs, rfl, rfl, h0⟩ ?_ ?_
  · rintro d1 x rest r ⟨done, xs2, e1, e2, hI⟩
    cases xs2 with
    | nil => cases e2
    | cons y ys =>
      cases e2
      obtain ⟨r1, h1, h2⟩ := hs done y ys r e1 hI
      refine ⟨r1, h1, qo_mono h2 fun fl r2 q => ?_⟩
      have e3 : xs = (done ++ [y]) ++ ys := by rw [e1]; simp
      cases fl with
      | nx => exact ⟨_, ys, e3, rfl, q⟩
      | ct => exact ⟨_, ys, e3, rfl, q⟩
      | bk => exact q
      | rt v => exact q
  · rintro d1 r ⟨done, xs2, e1, e2, hI⟩
    cases xs2 with
    | nil =>
      rw [List.append_nil] at e1
      subst e1
      exact he r hI
    | cons y ys => cases e2
/-- range(n): the invariant by the number of turns -/
theorem qo_rng {kk : Fl → En → Prop} {tg : Tg} {b : M Fl} {lo : Int} (I : Nat → En → Prop) (n : Nat) (r : En) (h0 : I 0 r)
    (hs : ∀ i r, i < n → I i r → ∃ r1, tg (.int (lo + (i : Nat))) r = some r1 ∧ Po X (b r1) fun fl r2 => (match fl with
      | .nx => I (i + 1) r2
      | .ct => I (i + 1) r2
      | .bk => kk .nx r2
      | .rt v => kk (.rt v) r2)) (he : ∀ r, I n r → kk .nx r) : Po X (forL tg b (rngD lo n) r) kk := by
  refine qo_forM (f := fun k : Nat => PyData.int (lo + (k : Nat))) (fun done r => I done.length r) (List.range n) r h0 ?_ ?_
  · intro done x rest r e hI
    have hl : (List.range n).length = (done ++ x :: rest).length := by rw [e]
    rw [List.length_range, List.length_append, List.length_cons] at hl
    have hx : x = done.length := by
      have h1 : (List.range n)[done.length]? = some x := by rw [e]; simp
      rw [List.getElem?_range (by omega)] at h1
      cases h1
      rfl
    subst hx
    obtain ⟨r1, h1, h2⟩ := hs done.length r (by omega) hI
    refine ⟨r1, h1, qo_mono h2 fun fl r2 q => ?_⟩
    rw [List.length_append, List.length_singleton]
    exact q
  · intro r h
    rw [List.length_range] at h
    exact he r h
@[simp] theorem sFor_ap (src : M (List D)) (tg : Tg) (b : M Fl) (r : En) : sFor src tg b r = (src r).bind fun xs r => forL tg b xs r := rfl
theorem qo_while {kk : Fl → En → Prop} {t : M Bool} {b : M Fl} (I : Nat → En → Prop)
    (hs : ∀ n r, I n r → Po X (t r) fun x r1 => if x = true then Po X (b r1) fun fl r2 => (match fl with
      | .nx => ∃ m, m < n ∧ I m r2
      | .ct => ∃ m, m < n ∧ I m r2
      | .bk => kk .nx r2
      | .rt v => kk (.rt v) r2) else kk .nx r1) (n : Nat) (r : En) (h0 : I n r) : Po X (sWhile t b r) kk := by
  have key : ∀ n r, I n r → ∃ f, Po X (wloop t b f r) kk := by
    intro n
    induction n using Nat.strongRecOn with
    | ind n ih =>
      intro r h
      have h1 := hs n r h
      cases ht : t r with
      | no =>
        rw [ht] at h1
        exact h1.elim
      | ex e r1 =>
        rw [ht] at h1
        refine ⟨1, ?_⟩
        unfold wloop
        rw [ht]
        exact h1
      | ok x r1 =>
        rw [ht] at h1
        cases x with
        | false =>
          refine ⟨1, ?_⟩
          unfold wloop
          rw [ht]
          exact h1
        | true =>
          have h2 : Po X (b r1) fun fl r2 => (match fl with
            | .nx => ∃ m, m < n ∧ I m r2
            | .ct => ∃ m, m < n ∧ I m r2
            | .bk => kk .nx r2
            | .rt v => kk (.rt v) r2) := h1
          cases hb : b r1 with
          | no =>
            rw [hb] at h2
            exact h2.elim
          | ex e r2 =>
            rw [hb] at h2
            refine ⟨1, ?_⟩
            unfold wloop
            rw [ht]
            simp only [hb]
            exact h2
          | ok fl r2 =>
            rw [hb] at h2
            cases fl with
            | nx =>
              obtain ⟨m, hm, h3⟩ := h2
              obtain ⟨f, hf⟩ := ih m hm r2 h3
              refine ⟨f + 1, ?_⟩
              unfold wloop
              rw [ht]
              simp only [hb]
              exact hf
            | ct =>
              obtain ⟨m, hm, h3⟩ := h2
              obtain ⟨f, hf⟩ := ih m hm r2 h3
              refine ⟨f + 1, ?_⟩
              unfold wloop
              rw [ht]
              simp only [hb]
              exact hf
            | bk =>
              refine ⟨1, ?_⟩
              unfold wloop
              rw [ht]
              simp only [hb]
              exact h2
            | rt v =>
              refine ⟨1, ?_⟩
              unfold wloop
              rw [ht]
              simp only [hb]
              exact h2
  obtain ⟨f, hf⟩ := key n r h0
  have hn : wloop t b f r ≠ .no := fun z => by
    rw [z] at hf
    exact hf
  rw [sWhile_of (n := f) rfl hn]
  exact hf
/-! the same, with what comes behind hidden -/
theorem qo_step {kk : Fl → En → Prop} {m n : M Fl} {r : En} (h : ∀ K : Fl → En → Prop, (∀ r', Po X (n r') kk → K .nx r') → (∀ v r', kk (.rt v) r' → K (.rt v) r') → (∀ r', kk .bk r' → K .bk r') → (∀ r', kk .ct r' → K .ct r') → Po X (m r) K) : Po X (sSeq m n r) kk := by
  rw [qo_seq]
  exact h _ (fun _ q => q) (fun _ _ q => q) (fun _ q => q) fun _ q => q
theorem qo_fnK {kk : RV → List Sl → Prop} {n : Nat} {m : M Fl} {rs : List Sl} (h : ∀ (Y : Exn → En → Prop) (K : Fl → En → Prop), (∀ e r z, backA rs r = some z → X e z → Y e r) → (∀ v r z, backA rs r = some z → kk v z → K (.rt v) r) → (∀ r z, backA rs r = some z → kk (.v .none) z → K .nx r) → Po Y (m (rs ++ List.replicate (n - rs.length) .unk)) K) : Po X (fnOf n m rs) kk :=
  qo_fn (h _ _ (fun _ _ z hz q => ⟨z, hz, q⟩) (fun v _ z hz q => ⟨v, z, hz, .inl rfl, q⟩) fun _ z hz q => ⟨_, z, hz, .inr ⟨rfl, rfl⟩, q⟩)
theorem qo_forK {γ : Type} {kk : Fl → En → Prop} {tg : Tg} {b : M Fl} {f : γ → D} (I : List γ → En → Prop) (xs : List γ) (r : En) (h0 : I [] r)
    (hs : ∀ done x rest r, xs = done ++ x :: rest → I done r → ∃ r1, tg (f x) r = some r1 ∧ ∀ K : Fl → En → Prop, (∀ r2, I (done ++ [x]) r2 → K .nx r2) → (∀ v r2, kk (.rt v) r2 → K (.rt v) r2) → (∀ r2, I (done ++ [x]) r2 → K .ct r2) → (∀ r2, kk .nx r2 → K .bk r2) → Po X (b r1) K) (he : ∀ r, I xs r → kk .nx r) : Po X (forL tg b (xs.map f) r) kk :=
  qo_forM I xs r h0 (fun done x rest r e h => by
    obtain ⟨r1, h1, h2⟩ := hs done x rest r e h
    exact ⟨r1, h1, h2 _ (fun _ q => q) (fun _ _ q => q) (fun _ q => q) fun _ q => q⟩) he
theorem qo_rngK {kk : Fl → En → Prop} {tg : Tg} {b : M Fl} {lo : Int} (I : Nat → En → Prop) (n : Nat) (r : En) (h0 : I 0 r)
    (hs : ∀ i r, i < n → I i r → ∃ r1, tg (.int (lo + (i : Nat))) r = some r1 ∧ ∀ K : Fl → En → Prop, (∀ r2, I (i + 1) r2 → K .nx r2) → (∀ v r2, kk (.rt v) r2 → K (.rt v) r2) → (∀ r2, I (i + 1) r2 → K .ct r2) → (∀ r2, kk .nx r2 → K .bk r2) → Po X (b r1) K) (he : ∀ r, I n r → kk .nx r) : Po X (forL tg b (rngD lo n) r) kk :=
  qo_rng I n r h0 (fun i r hi h => by
    obtain ⟨r1, h1, h2⟩ := hs i r hi h
    exact ⟨r1, h1, h2 _ (fun _ q => q) (fun _ _ q => q) (fun _ q => q) fun _ q => q⟩) he
@[simp] theorem oDict0_ap (r : En) : oDict0 r = .ok (.o (.d [])) r := rfl
@[simp] theorem zipOf_T (a b : List Int) : zipOf [.tuple (a.map .int), .tuple (b.map .int)] = some ((List.zip a b).map fun p => .tuple [.int p.1, .int p.2]) := by
  show some (zipD (a.map .int) (b.map .int)) = _
  unfold zipD
  rw [List.zipWith_map, List.map_zip_eq_zipWith]
  rfl
@[simp] theorem isD_bb (a b : Bool) : isD (.bool a) (.bool b) = some (.bool (decide (a = b))) := rfl
@[simp] theorem isntD_bb (a b : Bool) : isntD (.bool a) (.bool b) = some (.bool (!decide (a = b))) := rfl
@[simp] theorem boolD_i (i : Int) : boolD (.int i) = some (.bool (i != 0)) := rfl
@[simp] theorem boolD_b (b : Bool) : boolD (.bool b) = some (.bool b) := rfl
theorem ninD_l (d : D) (ds : List D) (h : SeqAt.shaped d = true ∧ SeqAt.shaped (.list ds) = true) : ninD d (.list ds) = some (.bool (!ds.any fun z => PyData.eqv z d)) := by
  show cI (SeqAt.shaped d = true ∧ SeqAt.shaped (.list ds) = true) (some (PyData.bool (!ds.any fun z => PyData.eqv z d))) none = _
  rw [cI_eq, if_pos h]
@[simp] theorem eIndex_ap (mo me : M D) (r : En) : eIndex mo me r = (mo r).bind fun d r => (match d with
  | .list ds => (me r).bind fun b r => M.opt (indexD (.list ds) b) r
  | _ => .no) := by
  show (mo r).bind (fun d => (match d with
  | .list ds => me.bind fun b => M.opt (indexD (.list ds) b)
  | _ => M.no)) = _
  congr 1
  funext d r
  cases d <;> rfl
@[simp] theorem ePop_ap (i : Nat) (m : M D) (r : En) : ePop i m r = (match getC i r with
  | some (.l _) => (m r).bind fun d r => match getC i r with
    | some (.l ds) => (match popD ds d with
      | some p => .ok p.1 (putC i (.l p.2) r)
      | none => .no)
    | _ => .no
  | _ => .no) := rfl
@[simp] theorem isi_bi (b : Bool) : isiD "int" (.bool b) = some (.bool true) := by kernel_rfl
@[simp] theorem isi_bb (b : Bool) : isiD "bool" (.bool b) = some (.bool true) := by kernel_rfl
@[simp] theorem isi_bt (b : Bool) : isiD "tuple" (.bool b) = some (.bool false) := by kernel_rfl
@[simp] theorem isi_bs (b : Bool) : isiD "str" (.bool b) = some (.bool false) := by kernel_rfl
@[simp] theorem isi_ni : isiD "int" .none = some (.bool false) := by kernel_rfl
@[simp] theorem isi_nb : isiD "bool" .none = some (.bool false) := by kernel_rfl
@[simp] theorem isi_nt : isiD "tuple" .none = some (.bool false) := by kernel_rfl
@[simp] theorem isi_ns : isiD "str" .none = some (.bool false) := by kernel_rfl
@[simp] theorem isi_nl : isiD "list" .none = some (.bool false) := by kernel_rfl
@[simp] theorem isi_si (x : Str) : isiD "int" (.str x) = some (.bool false) := by kernel_rfl
@[simp] theorem isi_sb (x : Str) : isiD "bool" (.str x) = some (.bool false) := by kernel_rfl
@[simp] theorem isi_st (x : Str) : isiD "tuple" (.str x) = some (.bool false) := by kernel_rfl
@[simp] theorem isi_ss (x : Str) : isiD "str" (.str x) = some (.bool true) := by kernel_rfl
@[simp] theorem isi_sl (x : Str) : isiD "list" (.str x) = some (.bool false) := by kernel_rfl
@[simp] theorem isi_is (i : Int) : isiD "str" (.int i) = some (.bool false) := by kernel_rfl
@[simp] theorem isi_il (i : Int) : isiD "list" (.int i) = some (.bool false) := by kernel_rfl
@[simp] theorem isi_li (ds : List D) : isiD "int" (.list ds) = some (.bool false) := by kernel_rfl
@[simp] theorem isi_lb (ds : List D) : isiD "bool" (.list ds) = some (.bool false) := by kernel_rfl
@[simp] theorem isi_lt (ds : List D) : isiD "tuple" (.list ds) = some (.bool false) := by kernel_rfl
@[simp] theorem isi_ls (ds : List D) : isiD "str" (.list ds) = some (.bool false) := by kernel_rfl
@[simp] theorem isi_ti (ds : List D) : isiD "int" (.tuple ds) = some (.bool false) := by kernel_rfl
@[simp] theorem isi_tb (ds : List D) : isiD "bool" (.tuple ds) = some (.bool false) := by kernel_rfl
@[simp] theorem isi_ts (ds : List D) : isiD "str" (.tuple ds) = some (.bool false) := by kernel_rfl
@[simp] theorem isi_tl (ds : List D) : isiD "list" (.tuple ds) = some (.bool false) := by kernel_rfl
theorem isi_dicts {T : String} (hT : T ∈ basicT) (hk : kitB "dict" T = some false) (ds : List (D × D)) : isiD T (.dict ds) = some (.bool false) := by
  cases ds with
  | nil =>
    show (kitB "dict" T).map PyData.bool = _
    rw [hk]
    rfl
  | cons x r =>
    obtain ⟨k, e⟩ := x
    cases k with
    | str x =>
      show (if T ∈ basicT then some (PyData.bool false) else none) = _
      rw [if_pos hT]
    | _ =>
      show (kitB "dict" T).map PyData.bool = _
      rw [hk]
      rfl
@[simp] theorem isi_di (ds : List (D × D)) : isiD "int" (.dict ds) = some (.bool false) := isi_dicts (by decide) (by kernel_rfl) ds
@[simp] theorem isi_db (ds : List (D × D)) : isiD "bool" (.dict ds) = some (.bool false) := isi_dicts (by decide) (by kernel_rfl) ds
@[simp] theorem isi_dt (ds : List (D × D)) : isiD "tuple" (.dict ds) = some (.bool false) := isi_dicts (by decide) (by kernel_rfl) ds
@[simp] theorem isi_ds (ds : List (D × D)) : isiD "str" (.dict ds) = some (.bool false) := isi_dicts (by decide) (by kernel_rfl) ds
@[simp] theorem isi_dl (ds : List (D × D)) : isiD "list" (.dict ds) = some (.bool false) := isi_dicts (by decide) (by kernel_rfl) ds
/-! comprehensions -/
@[simp] theorem qo_comp {kk : RV → En → Prop} (src : M (List D)) (is : List Nat) (tg : Tg) (tt : M Bool) (te : M D) (r : En) : Po X (oComp src is tg tt te r) kk = Po X (src r) fun xs r => noOwn r is = true ∧ Po (fun _ _ => False) (compL is tg tt te xs [] r) fun ys q => kk (.o (.l ys)) (backE r (wipeE q is) is) := by
  show Po X ((src r).bind _) kk = _
  rw [qo_bind]
  congr 1
  funext xs r
  by_cases h : noOwn r is = true
  · rw [if_pos h]
    cases compL is tg tt te xs [] r with
    | ok ys q => simp [h]
    | ex e q => simp
    | no => simp
  · rw [if_neg h]
    simp [h]
@[simp] theorem compL_nil (is : List Nat) (tg : Tg) (tt : M Bool) (te : M D) (acc : List D) (r : En) : compL is tg tt te [] acc r = .ok acc r := rfl
theorem qo_compL {kl : List D → En → Prop} (is : List Nat) (tg : Tg) (tt : M Bool) (te : M D) (x : D) (xs acc : List D) (r : En) : Po (fun _ _ => False) (compL is tg tt te (x :: xs) acc r) kl = (match tg x (wipeE r is) with
  | none => False
  | some r1 => Po (fun _ _ => False) (tt r1) fun b r2 => if b = true then Po (fun _ _ => False) (te r2) fun y r3 => acc.length < 16777216 ∧ Po (fun _ _ => False) (compL is tg tt te xs (acc ++ [y]) r3) kl else Po (fun _ _ => False) (compL is tg tt te xs acc r2) kl) := by
  show Po _ (match tg x (wipeE r is) with
    | none => .no
    | some r1 => match tt r1 with
      | .ok true r2 => (match te r2 with
        | .ok y r3 => if acc.length < 16777216 then compL is tg tt te xs (acc ++ [y]) r3 else .no
        | _ => .no)
      | .ok false r2 => compL is tg tt te xs acc r2
      | _ => .no) kl = _
  cases tg x (wipeE r is) with
  | none => rfl
  | some r1 =>
    simp only
    cases tt r1 with
    | no => rfl
    | ex e r2 => rfl
    | ok b r2 =>
      cases b with
      | false => rfl
      | true =>
        simp only [qo_ok, if_true]
        cases te r2 with
        | no => rfl
        | ex e r3 => rfl
        | ok y r3 =>
          simp only [qo_ok]
          by_cases h : acc.length < 16777216
          · rw [if_pos h]
            simp [h]
          · rw [if_neg h]
            simp [h]
@[simp] theorem yes_ap (r : En) : yes r = .ok true r := rfl
/-- each thing to one datum, nothing else changed -/
theorem qo_compM {γ : Type} {kl : List D → En → Prop} {is : List Nat} {tg : Tg} {te : M D} {f : γ → D} {g : γ → D} (J : En → Prop) : ∀ (xs : List γ) (acc : List D) (r : En), J r → acc.length + xs.length ≤ 16777216 →
    (∀ x ∈ xs, ∀ r, J r → ∃ r1, tg (f x) (wipeE r is) = some r1 ∧ Po (fun _ _ => False) (te r1) fun y r3 => y = g x ∧ J r3) → (∀ r, J r → kl (acc ++ xs.map g) r) → Po (fun _ _ => False) (compL is tg yes te (xs.map f) acc r) kl
  | [], acc, r, hJ, _, _, he => by
    have := he r hJ
    rw [List.map_nil, List.append_nil] at this
    exact this
  | x :: xs, acc, r, hJ, hl, hs, he => by
    rw [List.map_cons, qo_compL]
    obtain ⟨r1, h1, h2⟩ := hs x (List.mem_cons_self ..) r hJ
    rw [h1]
    simp only [yes_ap, qo_ok, if_true]
    refine qo_mono h2 ?_
    rintro y r3 ⟨rfl, hJ3⟩
    rw [List.length_cons] at hl
    refine ⟨by omega, qo_compM J xs (acc ++ [g x]) r3 hJ3 (by rw [List.length_append, List.length_singleton]; omega) (fun z hz => hs z (List.mem_cons_of_mem _ hz)) fun r hr => ?_⟩
    have := he r hr
    rw [List.map_cons] at this
    rw [List.append_assoc]
    exact this
/-- with a test -/
theorem qo_compF {γ : Type} {kl : List D → En → Prop} {is : List Nat} {tg : Tg} {tt : M Bool} {te : M D} {f : γ → D} {g : γ → D} {p : γ → Bool} (J : En → Prop) : ∀ (xs : List γ) (acc : List D) (r : En), J r → acc.length + xs.length ≤ 16777216 →
    (∀ x ∈ xs, ∀ r, J r → ∃ r1, tg (f x) (wipeE r is) = some r1 ∧ Po (fun _ _ => False) (tt r1) fun b r2 => b = p x ∧ (p x = false → J r2) ∧ (p x = true → Po (fun _ _ => False) (te r2) fun y r3 => y = g x ∧ J r3)) → (∀ r, J r → kl (acc ++ (xs.filter p).map g) r) → Po (fun _ _ => False) (compL is tg tt te (xs.map f) acc r) kl
  | [], acc, r, hJ, _, _, he => by
    have := he r hJ
    rw [List.filter_nil, List.map_nil, List.append_nil] at this
    exact this
  | x :: xs, acc, r, hJ, hl, hs, he => by
    rw [List.map_cons, qo_compL]
    obtain ⟨r1, h1, h2⟩ := hs x (List.mem_cons_self ..) r hJ
    rw [h1]
    simp only
    rw [List.length_cons] at hl
    refine qo_mono h2 ?_
    rintro b r2 ⟨rfl, h3, h4⟩
    cases hp : p x with
    | false =>
      rw [if_neg Bool.false_ne_true]
      refine qo_compF J xs acc r2 (h3 hp) (by omega) (fun z hz => hs z (List.mem_cons_of_mem _ hz)) fun r hr => ?_
      have := he r hr
      rw [List.filter_cons_of_neg (by rw [hp]; exact Bool.false_ne_true)] at this
      exact this
    | true =>
      rw [if_pos rfl]
      refine qo_mono (h4 hp) ?_
      rintro y r3 ⟨rfl, hJ3⟩
      refine ⟨by omega, qo_compF J xs (acc ++ [g x]) r3 hJ3 (by rw [List.length_append, List.length_singleton]; omega) (fun z hz => hs z (List.mem_cons_of_mem _ hz)) fun r hr => ?_⟩
      have := he r hr
      rw [List.filter_cons_of_pos hp, List.map_cons] at this
      rw [List.append_assoc]
      exact this
@[simp] theorem wipe_nil (r : En) : wipeE r [] = r := rfl
@[simp] theorem wipe_cons (r : En) (i : Nat) (is : List Nat) : wipeE r (i :: is) = (wipeE r is).set i .unk := rfl
@[simp] theorem back_nil (r q : En) : backE r q [] = q := rfl
@[simp] theorem back_cons (r q : En) (i : Nat) (is : List Nat) : backE r q (i :: is) = (backE r q is).set i (r.getD i .unk) := rfl
@[simp] theorem noOwn_nil (r : En) : noOwn r [] = true := rfl
@[simp] theorem noOwn_cons (r : En) (i : Nat) (is : List Nat) : noOwn r (i :: is) = ((match r[i]? with
  | some s => s.own.isNone
  | none => false) && noOwn r is) := rfl
@[simp] theorem allD_b (ds : List D) : allD (.list ds) = (boolsOf ds).map fun bs => .bool (bs.all id) := rfl
@[simp] theorem anyD_b (ds : List D) : anyD (.list ds) = (boolsOf ds).map fun bs => .bool (bs.any id) := rfl
@[simp] theorem boolsOf_nil : boolsOf [] = some [] := rfl
@[simp] theorem boolsOf_cons (b : Bool) (ds : List D) : boolsOf (.bool b :: ds) = (boolsOf ds).map (b :: ·) := rfl
@[simp] theorem boolsOf_map {γ : Type} (f : γ → Bool) : ∀ xs : List γ, boolsOf (xs.map fun x => .bool (f x)) = some (xs.map f)
  | [] => rfl
  | x :: xs => by
    rw [List.map_cons, boolsOf_cons, boolsOf_map f xs]
    rfl
/-! numbers -/
theorem mulOk_l {i j : Int} (h : -(2 ^ 63) < i ∧ i < 2 ^ 63) : mulOk i j := .inl (by omega)
theorem mulOk_r {i j : Int} (h : -(2 ^ 63) < j ∧ j < 2 ^ 63) : mulOk i j := .inr (.inl (by omega))
theorem fmod_pos (a : Int) {n : Int} (h : 0 < n) : 0 ≤ a.fmod n ∧ a.fmod n < n := by
  rw [Int.fmod_eq_emod_of_nonneg _ (by omega)]
  exact ⟨Int.emod_nonneg _ (by omega), Int.emod_lt_of_pos _ h⟩
theorem fdiv_nn {a n : Int} (ha : 0 ≤ a) (h : 0 < n) : 0 ≤ a.fdiv n := by
  rw [Int.fdiv_eq_ediv_of_nonneg _ (by omega)]
  exact Int.ediv_nonneg ha (by omega)
theorem fmod_nat (x p : Nat) : (x : Int).fmod p = ((x % p : Nat) : Int) := by
  rw [Int.fmod_eq_emod_of_nonneg _ (by omega)]
  rfl
theorem fdiv_nat (x p : Nat) : (x : Int).fdiv p = ((x / p : Nat) : Int) := by
  rw [Int.fdiv_eq_ediv_of_nonneg _ (by omega)]
  rfl
theorem atI_nn {α : Type} {xs : List α} {n : Int} (h0 : 0 ≤ n) (h1 : n < xs.length) : ∃ c, atI xs n = some c ∧ xs[n.toNat]? = some c := by
  unfold atI ixN
  rw [if_pos h0, if_pos h1]
  exact ⟨xs[n.toNat]'(by omega), by simp, by simp⟩
@[simp] theorem mulOk_sl (i j : Int) (h1 : -(2 ^ 63) < i) (h2 : i < 2 ^ 63) : mulOk i j := mulOk_l ⟨h1, h2⟩
@[simp] theorem mulOk_sr (i j : Int) (h1 : -(2 ^ 63) < j) (h2 : j < 2 ^ 63) : mulOk i j := mulOk_r ⟨h1, h2⟩
@[simp] theorem mulOk_ml (x m j : Int) (h0 : 0 < m) (h1 : m < 2 ^ 63) : mulOk (x % m) j := by
  have a1 := Int.emod_nonneg x (show m ≠ 0 by omega)
  have a2 := Int.emod_lt_of_pos x h0
  exact mulOk_l ⟨by omega, by omega⟩
@[simp] theorem mulOk_mr (x m i : Int) (h0 : 0 < m) (h1 : m < 2 ^ 63) : mulOk i (x % m) := by
  have a1 := Int.emod_nonneg x (show m ≠ 0 by omega)
  have a2 := Int.emod_lt_of_pos x h0
  exact mulOk_r ⟨by omega, by omega⟩
@[simp] theorem log2_s (n : Nat) (h : n < 2 ^ 64) : n.log2 < 9000 := by
  have : n.log2 < 64 := PySem.Flt.log2_lt_of (by decide) h
  omega
@[simp] theorem abs_nn (c : Int) : 0 ≤ (if c < 0 then -c else c) := by split <;> omega
@[simp] theorem sInsert_ap (i : Nat) (mk m : M D) (r : En) : sInsert i mk m r = (match getC i r with
  | some (.l _) => (mk r).bind fun k r => (m r).bind fun d r => (match k, getC i r with
    | .int n, some (.l ds) => cI (ds.length < 16777216 ∧ 0 ≤ n ∧ n < 2 ^ 63) (.ok .nx (putC i (.l (ds.take n.toNat ++ [d] ++ ds.drop n.toNat)) r)) .no
    | _, _ => .no)
  | _ => .no) := rfl
@[simp] theorem qo_cI (p : Prop) (x : Re α) : Po X (cI p x .no) k = (p ∧ Po X x k) := by
  by_cases h : p
  · have : cI p x .no = x := by unfold cI; exact if_pos h
    rw [this]
    simp [h]
  · have : cI p x .no = .no := by unfold cI; exact if_neg h
    rw [this]
    simp [h]
theorem zip3D_map {γ δ ε : Type} (f : γ → D) (g : δ → D) (h : ε → D) : ∀ (xs : List γ) (ys : List δ) (zs : List ε), zip3D (xs.map f) (ys.map g) (zs.map h) = (List.zip xs (List.zip ys zs)).map fun p => .tuple [f p.1, g p.2.1, h p.2.2]
  | [], _, _ => rfl
  | _ :: _, [], _ => rfl
  | _ :: _, _ :: _, [] => rfl
  | x :: xs, y :: ys, z :: zs => by
    simp only [List.map_cons, zip3D, zip3D_map f g h xs ys zs, List.zip_cons_cons]
@[simp] theorem zip3Of_T (a b c : List Int) : zip3Of [.tuple (a.map .int), .tuple (b.map .int), .tuple (c.map .int)] = some ((List.zip a (List.zip b c)).map fun p => .tuple [.int p.1, .int p.2.1, .int p.2.2]) := congrArg some (zip3D_map _ _ _ a b c)
/-! exceptions -/
@[simp] theorem sRaiseF_ap (nm : Str) (fs : List Str) (ms : M (List D)) (r : En) : sRaiseF nm fs ms r = (ms r).bind fun ds r => if ds.length = fs.length then .ex ⟨nm, (fs.zip ds).reverse⟩ r else .no := rfl
@[simp] theorem sRaise_ap (nm : Str) (r : En) : sRaise nm r = .ex ⟨nm, []⟩ r := rfl
@[simp] theorem exOf_ap (nm : Str) : exOf ⟨nm, []⟩ = .dict [(.str nm, .none)] := rfl
@[simp] theorem isED_ap (ns : List Str) (y nm : Str) (kv : List (D × D)) : isED ns y (.dict ((.str nm, .none) :: kv)) = if nm ∈ ns then some (.bool (isB nm y)) else none := rfl
@[simp] theorem isEV_ap (ns : List Str) (nm : Str) (kv : List (D × D)) : isEV ns (.dict ((.str nm, .none) :: kv)) = if nm ∈ ns then some (.bool true) else none := rfl
@[simp] theorem isET_ap (ns ys : List Str) (nm : Str) (kv : List (D × D)) : isET ns ys (.dict ((.str nm, .none) :: kv)) = if nm ∈ ns then some (.bool (ys.any fun y => isB nm y)) else none := rfl
@[simp] theorem isntD_d (kv : List (D × D)) : isntD (.dict kv) .none = some (.bool true) := rfl
@[simp] theorem isD_d (kv : List (D × D)) : isD (.dict kv) .none = some (.bool false) := rfl
@[simp] theorem lamRes_rt (r r2 : En) (rv : RV) : lamRes r (.ok (.rt rv) r2) = .ok rv r := rfl
@[simp] theorem lamRes_nx (r r2 : En) : lamRes r (.ok .nx r2) = .ok (.v .none) r := rfl
@[simp] theorem hide_v (d : D) : hideS (.v d) = .v d := rfl
@[simp] theorem hide_u : hideS .unk = .unk := rfl
@[simp] theorem hide_o (c : Ct) : hideS (.o c) = .unk := rfl
@[simp] theorem hide_io (c : Ct) : hideS (.io c) = .unk := rfl
@[simp] theorem qo_lamR {kk : RV → En → Prop} (r : En) (m : Re Fl) : Po X (lamRes r m) kk = Po (fun _ _ => False) m fun fl _ => (match fl with
  | .rt rv => kk rv r
  | .nx => kk (.v .none) r
  | _ => False) := by
  cases m with
  | no => rfl
  | ex e r1 => rfl
  | ok fl r1 => cases fl <;> rfl
@[simp] theorem qo_lam {kk : RV → En → Prop} (ns : List Str) (n i : Nat) (br : M Fl) (th : M D) (r : En) : Po X (cLam ns n i br th r) kk = Po (fun e _ => e.name ∈ ns ∧ Po X (lamRes r (br ((List.replicate n Sl.unk).set i (.v (exOf e))))) kk) (th (r.map hideS)) fun _ _ => Po X (lamRes r (br ((List.replicate n Sl.unk).set i (.v .none)))) kk := by
  unfold cLam
  cases th (r.map hideS) with
  | ok fl r1 => rfl
  | no => rfl
  | ex e r1 =>
    show Po X (if e.name ∈ ns then _ else _) kk = (e.name ∈ ns ∧ _)
    by_cases h : e.name ∈ ns
    · rw [if_pos h]
      simp only [h, true_and]
    · rw [if_neg h]
      simp only [h, false_and]
      rfl
@[simp] theorem qo_try {kk : Fl → En → Prop} (ns : List Str) (j i : Nat) (mb : M Fl) (r : En) : Po X (sTry ns j i mb r) kk = Po (fun e r1 => e.name ∈ ns ∧ (match (setN j (.v (exOf e)) r1).bind (setN i (.v (exOf e))) with
  | some r2 => kk .nx (r2.set j .unk)
  | none => False)) (mb r) kk := by
  unfold sTry
  cases mb r with
  | ok fl r1 => rfl
  | no => rfl
  | ex e r1 =>
    show Po X (if e.name ∈ ns then _ else _) kk = (e.name ∈ ns ∧ _)
    by_cases h : e.name ∈ ns
    · rw [if_pos h]
      simp only [h, true_and]
      cases (setN j (.v (exOf e)) r1).bind (setN i (.v (exOf e))) <;> rfl
    · rw [if_neg h]
      simp [h]
/-! the pen -/
def pen (cs : List Int) (a l : Int) : Ct := .d [(.inr "cells", .list (cs.map .int)), (.inr "at", .int a), (.inr "left", .int l)]
def penL (cs : List Int) (a l : Int) : List (Key × D) := [(.inr "cells", .list (cs.map .int)), (.inr "at", .int a), (.inr "left", .int l)]
@[simp] theorem pen_c (cs : List Int) (a l : Int) : vK (penL cs a l) (.inr "cells") = some (.list (cs.map .int)) := rfl
@[simp] theorem pen_a (cs : List Int) (a l : Int) : vK (penL cs a l) (.inr "at") = some (.int a) := rfl
@[simp] theorem pen_l (cs : List Int) (a l : Int) : vK (penL cs a l) (.inr "left") = some (.int l) := rfl
@[simp] theorem pen_pa (cs : List Int) (a l b : Int) : pK (penL cs a l) (.inr "at") (.int b) = penL cs b l := rfl
@[simp] theorem pen_pl (cs : List Int) (a l b : Int) : pK (penL cs a l) (.inr "left") (.int b) = penL cs a b := rfl
@[simp] theorem pen_len (cs : List Int) (a l : Int) : (penL cs a l).length = 3 := rfl
@[simp] theorem keyD_s (x : Str) : keyD (.str x) = some (.inr x) := rfl
@[simp] theorem keyD_i (x : Int) : keyD (.int x) = some (.inl x) := rfl
/-- .. with at most n draws from it -/
def PenB (cs : List Int) (n : Nat) (c : Ct) : Prop := ∃ a l, c = pen cs a l ∧ 0 ≤ a ∧ a ≤ n ∧ 0 ≤ l
theorem PenB.le {cs : List Int} {n m : Nat} {c : Ct} (h : PenB cs n c) (hm : n ≤ m) : PenB cs m c := by
  obtain ⟨a, l, h1, h2, h3, h4⟩ := h
  exact ⟨a, l, h1, h2, by omega, h4⟩
theorem cutL_drop (xs : List D) (k : Nat) : cutL xs (some (k : Int)) none = xs.drop k := by
  unfold cutL
  rw [HT.sIx_none, HT.sIx_nat]
  by_cases h : k ≤ xs.length
  · rw [Nat.min_eq_left h, List.take_of_length_le (by rw [List.length_drop]; exact Nat.le_refl _)]
  · rw [Nat.min_eq_right (by omega), List.drop_length, List.drop_of_length_le (by omega)]
    simp
theorem intsOf_mp : ∀ ns : List Int, intsOf (ns.map .int) = some ns
  | [] => rfl
  | k :: ks => by
    show (intsOf (ks.map .int)).map (k :: ·) = some (k :: ks)
    rw [intsOf_mp ks]
    rfl
/-! ### the same, shut to the elaborator's own reckoning -/
section
variable {α β : Type} {X : Exn → En → Prop} {k : α → En → Prop}
@[irreducible] def Wp {α : Type} (X : Exn → En → Prop) (x : Re α) (k : α → En → Prop) : Prop := Po X x k
theorem wp_eq {α : Type} {X : Exn → En → Prop} {x : Re α} {k : α → En → Prop} : Wp X x k = Po X x k := by
  unfold Wp
  rfl
variable {kd : D → En → Prop} {kl : List D → En → Prop}
@[simp] theorem po_ok (a : α) (r : En) : Wp X (.ok a r) k = k a r := by
  rw [wp_eq]
  rfl
@[simp] theorem po_ex (e : Exn) (r : En) : Wp X (.ex e r) k = X e r := by
  rw [wp_eq]
  rfl
@[simp] theorem po_no : Wp X (.no : Re α) k = False := by
  rw [wp_eq]
  rfl
@[simp] theorem po_bind (x : Re β) (f : β → M α) : Wp X (x.bind f) k = Wp X x fun a r => Wp X (f a r) k := by
  simp only [wp_eq, qo_bind]
theorem po_mono {x : Re α} {k' : α → En → Prop} (h : Wp X x k') (i : ∀ a r, k' a r → k a r) : Wp X x k := by
  simp only [wp_eq] at *
  exact qo_mono h i
theorem po_true {f : Re RV} (h : Wp (fun _ _ => False) f fun rv _ => rv = .v (.bool true)) : ∃ r, f = .ok (.v (.bool true)) r := by
  simp only [wp_eq] at *
  exact qo_true h
theorem po_seq {kk : Fl → En → Prop} (m n : M Fl) (r : En) : Wp X (sSeq m n r) kk = Wp X (m r) fun fl r => (match fl with
  | .nx => Wp X (n r) kk
  | f => kk f r) := by
  simp only [wp_eq, qo_seq]
@[simp] theorem po_ite (p : Prop) [Decidable p] (x y : Re α) : Wp X (if p then x else y) k = if p then Wp X x k else Wp X y k := by
  simp only [wp_eq, qo_ite]
@[simp] theorem po_szM {γ : Type} (n : Nat) (a : γ) (f : γ → α) (r : En) : Wp X (M.opt ((szC n a).map f) r) k = (n ≤ 16777216 ∧ k (f a) r) := by
  simp only [wp_eq, qo_szM]
@[simp] theorem po_szC (n : Nat) (a : α) (r : En) : Wp X (M.opt (szC n a) r) k = (n ≤ 16777216 ∧ k a r) := by
  simp only [wp_eq, qo_szC]
@[simp] theorem po_rng1 (j : Int) (r : En) : Wp X (M.opt (rng1 [.int j]) r) kl = ((-(2 ^ 62) ≤ j ∧ j < 2 ^ 62) ∧ kl (rngD 0 j.toNat) r) := by
  simp only [wp_eq, qo_rng1]
@[simp] theorem po_rng2 (i j : Int) (r : En) : Wp X (M.opt (rng2 [.int i, .int j]) r) kl = (((-(2 ^ 62) ≤ i ∧ i < 2 ^ 62) ∧ (-(2 ^ 62) ≤ j ∧ j < 2 ^ 62)) ∧ kl (rngD i (j - i).toNat) r) := by
  simp only [wp_eq, qo_rng2]
@[simp] theorem po_mul (i j : Int) (r : En) : Wp X (M.opt (mulD (.int i) (.int j)) r) kd = (mulOk i j ∧ kd (.int (i * j)) r) := by
  simp only [wp_eq, qo_mul]
@[simp] theorem po_fdiv (i j : Int) (r : En) : Wp X (M.opt (fdivD (.int i) (.int j)) r) kd = ((j ≠ 0 ∧ j.natAbs.log2 < 9000) ∧ kd (.int (i.fdiv j)) r) := by
  simp only [wp_eq, qo_fdiv]
@[simp] theorem po_mod (i j : Int) (r : En) : Wp X (M.opt (modD (.int i) (.int j)) r) kd = (j ≠ 0 ∧ kd (.int (i.fmod j)) r) := by
  simp only [wp_eq, qo_mod]
@[simp] theorem po_pow (i j : Int) (r : En) : Wp X (M.opt (powD (.int i) (.int j)) r) kd = ((0 ≤ j ∧ j ≤ 1000000 ∧ i.natAbs < 2 ^ 64) ∧ kd (.int (i ^ j.toNat)) r) := by
  simp only [wp_eq, qo_pow]
@[simp] theorem po_mulO {kr : RV → En → Prop} (xs : List D) (j : Int) (r : En) : Wp X (M.opt (mulO (.list xs) (.int j)) r) kr = (((-(2 ^ 63) ≤ j ∧ j < 2 ^ 63) ∧ xs.length * j.toNat ≤ 16777216) ∧ kr (.o (.l (List.replicate j.toNat xs).flatten)) r) := by
  simp only [wp_eq, qo_mulO]
@[simp] theorem po_mulL (xs : List D) (k : Int) (r : En) : Wp X (M.opt (mulD (.list xs) (.int k)) r) kd = (((-(2 ^ 63) ≤ k ∧ k < 2 ^ 63) ∧ xs.length * k.toNat ≤ 16777216) ∧ kd (.list (List.replicate k.toNat xs).flatten) r) := by
  simp only [wp_eq, qo_mulL]
@[simp] theorem po_mulT (xs : List D) (k : Int) (r : En) : Wp X (M.opt (mulD (.tuple xs) (.int k)) r) kd = ((-1000 ≤ k ∧ k ≤ 1000 ∧ xs.length ≤ 1000) ∧ kd (.tuple (List.replicate k.toNat xs).flatten) r) := by
  simp only [wp_eq, qo_mulT]
@[simp] theorem po_at (xs : List D) (n : Int) (r : En) : Wp X (M.opt (atI xs n) r) kd = ∃ d, atI xs n = some d ∧ kd d r := by
  simp only [wp_eq, qo_at]
@[simp high] theorem po_atI (xs : List Int) (n : Int) (r : En) : Wp X (M.opt (atI (xs.map .int) n) r) kd = ∃ c, atI xs n = some c ∧ kd (.int c) r := by
  simp only [wp_eq, qo_atI]
@[simp] theorem po_call {kk : RV → En → Prop} (f : List Sl → Re RV) (ms : M (List D)) (r : En) : Wp X (cCall f ms r) kk = Wp X (ms r) fun ds r => Wp (fun e _ => X e r) (f (ds.map .v)) fun rv _ => kk rv r := by
  simp only [wp_eq, qo_call]
@[simp] theorem po_callI {kk : RV → En → Prop} (f : List Sl → Re RV) (ms : M (List D)) (i : Nat) (r : En) : Wp X (cCallI i f ms r) kk = (match getC i r with
  | none => False
  | some _ => Wp X (ms r) fun ds r1 => (match getC i r1 with
    | none => False
    | some ct => Wp (fun e z => InIo (fun c => X e (putC i c r1)) z) (f (.io ct :: ds.map .v)) fun rv z => InIo (fun c => kk rv (putC i c r1)) z)) := by
  simp only [wp_eq, qo_callI]
theorem po_fn {kk : RV → List Sl → Prop} {n : Nat} {m : M Fl} {rs : List Sl} (h : Wp (fun e r => ∃ z, backA rs r = some z ∧ X e z) (m (rs ++ List.replicate (n - rs.length) .unk)) fun fl r => ∃ rv z, backA rs r = some z ∧ (fl = .rt rv ∨ (fl = .nx ∧ rv = .v .none)) ∧ kk rv z) : Wp X (fnOf n m rs) kk := by
  simp only [wp_eq] at *
  exact qo_fn h
theorem po_while {kk : Fl → En → Prop} {t : M Bool} {b : M Fl} (I : Nat → En → Prop)
    (hs : ∀ n r, I n r → Wp X (t r) fun x r1 => if x = true then Wp X (b r1) fun fl r2 => (match fl with
      | .nx => ∃ m, m < n ∧ I m r2
      | .ct => ∃ m, m < n ∧ I m r2
      | .bk => kk .nx r2
      | .rt v => kk (.rt v) r2) else kk .nx r1) (n : Nat) (r : En) (h0 : I n r) : Wp X (sWhile t b r) kk := by
  simp only [wp_eq] at *
  exact qo_while I hs n r h0
theorem po_step {kk : Fl → En → Prop} {m n : M Fl} {r : En} (h : ∀ K : Fl → En → Prop, (∀ r', Wp X (n r') kk → K .nx r') → (∀ v r', kk (.rt v) r' → K (.rt v) r') → (∀ r', kk .bk r' → K .bk r') → (∀ r', kk .ct r' → K .ct r') → Wp X (m r) K) : Wp X (sSeq m n r) kk := by
  simp only [wp_eq] at *
  exact qo_step h
theorem po_fnK {kk : RV → List Sl → Prop} {n : Nat} {m : M Fl} {rs : List Sl} (h : ∀ (Y : Exn → En → Prop) (K : Fl → En → Prop), (∀ e r z, backA rs r = some z → X e z → Y e r) → (∀ v r z, backA rs r = some z → kk v z → K (.rt v) r) → (∀ r z, backA rs r = some z → kk (.v .none) z → K .nx r) → Wp Y (m (rs ++ List.replicate (n - rs.length) .unk)) K) : Wp X (fnOf n m rs) kk := by
  simp only [wp_eq] at *
  exact qo_fnK h
theorem po_forK {γ : Type} {kk : Fl → En → Prop} {tg : Tg} {b : M Fl} {f : γ → D} (I : List γ → En → Prop) (xs : List γ) (r : En) (h0 : I [] r)
    (hs : ∀ done x rest r, xs = done ++ x :: rest → I done r → ∃ r1, tg (f x) r = some r1 ∧ ∀ K : Fl → En → Prop, (∀ r2, I (done ++ [x]) r2 → K .nx r2) → (∀ v r2, kk (.rt v) r2 → K (.rt v) r2) → (∀ r2, I (done ++ [x]) r2 → K .ct r2) → (∀ r2, kk .nx r2 → K .bk r2) → Wp X (b r1) K) (he : ∀ r, I xs r → kk .nx r) : Wp X (forL tg b (xs.map f) r) kk := by
  simp only [wp_eq] at *
  exact qo_forK I xs r h0 hs he
theorem po_rngK {kk : Fl → En → Prop} {tg : Tg} {b : M Fl} {lo : Int} (I : Nat → En → Prop) (n : Nat) (r : En) (h0 : I 0 r)
    (hs : ∀ i r, i < n → I i r → ∃ r1, tg (.int (lo + (i : Nat))) r = some r1 ∧ ∀ K : Fl → En → Prop, (∀ r2, I (i + 1) r2 → K .nx r2) → (∀ v r2, kk (.rt v) r2 → K (.rt v) r2) → (∀ r2, I (i + 1) r2 → K .ct r2) → (∀ r2, kk .nx r2 → K .bk r2) → Wp X (b r1) K) (he : ∀ r, I n r → kk .nx r) : Wp X (forL tg b (rngD lo n) r) kk := by
  simp only [wp_eq] at *
  exact qo_rngK I n r h0 hs he
@[simp] theorem po_comp {kk : RV → En → Prop} (src : M (List D)) (is : List Nat) (tg : Tg) (tt : M Bool) (te : M D) (r : En) : Wp X (oComp src is tg tt te r) kk = Wp X (src r) fun xs r => noOwn r is = true ∧ Wp (fun _ _ => False) (compL is tg tt te xs [] r) fun ys q => kk (.o (.l ys)) (backE r (wipeE q is) is) := by
  simp only [wp_eq, qo_comp]
theorem po_compM {γ : Type} {kl : List D → En → Prop} {is : List Nat} {tg : Tg} {te : M D} {f : γ → D} {g : γ → D} (J : En → Prop) : ∀ (xs : List γ) (acc : List D) (r : En), J r → acc.length + xs.length ≤ 16777216 →
    (∀ x ∈ xs, ∀ r, J r → ∃ r1, tg (f x) (wipeE r is) = some r1 ∧ Wp (fun _ _ => False) (te r1) fun y r3 => y = g x ∧ J r3) → (∀ r, J r → kl (acc ++ xs.map g) r) → Wp (fun _ _ => False) (compL is tg yes te (xs.map f) acc r) kl := by
  intro xs acc r hJ hl hs he
  simp only [wp_eq] at *
  exact qo_compM J xs acc r hJ hl hs he
theorem po_compF {γ : Type} {kl : List D → En → Prop} {is : List Nat} {tg : Tg} {tt : M Bool} {te : M D} {f : γ → D} {g : γ → D} {p : γ → Bool} (J : En → Prop) : ∀ (xs : List γ) (acc : List D) (r : En), J r → acc.length + xs.length ≤ 16777216 →
    (∀ x ∈ xs, ∀ r, J r → ∃ r1, tg (f x) (wipeE r is) = some r1 ∧ Wp (fun _ _ => False) (tt r1) fun b r2 => b = p x ∧ (p x = false → J r2) ∧ (p x = true → Wp (fun _ _ => False) (te r2) fun y r3 => y = g x ∧ J r3)) → (∀ r, J r → kl (acc ++ (xs.filter p).map g) r) → Wp (fun _ _ => False) (compL is tg tt te (xs.map f) acc r) kl := by
  intro xs acc r hJ hl hs he
  simp only [wp_eq] at *
  exact qo_compF J xs acc r hJ hl hs he
@[simp] theorem po_cI (p : Prop) (x : Re α) : Wp X (cI p x .no) k = (p ∧ Wp X x k) := by
  simp only [wp_eq, qo_cI]
@[simp] theorem po_lamR {kk : RV → En → Prop} (r : En) (m : Re Fl) : Wp X (lamRes r m) kk = Wp (fun _ _ => False) m fun fl _ => (match fl with
  | .rt rv => kk rv r
  | .nx => kk (.v .none) r
  | _ => False) := by
  simp only [wp_eq, qo_lamR]
@[simp] theorem po_lam {kk : RV → En → Prop} (ns : List Str) (n i : Nat) (br : M Fl) (th : M D) (r : En) : Wp X (cLam ns n i br th r) kk = Wp (fun e _ => e.name ∈ ns ∧ Wp X (lamRes r (br ((List.replicate n Sl.unk).set i (.v (exOf e))))) kk) (th (r.map hideS)) fun _ _ => Wp X (lamRes r (br ((List.replicate n Sl.unk).set i (.v .none)))) kk := by
  simp only [wp_eq, qo_lam]
@[simp] theorem po_try {kk : Fl → En → Prop} (ns : List Str) (j i : Nat) (mb : M Fl) (r : En) : Wp X (sTry ns j i mb r) kk = Wp (fun e r1 => e.name ∈ ns ∧ (match (setN j (.v (exOf e)) r1).bind (setN i (.v (exOf e))) with
  | some r2 => kk .nx (r2.set j .unk)
  | none => False)) (mb r) kk := by
  simp only [wp_eq, qo_try]
end
end Pu
namespace Pu
open PySem L2
variable [TabT]
/-! ### comprehensions of pure members, by the surroundings themselves -/
theorem set_back (r : En) (i : Nat) (s t : Sl) (hi : i < r.length) : ((r.set i s).set i t).set i (r.getD i .unk) = r := by
  rw [List.set_set, List.set_set]
  apply List.ext_getElem?
  intro k
  rw [List.getElem?_set]
  by_cases h : i = k
  · subst h
    rw [if_pos rfl, if_pos hi, List.getD_eq_getElem?_getD, List.getElem?_eq_getElem hi]
    rfl
  · rw [if_neg h]
theorem own_lt {r : En} {i : Nat} {is : List Nat} (h : noOwn r (i :: is) = true) : i < r.length ∧ noOwn r is = true := by
  rw [noOwn_cons, Bool.and_eq_true] at h
  refine ⟨?_, h.2⟩
  have h1 := h.1
  cases hr : r[i]? with
  | none =>
    rw [hr] at h1
    cases h1
  | some s => exact (List.getElem?_eq_some_iff.mp hr).1
theorem po_LC1 {γ : Type} {X : Exn → En → Prop} {kk : RV → En → Prop} {src : M (List D)} {i : Nat} {te : M D} {r : En} (f g : γ → D) (xs : List γ) (hsrc : Wp X (src r) fun ds r' => ds = xs.map f ∧ r' = r) (ho : noOwn r [i] = true) (hl : xs.length ≤ 16777216) (hb : ∀ x ∈ xs, Wp (fun _ _ => False) (te (r.set i (.v (f x)))) fun y r3 => y = g x ∧ r3 = r.set i (.v (f x))) (hk : kk (.o (.l (xs.map g))) r) : Wp X (oComp src [i] (gN i) yes te r) kk := by
  rw [po_comp]
  refine po_mono hsrc ?_
  rintro _ _ ⟨rfl, rfl⟩
  refine ⟨ho, ?_⟩
  have hi := (own_lt ho).1
  rename_i q
  refine po_compM (f := f) (g := g) (fun r => ∃ s, r = q.set i s) xs [] q ⟨q[i], by rw [List.set_getElem_self]⟩ (by simpa using hl) ?_ ?_
  · rintro x hx _ ⟨s, rfl⟩
    refine ⟨q.set i (.v (f x)), ?_, po_mono (hb x hx) ?_⟩
    · simp [hi]
    · rintro y r3 ⟨h1, h2⟩
      exact ⟨h1, _, h2⟩
  · rintro _ ⟨s, rfl⟩
    rw [List.nil_append]
    simp only [wipe_cons, wipe_nil, back_cons, back_nil]
    rw [set_back _ _ _ _ hi]
    exact hk
/-! ### what can be told as a text -/
def Rq (dp bk : Nat) (d : D) : Prop := pln d = true ∧ d.depth ≤ dp ∧ d.bulk ≤ bk
theorem Rq.int {i : Int} (h : i.natAbs < 2 ^ 1900) : Rq 1 0 (.int i) := ⟨decide_eq_true h, by simp [PyData.depth], by simp [PyData.bulk]⟩
theorem Rq.mono {a b a' b' : Nat} {d : D} (h : Rq a b d) (h1 : a ≤ a') (h2 : b ≤ b') : Rq a' b' d := ⟨h.1, Nat.le_trans h.2.1 h1, Nat.le_trans h.2.2 h2⟩
theorem Rq.all {dp bk n : Nat} {ds : List D} (hl : ds.length ≤ n) (h : ∀ d ∈ ds, Rq dp bk d) : plnAll ds = true ∧ PyData.depthAll ds ≤ dp ∧ PyData.bulkAll ds ≤ (bk + 1) * n := by
  have e : ds.map (fun d : D => d) = ds := by simp
  have h1 := plnAll_map (fun d : D => d) ds fun d hd => (h d hd).1
  have h2 := depthAll_map (fun d : D => d) dp ds fun d hd => (h d hd).2.1
  have h3 := bulkAll_map (fun d : D => d) bk ds fun d hd => (h d hd).2.2
  rw [e] at h1 h2 h3
  exact ⟨h1, h2, Nat.le_trans h3 (Nat.mul_le_mul_left _ hl)⟩
theorem Rq.tup {dp bk n : Nat} {ds : List D} (hl : ds.length ≤ n) (h : ∀ d ∈ ds, Rq dp bk d) : Rq (dp + 1) ((bk + 1) * n) (.tuple ds) := by
  obtain ⟨h1, h2, h3⟩ := Rq.all hl h
  exact ⟨h1, by simp only [PyData.depth]; omega, by simp only [PyData.bulk]; exact h3⟩
theorem Rq.lst {dp bk n : Nat} {ds : List D} (hl : ds.length ≤ n) (h : ∀ d ∈ ds, Rq dp bk d) : Rq (dp + 1) ((bk + 1) * n) (.list ds) := by
  obtain ⟨h1, h2, h3⟩ := Rq.all hl h
  exact ⟨h1, by simp only [PyData.depth]; omega, by simp only [PyData.bulk]; exact h3⟩
@[simp] theorem eRemove_ap (i : Nat) (m : M D) (r : En) : eRemove i m r = (match getC i r with
  | some (.l _) => (m r).bind fun d r => match getC i r with
    | some (.l ds) => cI (SeqAt.shaped d = true ∧ SeqAt.shaped (.list ds) = true ∧ (SeqAt.dataPlace ds d).isSome = true) (.ok .none (putC i (.l (ds.eraseIdx ((SeqAt.dataPlace ds d).getD 0))) r)) .no
    | _ => .no
  | _ => .no) := rfl
@[simp] theorem eCount_ap (mo me : M D) (r : En) : eCount mo me r = (mo r).bind fun d r => (match d with
  | .list ds => (me r).bind fun b r => M.opt (countD (.list ds) b) r
  | _ => .no) := by
  show (mo r).bind (fun d => (match d with
  | .list ds => me.bind fun b => M.opt (countD (.list ds) b)
  | _ => M.no)) = _
  congr 1
  funext d r
  cases d <;> rfl
theorem countD_l (ds : List D) (d : D) (h : SeqAt.shaped d = true ∧ SeqAt.shaped (.list ds) = true) : countD (.list ds) d = some (.int ((ds.countP fun z => PyData.eqv z d : Nat) : Int)) := by
  show cI (SeqAt.shaped d = true ∧ SeqAt.shaped (.list ds) = true) (some (PyData.int ((ds.countP fun z => PyData.eqv z d : Nat) : Int))) none = _
  rw [cI_eq, if_pos h]
@[simp] theorem eGet_ap (i : Nat) (mk mx : M D) (r : En) : eGet i mk mx r = (match getC i r with
  | some (.d _) => (mk r).bind fun k r => (mx r).bind fun x r => (match getC i r with
    | some (.d kvs) => (match keyD k with
      | some y => .ok ((vK kvs y).getD x) r
      | none => .no)
    | _ => .no)
  | _ => .no) := rfl
@[simp] theorem eClear_ap (i : Nat) (r : En) : eClear i r = (match getC i r with
  | some (.l _) => .ok .none (putC i (.l []) r)
  | _ => .no) := rfl
@[simp] theorem zipW_tl (a b : List D) : zipW [.tuple a, .list b] = some (zipD a b) := rfl
@[simp] theorem zipW_ll (a b : List D) : zipW [.list a, .list b] = some (zipD a b) := rfl
@[simp] theorem eReprS_ap (i : Nat) (r : En) : eReprS i r = (match getC i r with
  | some (.l ds) => M.opt (reprD (.list ds)) r
  | some (.d _) => .no
  | some (.t _) => .no
  | some (.n (.l its)) => M.opt (reprD (.list (its.map Im.data))) r
  | some (.n _) => .no
  | none => nry (one reprD) (aCons (getS i) aNil) r) := rfl
@[simp] theorem eIsiS_ap (T : String) (i : Nat) (r : En) : eIsiS T i r = (match getC i r with
  | some (.l ds) => M.opt ((kitB "list" T).map PyData.bool) r
  | some (.d _) => M.opt ((kitB "dict" T).map PyData.bool) r
  | some (.t _) => .no
  | some (.n (.l _)) => M.opt ((kitB "list" T).map PyData.bool) r
  | some (.n _) => .no
  | none => una (isiD T) (getS i) r) := rfl
@[simp] theorem eTupS_ap (i : Nat) (r : En) : eTupS i r = (match getC i r with
  | some (.l ds) => .ok (.tuple ds) r
  | some (.d _) => .no
  | some (.t _) => .no
  | some (.n _) => .no
  | none => nry (one tupD) (aCons (getS i) aNil) r) := rfl
@[simp] theorem kit_ll : kitB "list" "list" = some true := by kernel_rfl
@[simp] theorem kit_lt : kitB "list" "tuple" = some false := by kernel_rfl
@[simp] theorem oListK_ap (i : Nat) (r : En) : oListK i r = (match getC i r with
  | some (.d kvs) => .ok (.o (.l (kvs.map fun kv => kD kv.1))) r
  | some (.l _) => .no
  | some (.t _) => .no
  | some (.n _) => .no
  | none => nryO listD (aCons (getS i) aNil) r) := rfl
@[simp] theorem oSortK_ap (i : Nat) (r : En) : oSortK i r = (match getC i r with
  | some (.d kvs) => (match intKs (kvs.map (·.1)) with
    | some is => cI (is.length < 64) (.ok (.o (.l ((isort is).map .int))) r) .no
    | none => .no)
  | some (.l _) => .no
  | some (.t _) => .no
  | some (.n _) => .no
  | none => nryO sortD (aCons (getS i) aNil) r) := rfl
@[simp] theorem maxdD_l (ns : List Int) (d : Int) : maxdD (.list (ns.map .int)) (.int d) = some (.int (maxI d ns)) := by
  show (intsOf (ns.map PyData.int)).map (fun ns => PyData.int (maxI d ns)) = _
  rw [intsOf_mp]
  rfl
@[simp] theorem noL_i (i : Int) : noL (.int i) = true := rfl
@[simp] theorem noL_t (ds : List D) : noL (.tuple ds) = noLAll ds := rfl
@[simp] theorem noL_nil : noLAll [] = true := rfl
@[simp] theorem kD_l (i : Int) : kD (.inl i) = .int i := rfl
theorem intKs_mp : ∀ is : List Int, intKs (is.map Sum.inl) = some is
  | [] => rfl
  | i :: is => by
    show (intKs (is.map Sum.inl)).map (i :: ·) = _
    rw [intKs_mp is]
    rfl
/-! ### what can be told as a text, of short numbers, much of it -/
def Rs (dp bk : Nat) (d : D) : Prop := (pln d = true ∧ d.leavesShort 60 = true) ∧ d.depth ≤ dp ∧ d.bulk ≤ bk
theorem leaves_all {k : Nat} : ∀ {ds : List D}, (∀ d ∈ ds, d.leavesShort k = true) → PyData.leavesShortAll k ds = true
  | [], _ => rfl
  | d :: ds, h => Bool.and_eq_true_iff.mpr ⟨h d (List.mem_cons_self ..), leaves_all fun x hx => h x (List.mem_cons_of_mem _ hx)⟩
theorem Rs.int {i : Int} (h : i.natAbs < 2 ^ 50) : Rs 1 0 (.int i) := ⟨⟨decide_eq_true (Nat.lt_of_lt_of_le h (Nat.pow_le_pow_right (by decide) (by decide))), decide_eq_true (by
  show (Str.ofString (toString i)).length ≤ 60
  rw [ofString_length]
  have := int_text_length_le (k := 50) (by decide) (PySem.Flt.log2_lt_of (by decide) h)
  omega)⟩, by simp [PyData.depth], by simp [PyData.bulk]⟩
theorem Rs.mono {a b a' b' : Nat} {d : D} (h : Rs a b d) (h1 : a ≤ a') (h2 : b ≤ b') : Rs a' b' d := ⟨h.1, Nat.le_trans h.2.1 h1, Nat.le_trans h.2.2 h2⟩
theorem Rs.all {dp bk n : Nat} {ds : List D} (hl : ds.length ≤ n) (h : ∀ d ∈ ds, Rs dp bk d) : plnAll ds = true ∧ PyData.leavesShortAll 60 ds = true ∧ PyData.depthAll ds ≤ dp ∧ PyData.bulkAll ds ≤ (bk + 1) * n := by
  have e : ds.map (fun d : D => d) = ds := by simp
  have h1 := plnAll_map (fun d : D => d) ds fun d hd => (h d hd).1.1
  have h2 := depthAll_map (fun d : D => d) dp ds fun d hd => (h d hd).2.1
  have h3 := bulkAll_map (fun d : D => d) bk ds fun d hd => (h d hd).2.2
  rw [e] at h1 h2 h3
  exact ⟨h1, leaves_all fun d hd => (h d hd).1.2, h2, Nat.le_trans h3 (Nat.mul_le_mul_left _ hl)⟩
theorem Rs.tup {dp bk n : Nat} {ds : List D} (hl : ds.length ≤ n) (h : ∀ d ∈ ds, Rs dp bk d) : Rs (dp + 1) ((bk + 1) * n) (.tuple ds) := by
  obtain ⟨h1, h4, h2, h3⟩ := Rs.all hl h
  exact ⟨⟨h1, h4⟩, by simp only [PyData.depth]; omega, by simp only [PyData.bulk]; exact h3⟩
theorem Rs.lst {dp bk n : Nat} {ds : List D} (hl : ds.length ≤ n) (h : ∀ d ∈ ds, Rs dp bk d) : Rs (dp + 1) ((bk + 1) * n) (.list ds) := by
  obtain ⟨h1, h4, h2, h3⟩ := Rs.all hl h
  exact ⟨⟨h1, h4⟩, by simp only [PyData.depth]; omega, by simp only [PyData.bulk]; exact h3⟩
theorem Rs.shaped {dp bk : Nat} {d : D} (h : Rs dp bk d) (h1 : dp ≤ 64) : SeqAt.shaped d = true := pln_shaped h.1.1 (Nat.le_trans h.2.1 h1)
theorem Rq.shaped {dp bk : Nat} {d : D} (h : Rq dp bk d) (h1 : dp ≤ 64) : SeqAt.shaped d = true := pln_shaped h.1 (Nat.le_trans h.2.1 h1)
theorem fdivLD_iff (i j : Int) (d : D) : (fdivLD (.int i) (.int j) = some d) = (j ≠ 0 ∧ .int (i.fdiv j) = d) := by
  show (cI (j ≠ 0) (some (PyData.int (i.fdiv j))) none = some d) = _
  rw [cI_eq]
  exact ite_some _ _ _
@[simp] theorem po_fdivL {X : Exn → En → Prop} {kd : D → En → Prop} (i j : Int) (r : En) : Wp X (M.opt (fdivLD (.int i) (.int j)) r) kd = (j ≠ 0 ∧ kd (.int (i.fdiv j)) r) := by
  simp only [wp_eq]
  rw [qo_opt]
  simp only [fdivLD_iff]
  exact propext ⟨fun ⟨_, ⟨h, e⟩, q⟩ => ⟨h, by rw [e]; exact q⟩, fun ⟨h, q⟩ => ⟨_, ⟨h, rfl⟩, q⟩⟩
end Pu
namespace St
/-! ### vectors, spans, stairs -/
abbrev Ve := Nat → Int
inductive Sp (S : Ve → Prop) : Ve → Prop
  | zero : Sp S (fun _ => 0)
  | step {x r : Ve} (k : Int) : S r → Sp S x → Sp S (fun i => x i + k * r i)
theorem Sp.cong {S : Ve → Prop} {x y : Ve} (h : Sp S x) (e : ∀ i, x i = y i) : Sp S y := by
  have : x = y := funext e
  exact this ▸ h
theorem Sp.of {S : Ve → Prop} {r : Ve} (h : S r) : Sp S r := (Sp.step 1 h .zero).cong fun i => by show (0:Int) + 1 * r i = r i; omega
theorem Sp.add {S : Ve → Prop} {x y : Ve} (hx : Sp S x) (hy : Sp S y) : Sp S (fun i => x i + y i) := by
  induction hy with
  | zero => exact hx.cong fun i => by simp
  | step k hr _ ih => exact (ih.step k hr).cong fun i => by simp [Int.add_assoc]
theorem Sp.smul {S : Ve → Prop} {x : Ve} (c : Int) (hx : Sp S x) : Sp S (fun i => c * x i) := by
  induction hx with
  | zero => exact Sp.zero.cong fun i => by simp
  | step k hr _ ih => exact (ih.step (c * k) hr).cong fun i => by simp [Int.mul_add, Int.mul_assoc]
theorem Sp.subm {S : Ve → Prop} {x y : Ve} (c : Int) (hx : Sp S x) (hy : Sp S y) : Sp S (fun i => x i - c * y i) :=
  (hx.add (hy.smul (-c))).cong fun i => by rw [Int.neg_mul]; rfl
theorem Sp.le {S T : Ve → Prop} (h : ∀ r, S r → Sp T r) {x : Ve} (hx : Sp S x) : Sp T x := by
  induction hx with
  | zero => exact .zero
  | step k hr _ ih => exact ih.add ((h _ hr).smul k)
theorem Sp.mono {S T : Ve → Prop} (h : ∀ r, S r → T r) {x : Ve} (hx : Sp S x) : Sp T x := hx.le fun r hr => .of (h r hr)
theorem Sp.at0 {S : Ve → Prop} {i : Nat} (h : ∀ r, S r → r i = 0) {x : Ve} (hx : Sp S x) : x i = 0 := by
  induction hx with
  | zero => rfl
  | step k hr _ ih => simp [ih, h _ hr]
theorem Sp.dvd {S : Ve → Prop} {i : Nat} {d : Int} (h : ∀ r, S r → d ∣ r i) {x : Ve} (hx : Sp S x) : d ∣ x i := by
  induction hx with
  | zero => exact Int.dvd_zero d
  | step k hr _ ih => exact Int.dvd_add ih (Int.dvd_trans (h _ hr) ⟨k, by rw [Int.mul_comm]⟩)
/-- the span of a list -/
abbrev Sl (l : List Ve) (x : Ve) : Prop := Sp (fun r => r ∈ l) x
theorem sl_nil {x : Ve} : Sl [] x ↔ ∀ i, x i = 0 := by
  constructor
  · intro h i
    exact Sp.at0 (fun r hr => absurd hr (by simp)) h
  · intro h
    exact Sp.zero.cong fun i => (h i).symm
theorem sl_cons {a : Ve} {t : List Ve} {x : Ve} : Sl (a :: t) x ↔ ∃ c : Int, Sl t (fun i => x i - c * a i) := by
  constructor
  · intro h
    induction h with
    | zero => exact ⟨0, Sp.zero.cong fun i => by simp⟩
    | step k hr _ ih =>
      obtain ⟨c, hc⟩ := ih
      rcases List.mem_cons.mp hr with rfl | hr
      · exact ⟨c + k, hc.cong fun i => by simp only [Int.add_mul]; omega⟩
      · exact ⟨c, (hc.step k hr).cong fun i => by simp only []; omega⟩
  · rintro ⟨c, h⟩
    have h1 : Sl (a :: t) (fun i => x i - c * a i) := Sp.mono (fun r hr => List.mem_cons_of_mem _ hr) h
    exact (h1.step c (List.mem_cons_self ..)).cong fun i => by show x i - c * a i + c * a i = x i; omega
/-- the foot of a vector -/
def Ft (r : Ve) (k : Nat) : Prop := (∀ i, i < k → r i = 0) ∧ 0 < r k
theorem Ft.uniq {r : Ve} {j k : Nat} (a : Ft r j) (b : Ft r k) : j = k := by
  rcases Nat.lt_trichotomy j k with h | h | h
  · have := b.1 j h
    have := a.2
    omega
  · exact h
  · have := a.1 k h
    have := b.2
    omega
/-- a stair -/
inductive Stair : List Ve → Prop
  | nil : Stair []
  | cons {a : Ve} {t : List Ve} {k : Nat} : Ft a k → (∀ r ∈ t, ∀ i, i ≤ k → r i = 0) → (∀ r ∈ t, ∀ j, Ft r j → 0 ≤ a j ∧ a j < r j) → Stair t → Stair (a :: t)
theorem Stair.ft {l : List Ve} (h : Stair l) : ∀ r ∈ l, ∃ k, Ft r k := by
  induction h with
  | nil => intro r hr; cases hr
  | cons hk _ _ _ ih =>
    intro r hr
    rcases List.mem_cons.mp hr with rfl | hr
    · exact ⟨_, hk⟩
    · exact ih r hr
/-- what is reached, seen from the first row -/
theorem Stair.red {a : Ve} {t : List Ve} {k : Nat} {x : Ve} (hk : Ft a k) (hz : ∀ r ∈ t, ∀ i, i ≤ k → r i = 0) : Sl (a :: t) x ↔ (a k ∣ x k ∧ Sl t (fun i => x i - (x k).fdiv (a k) * a i)) := by
  rw [sl_cons]
  constructor
  · rintro ⟨c, h⟩
    have h0 : x k - c * a k = 0 := Sp.at0 (fun r hr => hz r hr k (Nat.le_refl _)) h
    have e : x k = a k * c := by rw [Int.mul_comm]; omega
    refine ⟨⟨c, e⟩, ?_⟩
    have q : (x k).fdiv (a k) = c := by rw [e]; exact Int.mul_fdiv_cancel_left _ (by have := hk.2; omega)
    rw [q]
    exact h
  · rintro ⟨_, h⟩
    exact ⟨_, h⟩
/-- a vector of the span that is small at all feet is nought -/
theorem Stair.small {l : List Ve} (h : Stair l) : ∀ {x : Ve}, Sl l x → (∀ r ∈ l, ∀ k, Ft r k → -(r k) < x k ∧ x k < r k) → ∀ i, x i = 0 := by
  induction h with
  | nil => intro x hx _; exact sl_nil.mp hx
  | @cons a t k hk hz hr _ ih =>
    intro x hx hs
    obtain ⟨⟨c, hc⟩, h2⟩ := (Stair.red hk hz).mp hx
    have hb := hs a (List.mem_cons_self ..) k hk
    have hp := hk.2
    have c0 : c = 0 := by
      rcases Int.lt_trichotomy c 0 with h | h | h
      · have h3 : a k * c ≤ a k * (-1) := Int.mul_le_mul_of_nonneg_left (by omega) (by omega)
        omega
      · exact h
      · have h3 : a k * 1 ≤ a k * c := Int.mul_le_mul_of_nonneg_left (by omega) (by omega)
        omega
    rw [c0, Int.mul_zero] at hc
    rw [hc, Int.zero_fdiv] at h2
    exact ih (h2.cong fun i => by simp) fun r hr => hs r (List.mem_cons_of_mem _ hr)
/-- the span of the rest: what is 0 at the first foot -/
theorem Stair.rest {a : Ve} {t : List Ve} {k : Nat} {x : Ve} (hk : Ft a k) (hz : ∀ r ∈ t, ∀ i, i ≤ k → r i = 0) : Sl t x ↔ (Sl (a :: t) x ∧ x k = 0) := by
  constructor
  · intro h
    exact ⟨Sp.mono (fun r hr => List.mem_cons_of_mem _ hr) h, Sp.at0 (fun r hr => hz r hr k (Nat.le_refl _)) h⟩
  · rintro ⟨h, h0⟩
    have := ((Stair.red hk hz).mp h).2
    rw [h0, Int.zero_fdiv] at this
    exact this.cong fun i => by simp
theorem dvd_pos_eq {a b : Int} (ha : 0 < a) (hb : 0 < b) (h1 : a ∣ b) (h2 : b ∣ a) : a = b := Int.le_antisymm (Int.le_of_dvd hb h1) (Int.le_of_dvd ha h2)
theorem Stair.uniq : ∀ {l m : List Ve}, Stair l → Stair m → (∀ x, Sl l x ↔ Sl m x) → l = m := by
  intro l m hl
  induction hl generalizing m with
  | nil =>
    intro hm h
    cases hm with
    | nil => rfl
    | @cons b s j hj _ _ _ =>
      have := (h b).mpr (.of (List.mem_cons_self ..))
      have := sl_nil.mp this j
      have := hj.2
      omega
  | @cons a t k hk hz hr ht ih =>
    intro hm h
    cases hm with
    | nil =>
      have := (h a).mp (.of (List.mem_cons_self ..))
      have := sl_nil.mp this k
      have := hk.2
      omega
    | @cons b s j hj hzj hrj hs =>
      have ha : Sl (b :: s) a := (h a).mp (.of (List.mem_cons_self ..))
      have hb : Sl (a :: t) b := (h b).mpr (.of (List.mem_cons_self ..))
      have e : k = j := by
        have z1 : ∀ i, i < j → a i = 0 := fun i hi => Sp.at0 (fun r hr => by
          rcases List.mem_cons.mp hr with rfl | hr
          · exact hj.1 i hi
          · exact hzj r hr i (by omega)) ha
        have z2 : ∀ i, i < k → b i = 0 := fun i hi => Sp.at0 (fun r hr => by
          rcases List.mem_cons.mp hr with rfl | hr
          · exact hk.1 i hi
          · exact hz r hr i (by omega)) hb
        rcases Nat.lt_trichotomy k j with q | q | q
        · have := z1 k q
          have := hk.2
          omega
        · exact q
        · have := z2 j q
          have := hj.2
          omega
      subst e
      have eq : a k = b k := dvd_pos_eq hk.2 hj.2 ((Stair.red hk hz).mp hb).1 ((Stair.red hj hzj).mp ha).1
      have hts : ∀ x, Sl t x ↔ Sl s x := fun x => by rw [Stair.rest hk hz, Stair.rest hj hzj, h x]
      have ets : t = s := ih hs hts
      subst ets
      have hd : Sl (a :: t) (fun i => a i - 1 * b i) := (Sp.of (List.mem_cons_self ..)).subm 1 hb
      have hd2 : Sl t (fun i => a i - 1 * b i) := (Stair.rest hk hz).mpr ⟨hd, by simp [eq]⟩
      have hzero := ht.small hd2 fun r hr2 q hq => by
        have h1 := hr r hr2 q hq
        have h2 := hrj r hr2 q hq
        constructor <;> omega
      have eab : a = b := funext fun i => by
        have := hzero i
        omega
      rw [eab]
/-! ### pairs of a row and its mixing -/
abbrev P2 := List Int × List Int
def vec (l : List Int) : Ve := fun i => l.getD i 0
def lsl (a b : List Int) (m : Int) : List Int := List.zipWith (fun x y => x - m * y) a b
def less (p q : P2) (m : Int) : P2 := (lsl p.1 q.1 m, lsl p.2 q.2 m)
theorem vec_nil (i : Nat) : vec [] i = 0 := rfl
theorem vec_out {l : List Int} {i : Nat} (h : l.length ≤ i) : vec l i = 0 := by
  unfold vec
  rw [List.getD_eq_getElem?_getD, List.getElem?_eq_none h]
  rfl
theorem vec_get {l : List Int} {i : Nat} (h : i < l.length) : vec l i = l[i] := by
  unfold vec
  rw [List.getD_eq_getElem?_getD, List.getElem?_eq_getElem h]
  rfl
theorem vec_mem {l : List Int} {i : Nat} (h : i < l.length) : vec l i ∈ l := by
  rw [vec_get h]
  exact List.getElem_mem h
theorem vec_ext {a b : List Int} (h : a.length = b.length) (e : ∀ i, vec a i = vec b i) : a = b := List.ext_getElem h fun i h1 h2 => by
  have := e i
  rwa [vec_get h1, vec_get h2] at this
theorem len_lsl {a b : List Int} {m : Int} (h : a.length = b.length) : (lsl a b m).length = a.length := by simp [lsl, h]
theorem vec_lsl : ∀ {a b : List Int} {m : Int}, a.length = b.length → ∀ i, vec (lsl a b m) i = vec a i - m * vec b i
  | [], [], m, _, i => by simp [lsl, vec_nil]
  | x :: a, y :: b, m, h, 0 => rfl
  | x :: a, y :: b, m, h, i + 1 => by
    show vec (lsl a b m) i = vec a i - m * vec b i
    exact vec_lsl (by simpa using h) i
  | [], _ :: _, _, h, _ => by simp at h
  | _ :: _, [], _, h, _ => by simp at h
theorem mem_lsl : ∀ {a b : List Int} {m e : Int}, e ∈ lsl a b m → ∃ x ∈ a, ∃ y ∈ b, e = x - m * y
  | [], _, m, e, h => by simp [lsl] at h
  | _ :: _, [], m, e, h => by simp [lsl] at h
  | x :: a, y :: b, m, e, h => by
    rcases List.mem_cons.mp (show e ∈ (x - m * y) :: lsl a b m from h) with rfl | h
    · exact ⟨x, List.mem_cons_self .., y, List.mem_cons_self .., rfl⟩
    · obtain ⟨x', hx, y', hy, e⟩ := mem_lsl h
      exact ⟨x', List.mem_cons_of_mem _ hx, y', List.mem_cons_of_mem _ hy, e⟩
/-- rows mixed by numbers -/
def dot : List Int → List (List Int) → Ve
  | c :: m, r :: rs => fun i => c * vec r i + dot m rs i
  | _, _ => fun _ => 0
theorem dot_lsl : ∀ {a b : List Int} {m : Int} {rs : List (List Int)}, a.length = b.length → ∀ i, dot (lsl a b m) rs i = dot a rs i - m * dot b rs i
  | [], [], m, rs, _, i => by simp [lsl, dot]
  | x :: a, y :: b, m, [], h, i => by simp [lsl, dot]
  | x :: a, y :: b, m, r :: rs, h, i => by
    show (x - m * y) * vec r i + dot (lsl a b m) rs i = (x * vec r i + dot a rs i) - m * (y * vec r i + dot b rs i)
    rw [dot_lsl (by simpa using h) i, Int.sub_mul, Int.mul_add, Int.mul_assoc]
    omega
  | [], _ :: _, _, _, h, _ => by simp at h
  | _ :: _, [], _, _, h, _ => by simp at h
/-! ### the numbers at a place -/
theorem fdiv_fmod (v f : Int) : v - v.fdiv f * f = v.fmod f := by
  have := Int.mul_fdiv_add_fmod v f
  rw [Int.mul_comm] at this
  omega
theorem fmod_sgn {v f : Int} (h : f ≠ 0) : (0 < f → 0 ≤ v.fmod f ∧ v.fmod f < f) ∧ (f < 0 → f < v.fmod f ∧ v.fmod f ≤ 0) := by
  constructor
  · intro hf
    exact ⟨Int.fmod_nonneg_of_pos _ hf, Int.fmod_lt_of_pos _ hf⟩
  · intro hf
    have e : v.fmod f = -((-v).fmod (-f)) := by
      rw [Int.neg_fmod_neg]
      omega
    have h1 := Int.fmod_nonneg_of_pos (-v) (show 0 < -f by omega)
    have h2 := Int.fmod_lt_of_pos (-v) (show 0 < -f by omega)
    omega
/-- |v // f| times |f| -/
theorem fdiv_abs {v f : Int} (h : f ≠ 0) : (v.fdiv f).natAbs * f.natAbs ≤ v.natAbs + f.natAbs := by
  rw [← Int.natAbs_mul]
  have e := fdiv_fmod v f
  have s := fmod_sgn (v := v) h
  rcases Int.lt_or_gt_of_ne h with hf | hf
  · have := s.2 hf
    omega
  · have := s.1 hf
    omega
theorem fdiv_abs1 {v f : Int} (h : f ≠ 0) : (v.fdiv f).natAbs ≤ v.natAbs + 1 := by
  have h1 := fdiv_abs (v := v) h
  have h2 : 1 ≤ f.natAbs := by omega
  rcases Nat.lt_or_ge (v.natAbs + 1) (v.fdiv f).natAbs with q | q
  · exfalso
    have h3 : (v.natAbs + 2) * f.natAbs ≤ (v.fdiv f).natAbs * f.natAbs := Nat.mul_le_mul_right _ q
    have h4 : v.natAbs * 1 ≤ v.natAbs * f.natAbs := Nat.mul_le_mul_left _ h2
    rw [Nat.add_mul] at h3
    omega
  · exact q
/-! ### gathering at a place -/
abbrev vt (p : P2) (k : Nat) : Int := vec p.1 k
structure GS (rs : List (List Int)) (w n k : Nat) (T : Ve → Prop) (l : List P2) : Prop where
  len : ∀ p ∈ l, p.1.length = w ∧ p.2.length = n
  mx : ∀ p ∈ l, ∀ i, vec p.1 i = dot p.2 rs i
  sp : ∀ x, Sl (l.map fun p => vec p.1) x ↔ T x
  z : ∀ p ∈ l, ∀ i, i < k → vec p.1 i = 0
theorem GS.perm {rs : List (List Int)} {w n k : Nat} {T : Ve → Prop} {l l' : List P2} (h : GS rs w n k T l) (e : ∀ p, p ∈ l' ↔ p ∈ l) : GS rs w n k T l' where
  len := fun p hp => h.len p ((e p).mp hp)
  mx := fun p hp => h.mx p ((e p).mp hp)
  sp := fun x => by
    rw [← h.sp x]
    have q : ∀ y, y ∈ l'.map (fun p => vec p.1) ↔ y ∈ l.map (fun p => vec p.1) := fun y => by
      simp only [List.mem_map]
      constructor
      · rintro ⟨p, h1, h2⟩
        exact ⟨p, (e p).mp h1, h2⟩
      · rintro ⟨p, h1, h2⟩
        exact ⟨p, (e p).mpr h1, h2⟩
    exact ⟨Sp.mono fun r hr => (q r).mp hr, Sp.mono fun r hr => (q r).mpr hr⟩
  z := fun p hp => h.z p ((e p).mp hp)
/-- the members of l' are f, a keeping rest, and the others less so many times f -/
theorem GS.step {rs : List (List Int)} {w n k : Nat} {T : Ve → Prop} {l l' rest oth : List P2} {f : P2} {m : P2 → Int} (h : GS rs w n k T l) (e : ∀ p, p ∈ l ↔ p = f ∨ p ∈ rest ∨ p ∈ oth)
    (e' : ∀ p, p ∈ l' ↔ p = f ∨ p ∈ rest ∨ ∃ q ∈ oth, p = less q f (m q)) : GS rs w n k T l' := by
  have hf : f ∈ l := (e f).mpr (.inl rfl)
  have lf := h.len f hf
  have ln : ∀ q ∈ oth, q.1.length = f.1.length ∧ q.2.length = f.2.length := fun q hq => by
    have := h.len q ((e q).mpr (.inr (.inr hq)))
    omega
  refine ⟨fun p hp => ?_, fun p hp i => ?_, fun x => ?_, fun p hp i hi => ?_⟩
  · rcases (e' p).mp hp with rfl | hp | ⟨q, hq, rfl⟩
    · exact lf
    · exact h.len p ((e p).mpr (.inr (.inl hp)))
    · have l1 := ln q hq
      have l2 := h.len q ((e q).mpr (.inr (.inr hq)))
      exact ⟨(len_lsl l1.1).trans l2.1, (len_lsl l1.2).trans l2.2⟩
  · rcases (e' p).mp hp with rfl | hp | ⟨q, hq, rfl⟩
    · exact h.mx _ hf i
    · exact h.mx p ((e p).mpr (.inr (.inl hp))) i
    · have l1 := ln q hq
      show vec (lsl q.1 f.1 (m q)) i = dot (lsl q.2 f.2 (m q)) rs i
      rw [vec_lsl l1.1, dot_lsl l1.2, h.mx q ((e q).mpr (.inr (.inr hq))), h.mx f hf]
  · rw [← h.sp x]
    constructor
    · refine Sp.le fun r hr => ?_
      obtain ⟨p, hp, rfl⟩ := List.mem_map.mp hr
      have mem : ∀ p ∈ l, Sl (l.map fun p => vec p.1) (vec p.1) := fun p hp => .of (List.mem_map.mpr ⟨p, hp, rfl⟩)
      rcases (e' p).mp hp with rfl | hp | ⟨q, hq, rfl⟩
      · exact mem _ hf
      · exact mem p ((e p).mpr (.inr (.inl hp)))
      · exact ((mem q ((e q).mpr (.inr (.inr hq)))).subm (m q) (mem f hf)).cong fun i => (vec_lsl (ln q hq).1 i).symm
    · refine Sp.le fun r hr => ?_
      obtain ⟨p, hp, rfl⟩ := List.mem_map.mp hr
      have mem : ∀ p ∈ l', Sl (l'.map fun p => vec p.1) (vec p.1) := fun p hp => .of (List.mem_map.mpr ⟨p, hp, rfl⟩)
      have mf := mem f ((e' f).mpr (.inl rfl))
      rcases (e p).mp hp with rfl | hp | hp
      · exact mf
      · exact mem p ((e' p).mpr (.inr (.inl hp)))
      · exact ((mem _ ((e' _).mpr (.inr (.inr ⟨p, hp, rfl⟩)))).subm (-(m p)) mf).cong fun i => by
          show vec (lsl p.1 f.1 (m p)) i - -(m p) * vec f.1 i = vec p.1 i
          rw [vec_lsl (ln p hp).1, Int.neg_mul]
          omega
  · rcases (e' p).mp hp with rfl | hp | ⟨q, hq, rfl⟩
    · exact h.z _ hf i hi
    · exact h.z p ((e p).mpr (.inr (.inl hp))) i hi
    · show vec (lsl q.1 f.1 (m q)) i = 0
      rw [vec_lsl (ln q hq).1, h.z q ((e q).mpr (.inr (.inr hq))) i hi, h.z f hf i hi]
      simp
/-! ### how great the numbers grow -/
abbrev Ent (p : P2) (e : Int) : Prop := e ∈ p.1 ∨ e ∈ p.2
theorem ent_less {p f : P2} {m e : Int} (h : Ent (less p f m) e) : ∃ x y, Ent p x ∧ Ent f y ∧ e = x - m * y := by
  rcases h with h | h
  · obtain ⟨x, hx, y, hy, e⟩ := mem_lsl h
    exact ⟨x, y, .inl hx, .inl hy, e⟩
  · obtain ⟨x, hx, y, hy, e⟩ := mem_lsl h
    exact ⟨x, y, .inr hx, .inr hy, e⟩
theorem abs_sub_mul (x m y : Int) : (x - m * y).natAbs ≤ x.natAbs + m.natAbs * y.natAbs := by
  rw [← Int.natAbs_mul]
  omega
/-- all numbers are at most M; or: same signs s, values at most P, f one of the values -/
def Phase (M : Nat) (k : Nat) (some : List P2) : Prop :=
  (∀ p ∈ some, ∀ e, Ent p e → e.natAbs ≤ M) ∨
  ∃ (s : Int) (P f : Nat), (s = 1 ∨ s = -1) ∧ (∀ p ∈ some, ∃ v : Nat, 0 < v ∧ v ≤ P ∧ vt p k = s * v) ∧ (∃ p ∈ some, vt p k = s * f) ∧ ∀ p ∈ some, ∀ e, Ent p e → e.natAbs ^ 2 * P ^ 2 * f ≤ 9 * M ^ 5
theorem sq_le {a b : Nat} (h : a ≤ b) : a ^ 2 ≤ b ^ 2 := Nat.pow_le_pow_left h 2
theorem exists_min {α : Type} (f : α → Nat) : ∀ (l : List α), l ≠ [] → ∃ a ∈ l, ∀ b ∈ l, f a ≤ f b
  | [], h => absurd rfl h
  | [a], _ => ⟨a, List.mem_cons_self .., fun b hb => by rw [List.mem_singleton.mp hb]; exact Nat.le_refl _⟩
  | a :: b :: t, _ => by
    obtain ⟨c, hc, h⟩ := exists_min f (b :: t) (by simp)
    by_cases q : f a ≤ f c
    · refine ⟨a, List.mem_cons_self .., fun d hd => ?_⟩
      rcases List.mem_cons.mp hd with rfl | hd
      · exact Nat.le_refl _
      · exact Nat.le_trans q (h d hd)
    · refine ⟨c, List.mem_cons_of_mem _ hc, fun d hd => ?_⟩
      rcases List.mem_cons.mp hd with rfl | hd
      · omega
      · exact h d hd
/-- (1 + q)^2 f r is at most (q f + r)^2 -/
theorem key_ineq {q f r : Nat} (hq : 1 ≤ q) (hr : r ≤ f) : (1 + q) ^ 2 * (f * r) ≤ (q * f + r) ^ 2 := by
  obtain ⟨d, rfl⟩ := Nat.exists_eq_add_of_le hr
  obtain ⟨c, rfl⟩ := Nat.exists_eq_add_of_le hq
  -- (1+q)^2 (r+d) r + d (q^2 (r+d) - r) = (q (r+d) + r)^2
  have e : (((1 + c) * (r + d) + r) ^ 2 : Int) = (1 + (1 + c)) ^ 2 * ((r + d) * r) + d * ((1 + c) ^ 2 * (r + d) - r) := by
    generalize (c : Int) = c
    generalize (r : Int) = r
    generalize (d : Int) = d
    simp only [Int.pow_succ, Int.pow_zero, Int.mul_add, Int.add_mul, Int.mul_sub, Int.sub_mul, Int.one_mul, Int.mul_one]
    have h1 : c * r = r * c := Int.mul_comm ..
    have h2 : d * r = r * d := Int.mul_comm ..
    have h3 : c * d = d * c := Int.mul_comm ..
    simp only [Int.mul_assoc, Int.mul_comm, Int.mul_left_comm]
    omega
  have nn : (0 : Int) ≤ (d : Int) * ((1 + (c : Int)) ^ 2 * ((r : Int) + d) - r) := by
    refine Int.mul_nonneg (Int.natCast_nonneg _) ?_
    have h1 : (1 : Int) ≤ (1 + (c : Int)) ^ 2 := by
      have : (1 : Int) ≤ 1 + c := by omega
      have := Int.mul_le_mul this this (by omega) (by omega)
      simpa [Int.pow_succ] using this
    have h2 : (1 : Int) * ((r : Int) + d) ≤ (1 + (c : Int)) ^ 2 * ((r : Int) + d) := Int.mul_le_mul_of_nonneg_right h1 (by omega)
    omega
  have fin : (((1 + (1 + c)) ^ 2 * ((r + d) * r) : Nat) : Int) ≤ (((1 + c) * (r + d) + r) ^ 2 : Nat) := by
    push_cast
    omega
  exact Int.ofNat_le.mp fin
theorem vt_less {q f : P2} {m : Int} (h : q.1.length = f.1.length) (k : Nat) : vt (less q f m) k = vt q k - m * vt f k := vec_lsl h k
theorem vt_ent {p : P2} {k : Nat} (h : vt p k ≠ 0) : Ent p (vt p k) := by
  refine .inl (vec_mem ?_)
  rcases Nat.lt_or_ge k p.1.length with q | q
  · exact q
  · exact absurd (vec_out q) h
theorem fdiv_s {s : Int} {v f : Nat} (hs : s = 1 ∨ s = -1) (hf : 0 < f) : (s * v).fdiv (s * f) = ((v / f : Nat) : Int) := by
  rcases hs with rfl | rfl
  · simp only [Int.one_mul]
    rw [Int.fdiv_eq_ediv_of_nonneg _ (by omega)]
    rfl
  · rw [Int.neg_mul, Int.one_mul, Int.neg_mul, Int.one_mul, Int.neg_fdiv_neg, Int.fdiv_eq_ediv_of_nonneg _ (by omega)]
    rfl
theorem abs_s {s : Int} {v : Nat} (hs : s = 1 ∨ s = -1) : (s * v).natAbs = v := by
  rcases hs with rfl | rfl <;> omega
theorem Phase.step {M k : Nat} {some oth some' : List P2} {f : P2} (hM : 1 ≤ M) (h : Phase M k some) (hf : f ∈ some) (hmin : ∀ p ∈ some, (vt f k).natAbs ≤ (vt p k).natAbs) (hnz : ∀ p ∈ some, vt p k ≠ 0) (ho : ∀ q ∈ oth, q ∈ some) (hl : ∀ q ∈ oth, q.1.length = f.1.length)
    (hs' : ∀ p, p ∈ some' ↔ p = f ∨ ∃ q ∈ oth, p = less q f ((vt q k).fdiv (vt f k)) ∧ vt p k ≠ 0) :
    Phase M k some' ∧ ∀ q ∈ oth, vt (less q f ((vt q k).fdiv (vt f k))) k = 0 → ∀ e, Ent (less q f ((vt q k).fdiv (vt f k))) e → e.natAbs ^ 2 ≤ 36 * M ^ 5 := by
  have f0 : vt f k ≠ 0 := hnz f hf
  have res : ∀ q ∈ oth, vt (less q f ((vt q k).fdiv (vt f k))) k = (vt q k).fmod (vt f k) := fun q hq => by rw [vt_less (hl q hq), fdiv_fmod]
  rcases h with h | ⟨s, P, g, hs, hv, ⟨p0, hp0, hg⟩, hb⟩
  · generalize hF : (vt f k).natAbs = F
    have F1 : 1 ≤ F := by omega
    have FM : F ≤ M := by
      rw [← hF]
      exact h f hf _ (vt_ent f0)
    obtain ⟨s, hs, hsf⟩ : ∃ s : Int, (s = 1 ∨ s = -1) ∧ vt f k = s * F := by
      rcases Int.lt_or_gt_of_ne f0 with q | q
      · exact ⟨-1, .inr rfl, by omega⟩
      · exact ⟨1, .inl rfl, by omega⟩
    have vM : ∀ q ∈ oth, (vt q k).natAbs ≤ M := fun q hq => h q (ho q hq) _ (vt_ent (hnz q (ho q hq)))
    constructor
    · refine .inr ⟨s, F, F, hs, fun p hp => ?_, ⟨f, (hs' f).mpr (.inl rfl), hsf⟩, fun p hp e he => ?_⟩
      · rcases (hs' p).mp hp with rfl | ⟨q, hq, rfl, h2⟩
        · exact ⟨F, F1, Nat.le_refl _, hsf⟩
        · rw [res q hq] at h2 ⊢
          have sg := fmod_sgn (v := vt q k) f0
          refine ⟨((vt q k).fmod (vt f k)).natAbs, by omega, ?_, ?_⟩
          · rcases Int.lt_or_gt_of_ne f0 with q | q
            · have := sg.2 q
              omega
            · have := sg.1 q
              omega
          · rcases hs with rfl | rfl
            · have := sg.1 (by omega)
              omega
            · have := sg.2 (by omega)
              omega
      · have key : e.natAbs * F ≤ 3 * M ^ 2 := by
          rcases (hs' p).mp hp with rfl | ⟨q, hq, rfl, h2⟩
          · have h1 : e.natAbs * F ≤ M * M := Nat.mul_le_mul (h _ hf e he) FM
            have : M ^ 2 = M * M := Nat.pow_two M
            omega
          · obtain ⟨x, y, hx, hy, rfl⟩ := ent_less he
            have b1 := h q (ho q hq) x hx
            have b2 := h f hf y hy
            have b3 := fdiv_abs (v := vt q k) f0
            rw [hF] at b3
            have b4 := abs_sub_mul x ((vt q k).fdiv (vt f k)) y
            have b5 := vM q hq
            generalize ((vt q k).fdiv (vt f k)).natAbs = m at b3 b4
            have c1 : (x - (vt q k).fdiv (vt f k) * y).natAbs * F ≤ (x.natAbs + m * y.natAbs) * F := Nat.mul_le_mul_right _ b4
            have c2 : x.natAbs * F ≤ M * M := Nat.mul_le_mul b1 FM
            have c3 : (m * F) * y.natAbs ≤ (M + M) * M := Nat.mul_le_mul (by omega) b2
            have c4 : (x.natAbs + m * y.natAbs) * F = x.natAbs * F + (m * F) * y.natAbs := by grind
            have c5 : (M + M) * M = 2 * (M * M) := by grind
            have c6 : M ^ 2 = M * M := Nat.pow_two M
            omega
        calc e.natAbs ^ 2 * F ^ 2 * F = (e.natAbs * F) ^ 2 * F := by grind
          _ ≤ (3 * M ^ 2) ^ 2 * M := Nat.mul_le_mul (sq_le key) FM
          _ = 9 * M ^ 5 := by grind
    · intro q hq h0 e he
      obtain ⟨x, y, hx, hy, rfl⟩ := ent_less he
      have b1 := h q (ho q hq) x hx
      have b2 := h f hf y hy
      have b4 := abs_sub_mul x ((vt q k).fdiv (vt f k)) y
      have b5 := vM q hq
      rw [vt_less (hl q hq)] at h0
      have e1 : vt q k = (vt q k).fdiv (vt f k) * vt f k := by omega
      have e2 : (vt q k).natAbs = ((vt q k).fdiv (vt f k)).natAbs * (vt f k).natAbs := by rw [← Int.natAbs_mul, ← e1]
      generalize ((vt q k).fdiv (vt f k)).natAbs = m at b4 e2
      rw [hF] at e2
      have b6 : m * 1 ≤ m * F := Nat.mul_le_mul_left _ F1
      have b7 : m * y.natAbs ≤ M * M := Nat.mul_le_mul (by omega) b2
      have b8 : M * 1 ≤ M * M := Nat.mul_le_mul_left _ hM
      have b9 : (x - (vt q k).fdiv (vt f k) * y).natAbs ≤ 2 * (M * M) := by omega
      refine Nat.le_trans (sq_le b9) ?_
      calc (2 * (M * M)) ^ 2 = 4 * M ^ 4 * 1 := by grind
        _ ≤ 4 * M ^ 4 * (9 * M) := Nat.mul_le_mul_left _ (by omega)
        _ = 36 * M ^ 5 := by grind
  · obtain ⟨F, F1, FP, hF⟩ := hv f hf
    have Fg : F ≤ g := by
      have := hmin p0 hp0
      rw [hF, hg, abs_s hs, abs_s hs] at this
      exact this
    have E : ∀ p ∈ some, ∀ x, Ent p x → ∀ q ∈ some, ∀ y, Ent q y → ∃ z : Nat, x.natAbs ≤ z ∧ y.natAbs ≤ z ∧ z ^ 2 * P ^ 2 * g ≤ 9 * M ^ 5 := fun p hp x hx q hq y hy => by
      rcases Nat.le_total x.natAbs y.natAbs with c | c
      · exact ⟨y.natAbs, c, Nat.le_refl _, hb q hq y hy⟩
      · exact ⟨x.natAbs, Nat.le_refl _, c, hb p hp x hx⟩
    have rd : ∀ q ∈ oth, ∃ v : Nat, vt q k = s * v ∧ F ≤ v ∧ v ≤ P ∧ (vt q k).fdiv (vt f k) = ((v / F : Nat) : Int) ∧ vt (less q f ((vt q k).fdiv (vt f k))) k = s * (v % F : Nat) := fun q hq => by
      obtain ⟨v, v1, v2, v3⟩ := hv q (ho q hq)
      have := hmin q (ho q hq)
      rw [hF, v3, abs_s hs, abs_s hs] at this
      have e : (vt q k).fdiv (vt f k) = ((v / F : Nat) : Int) := by rw [v3, hF, fdiv_s hs F1]
      refine ⟨v, v3, this, v2, e, ?_⟩
      rw [vt_less (hl q hq), e, v3, hF]
      have d : ((F * (v / F) + v % F : Nat) : Int) = (v : Int) := congrArg Int.ofNat (Nat.div_add_mod v F)
      rw [Int.natCast_add, Int.natCast_mul] at d
      rw [← d]
      have c1 : ((v / F : Nat) : Int) * (s * (F : Int)) = s * ((F : Int) * ((v / F : Nat) : Int)) := by grind
      rw [d, c1, ← d, Int.mul_add]
      have : ((F * (v / F) + v % F : Nat) : Int) = (F : Int) * ((v / F : Nat) : Int) + ((v % F : Nat) : Int) := by rw [Int.natCast_add, Int.natCast_mul]
      omega
    have bd : ∀ q ∈ oth, ∀ v : Nat, (vt q k).fdiv (vt f k) = ((v / F : Nat) : Int) → ∀ e, Ent (less q f ((vt q k).fdiv (vt f k))) e → ∃ z : Nat, e.natAbs ≤ (1 + v / F) * z ∧ z ^ 2 * P ^ 2 * g ≤ 9 * M ^ 5 := fun q hq v hd e he => by
      obtain ⟨x, y, hx, hy, rfl⟩ := ent_less he
      obtain ⟨z, z1, z2, z3⟩ := E q (ho q hq) x hx f hf y hy
      refine ⟨z, ?_, z3⟩
      have b4 := abs_sub_mul x ((vt q k).fdiv (vt f k)) y
      rw [hd] at b4 ⊢
      have b5 : (v / F) * y.natAbs ≤ (v / F) * z := Nat.mul_le_mul_left _ z2
      rw [Nat.add_mul, Nat.one_mul]
      simp only [Int.natAbs_natCast] at b4
      omega
    constructor
    · obtain ⟨p1, hp1, hm1⟩ := exists_min (fun p => (vt p k).natAbs) some' (fun z => by
        have := (hs' f).mpr (.inl rfl)
        rw [z] at this
        cases this)
      have sg : ∀ p ∈ some', ∃ v : Nat, 0 < v ∧ v ≤ F ∧ vt p k = s * v := fun p hp => by
        rcases (hs' p).mp hp with rfl | ⟨q, hq, rfl, h2⟩
        · exact ⟨F, F1, Nat.le_refl _, hF⟩
        · obtain ⟨v, _, _, _, _, r4⟩ := rd q hq
          rw [r4] at h2 ⊢
          refine ⟨v % F, ?_, Nat.le_of_lt (Nat.mod_lt _ F1), rfl⟩
          rcases Nat.eq_zero_or_pos (v % F) with c | c
          · rw [c] at h2
            simp at h2
          · exact c
      obtain ⟨g', g1, g2, g3⟩ := sg p1 hp1
      have gm : ∀ p ∈ some', ∀ v : Nat, vt p k = s * v → g' ≤ v := fun p hp v e => by
        have := hm1 p hp
        rw [g3, e, abs_s hs, abs_s hs] at this
        exact this
      refine .inr ⟨s, F, g', hs, sg, ⟨p1, hp1, g3⟩, fun p hp e he => ?_⟩
      rcases (hs' p).mp hp with rfl | ⟨q, hq, rfl, h2⟩
      · exact Nat.le_trans (Nat.mul_le_mul (Nat.mul_le_mul_left _ (sq_le FP)) (Nat.le_trans g2 Fg)) (hb _ hf e he)
      · obtain ⟨v, r1, r2, r3, r4, r5⟩ := rd q hq
        obtain ⟨z, z1, z2⟩ := bd q hq v r4 e he
        have r6 := gm _ hp _ r5
        have q1 : 1 ≤ v / F := Nat.div_pos r2 F1
        have ki := key_ineq (q := v / F) (f := F) (r := v % F) q1 (Nat.le_of_lt (Nat.mod_lt _ F1))
        have dv : v / F * F + v % F = v := by rw [Nat.mul_comm]; exact Nat.div_add_mod v F
        rw [dv] at ki
        calc e.natAbs ^ 2 * F ^ 2 * g' ≤ ((1 + v / F) * z) ^ 2 * F ^ 2 * (v % F) := Nat.mul_le_mul (Nat.mul_le_mul_right _ (sq_le z1)) r6
          _ = z ^ 2 * ((1 + v / F) ^ 2 * (F * (v % F))) * F := by grind
          _ ≤ z ^ 2 * P ^ 2 * g := Nat.mul_le_mul (Nat.mul_le_mul_left _ (Nat.le_trans ki (sq_le r3))) Fg
          _ ≤ 9 * M ^ 5 := z2
    · intro q hq h0 e he
      obtain ⟨v, r1, r2, r3, r4, r5⟩ := rd q hq
      obtain ⟨z, z1, z2⟩ := bd q hq v r4 e he
      rw [r5] at h0
      have m0 : v % F = 0 := by
        have := congrArg Int.natAbs h0
        rw [abs_s hs] at this
        simpa using this
      have q1 : 1 ≤ v / F := Nat.div_pos r2 F1
      have dv : v / F * F = v := by
        have := Nat.div_add_mod v F
        rw [Nat.mul_comm] at this
        omega
      have c1 : v / F * 1 ≤ v / F * F := Nat.mul_le_mul_left _ F1
      have c2 : 1 + v / F ≤ 2 * P := by omega
      have c3 : e.natAbs ≤ 2 * P * z := Nat.le_trans z1 (Nat.mul_le_mul_right _ c2)
      calc e.natAbs ^ 2 ≤ (2 * P * z) ^ 2 := sq_le c3
        _ = 4 * (z ^ 2 * P ^ 2 * 1) := by grind
        _ ≤ 4 * (z ^ 2 * P ^ 2 * g) := Nat.mul_le_mul_left _ (Nat.mul_le_mul_left _ (by omega))
        _ ≤ 4 * (9 * M ^ 5) := Nat.mul_le_mul_left _ z2
        _ = 36 * M ^ 5 := by omega
def Bd (b : Nat) (l : List P2) : Prop := ∀ p ∈ l, ∀ e, Ent p e → e.natAbs < 2 ^ b
abbrev up (b : Nat) : Nat := (5 * b + 7) / 2
theorem bd_sq {b e : Nat} (h : e ^ 2 ≤ 36 * (2 ^ b) ^ 5) : e < 2 ^ up b := by
  have h1 : 36 * (2 ^ b) ^ 5 < 2 ^ (5 * b + 6) := by
    rw [← Nat.pow_mul, Nat.pow_add, Nat.mul_comm b 5, Nat.mul_comm (2 ^ (5 * b))]
    exact Nat.mul_lt_mul_of_pos_right (by decide) (Nat.pow_pos (by decide))
  have h2 : 2 ^ (5 * b + 6) ≤ (2 ^ up b) ^ 2 := by
    rw [← Nat.pow_mul]
    exact Nat.pow_le_pow_right (by decide) (by unfold up; omega)
  rcases Nat.lt_or_ge e (2 ^ up b) with q | q
  · exact q
  · have := sq_le q
    omega
theorem Phase.sq {M k : Nat} {some : List P2} (hM : 1 ≤ M) (h : Phase M k some) : ∀ p ∈ some, ∀ e, Ent p e → e.natAbs ^ 2 ≤ 36 * M ^ 5 := by
  intro p hp e he
  rcases h with h | ⟨s, P, g, hs, hv, ⟨p0, hp0, hg⟩, hb⟩
  · have := sq_le (h p hp e he)
    have h3 : M ^ 2 * 1 ≤ M ^ 2 * (36 * M ^ 3) := Nat.mul_le_mul_left _ (by
      have := Nat.pow_pos (n := 3) hM
      omega)
    have h4 : M ^ 2 * (36 * M ^ 3) = 36 * M ^ 5 := by grind
    omega
  · have := hb p hp e he
    obtain ⟨v, v1, v2, _⟩ := hv p hp
    obtain ⟨v', v1', _, e2⟩ := hv p0 hp0
    have g1 : 1 ≤ g := by
      rcases hs with rfl | rfl <;> omega
    have p1 : 1 ≤ P ^ 2 * g := Nat.mul_pos (Nat.pow_pos (by omega)) g1
    have : e.natAbs ^ 2 * 1 ≤ e.natAbs ^ 2 * (P ^ 2 * g) := Nat.mul_le_mul_left _ p1
    have c : e.natAbs ^ 2 * (P ^ 2 * g) = e.natAbs ^ 2 * P ^ 2 * g := by grind
    omega
/-- under way: some with a number at k, rest with 0 there -/
structure GI (rs : List (List Int)) (w n k b : Nat) (T : Ve → Prop) (some rest : List P2) : Prop where
  gs : GS rs w n k T (some ++ rest)
  nz : ∀ p ∈ some, vt p k ≠ 0
  r0 : ∀ p ∈ rest, vt p k = 0
  ph : Phase (2 ^ b) k some
  br : ∀ p ∈ rest, ∀ e, Ent p e → e.natAbs ^ 2 ≤ 36 * (2 ^ b) ^ 5
theorem GI.bd {rs : List (List Int)} {w n k b : Nat} {T : Ve → Prop} {some rest : List P2} (h : GI rs w n k b T some rest) : Bd (up b) (some ++ rest) := fun p hp e he => by
  rcases List.mem_append.mp hp with hp | hp
  · exact bd_sq (h.ph.sq (Nat.pow_pos (by decide)) p hp e he)
  · exact bd_sq (h.br p hp e he)
abbrev lss (k : Nat) (f : P2) (q : P2) : P2 := less q f ((vt q k).fdiv (vt f k))
theorem GI.step {rs : List (List Int)} {w n k b : Nat} {T : Ve → Prop} {some rest oth : List P2} {f : P2} (h : GI rs w n k b T some rest) (hf : f ∈ some) (hmin : ∀ p ∈ some, (vt f k).natAbs ≤ (vt p k).natAbs) (ho : ∀ p, p ∈ some ↔ p = f ∨ p ∈ oth) :
    GI rs w n k b T (f :: (oth.map (lss k f)).filter fun p => decide (vt p k ≠ 0)) (rest ++ (oth.map (lss k f)).filter fun p => decide (vt p k = 0)) := by
  have hl : ∀ q ∈ oth, q.1.length = f.1.length := fun q hq => by
    have h1 := h.gs.len q (List.mem_append_left _ ((ho q).mpr (.inr hq)))
    have h2 := h.gs.len f (List.mem_append_left _ hf)
    omega
  have st := Phase.step (some' := f :: (oth.map (lss k f)).filter fun p => decide (vt p k ≠ 0)) (Nat.pow_pos (by decide)) h.ph hf hmin h.nz (fun q hq => (ho q).mpr (.inr hq)) hl fun p => by
    simp only [List.mem_cons, List.mem_filter, List.mem_map, decide_eq_true_eq]
    constructor
    · rintro (h | ⟨⟨q, h1, h2⟩, h3⟩)
      · exact .inl h
      · exact .inr ⟨q, h1, h2.symm, h3⟩
    · rintro (h | ⟨q, h1, h2, h3⟩)
      · exact .inl h
      · exact .inr ⟨⟨q, h1, h2.symm⟩, h3⟩
  refine ⟨h.gs.step (f := f) (rest := rest) (oth := oth) (m := fun q => (vt q k).fdiv (vt f k)) (fun p => ?_) (fun p => ?_), fun p hp => ?_, fun p hp => ?_, st.1, fun p hp e he => ?_⟩
  · rw [List.mem_append, ho]
    constructor
    · rintro ((h | h) | h)
      · exact .inl h
      · exact .inr (.inr h)
      · exact .inr (.inl h)
    · rintro (h | h | h)
      · exact .inl (.inl h)
      · exact .inr h
      · exact .inl (.inr h)
  · simp only [List.mem_append, List.mem_cons, List.mem_filter, List.mem_map, decide_eq_true_eq]
    constructor
    · rintro ((h | ⟨⟨q, h1, h2⟩, h3⟩) | (h | ⟨⟨q, h1, h2⟩, h3⟩))
      · exact .inl h
      · exact .inr (.inr ⟨q, h1, h2.symm⟩)
      · exact .inr (.inl h)
      · exact .inr (.inr ⟨q, h1, h2.symm⟩)
    · rintro (h | h | ⟨q, h1, h2⟩)
      · exact .inl (.inl h)
      · exact .inr (.inl h)
      · by_cases c : vt p k = 0
        · exact .inr (.inr ⟨⟨q, h1, h2.symm⟩, c⟩)
        · exact .inl (.inr ⟨⟨q, h1, h2.symm⟩, c⟩)
  · rcases List.mem_cons.mp hp with rfl | hp
    · exact h.nz _ hf
    · simpa using (List.mem_filter.mp hp).2
  · rcases List.mem_append.mp hp with hp | hp
    · exact h.r0 p hp
    · simpa using (List.mem_filter.mp hp).2
  · rcases List.mem_append.mp hp with hp | hp
    · exact h.br p hp e he
    · obtain ⟨h1, h2⟩ := List.mem_filter.mp hp
      obtain ⟨q, hq, rfl⟩ := List.mem_map.mp h1
      exact st.2 q hq (by simpa using h2) e he
/-- a stair, made small at the foot of a row put behind it -/
theorem Stair.snoc {k : Nat} {f : Ve} (hf : Ft f k) : ∀ {l : List Ve}, Stair l → (∀ r ∈ l, ∃ j, j < k ∧ Ft r j) → ∀ (g : Ve → Ve), (∀ r ∈ l, ∃ c : Int, ∀ i, g r i = r i - c * f i) → (∀ r ∈ l, 0 ≤ g r k ∧ g r k < f k) → Stair (l.map g ++ [f]) := by
  intro l hl
  induction hl with
  | nil =>
    intro _ g _ _
    exact .cons hf (fun r hr => by cases hr) (fun r hr => by cases hr) .nil
  | @cons a t j hj hz hsm ht ih =>
    intro hlt g hg hk
    have f0 : ∀ i, i < k → f i = 0 := hf.1
    obtain ⟨j', hj'1, hj'2⟩ := hlt a (List.mem_cons_self ..)
    obtain rfl := hj.uniq hj'2
    have same : ∀ r ∈ a :: t, ∀ i, i < k → g r i = r i := fun r hr i hi => by
      obtain ⟨c, hc⟩ := hg r hr
      rw [hc, f0 i hi]
      simp
    have ih2 := ih (fun r hr => hlt r (List.mem_cons_of_mem _ hr)) g (fun r hr => hg r (List.mem_cons_of_mem _ hr)) (fun r hr => hk r (List.mem_cons_of_mem _ hr))
    show Stair (g a :: (t.map g ++ [f]))
    have ha := same a (List.mem_cons_self ..)
    refine .cons (k := j) ⟨fun i hi => ?_, ?_⟩ (fun r hr i hi => ?_) (fun r hr q hq => ?_) ih2
    · rw [ha i (by omega)]
      exact hj.1 i hi
    · rw [ha j hj'1]
      exact hj.2
    · rcases List.mem_append.mp hr with hr | hr
      · obtain ⟨r', h1, rfl⟩ := List.mem_map.mp hr
        rw [same r' (List.mem_cons_of_mem _ h1) i (by omega)]
        exact hz r' h1 i hi
      · rw [List.mem_singleton.mp hr]
        exact f0 i (by omega)
    · rcases List.mem_append.mp hr with hr' | hr'
      · obtain ⟨r', h1, rfl⟩ := List.mem_map.mp hr'
        obtain ⟨q', h2, h3⟩ := hlt r' (List.mem_cons_of_mem _ h1)
        have sm := same r' (List.mem_cons_of_mem _ h1)
        have hq' : Ft (g r') q' := ⟨fun i hi => by rw [sm i (by omega)]; exact h3.1 i hi, by rw [sm q' h2]; exact h3.2⟩
        obtain rfl := hq.uniq hq'
        rw [ha q h2, sm q h2]
        exact hsm r' h1 q h3
      · rw [List.mem_singleton.mp hr'] at hq ⊢
        obtain rfl := hq.uniq hf
        exact hk a (List.mem_cons_self ..)
/-- the rows done, the pairs left, ahead of column k -/
structure DI (rs : List (List Int)) (w n k b c : Nat) (T : Ve → Prop) (done left : List P2) : Prop where
  len : ∀ p ∈ done ++ left, p.1.length = w ∧ p.2.length = n
  mx : ∀ p ∈ done ++ left, ∀ i, vec p.1 i = dot p.2 rs i
  sp : ∀ x, Sl ((done ++ left).map fun p => vec p.1) x ↔ T x
  zl : ∀ p ∈ left, ∀ i, i < k → vec p.1 i = 0
  bl : Bd b left
  bd : Bd c done
  st : Stair (done.map fun p => vec p.1)
  ft : ∀ p ∈ done, ∃ j, j < k ∧ Ft (vec p.1) j
theorem DI.gs {rs : List (List Int)} {w n k b c : Nat} {T : Ve → Prop} {done left : List P2} (h : DI rs w n k b c T done left) : GS rs w n k (Sl (left.map fun p => vec p.1)) left where
  len := fun p hp => h.len p (List.mem_append_right _ hp)
  mx := fun p hp => h.mx p (List.mem_append_right _ hp)
  sp := fun x => Iff.rfl
  z := h.zl
theorem sl_app {a b b' : List Ve} (h : ∀ x, Sl b x ↔ Sl b' x) (x : Ve) : Sl (a ++ b) x ↔ Sl (a ++ b') x := by
  have key : ∀ b b' : List Ve, (∀ x, Sl b x ↔ Sl b' x) → ∀ x, Sl (a ++ b) x → Sl (a ++ b') x := fun b b' h x => Sp.le fun r hr => by
    rcases List.mem_append.mp hr with hr | hr
    · exact .of (List.mem_append_left _ hr)
    · exact Sp.mono (fun r hr => List.mem_append_right _ hr) ((h r).mp (.of hr))
  exact ⟨key b b' h x, key b' b (fun x => (h x).symm) x⟩
theorem DI.none {rs : List (List Int)} {w n k b c : Nat} {T : Ve → Prop} {done left rest : List P2} (h : DI rs w n k b c T done left) (g : GI rs w n k b (Sl (left.map fun p => vec p.1)) [] rest) : DI rs w n (k + 1) (up b) c T done rest where
  len := fun p hp => by
    rcases List.mem_append.mp hp with hp | hp
    · exact h.len p (List.mem_append_left _ hp)
    · exact g.gs.len p hp
  mx := fun p hp => by
    rcases List.mem_append.mp hp with hp | hp
    · exact h.mx p (List.mem_append_left _ hp)
    · exact g.gs.mx p hp
  sp := fun x => by
    rw [← h.sp x, List.map_append, List.map_append]
    exact sl_app (fun x => g.gs.sp x) x
  zl := fun p hp i hi => by
    rcases Nat.lt_or_ge i k with q | q
    · exact g.gs.z p hp i q
    · have : i = k := by omega
      rw [this]
      exact g.r0 p hp
  bl := g.bd
  bd := h.bd
  st := h.st
  ft := fun p hp => by
    obtain ⟨j, h1, h2⟩ := h.ft p hp
    exact ⟨j, by omega, h2⟩
/-- with a row for column k: f's number there is above 0 -/
theorem DI.some {rs : List (List Int)} {w n k b c : Nat} {T : Ve → Prop} {done left rest : List P2} {f0 f : P2} (h : DI rs w n k b c T done left) (g : GI rs w n k b (Sl (left.map fun p => vec p.1)) [f0] rest)
    (hf : f = f0 ∧ 0 < vt f0 k ∨ f = less f0 f0 2 ∧ vt f0 k < 0) : DI rs w n (k + 1) (up b) (c + up b + 1) T (done.map (lss k f) ++ [f]) rest := by
  have lf0 := g.gs.len f0 (List.mem_append_left _ (List.mem_singleton_self _))
  have mf0 := g.gs.mx f0 (List.mem_append_left _ (List.mem_singleton_self _))
  have zf0 := g.gs.z f0 (List.mem_append_left _ (List.mem_singleton_self _))
  have bf0 := g.bd f0 (List.mem_append_left _ (List.mem_singleton_self _))
  have key : (f.1.length = w ∧ f.2.length = n) ∧ (∀ i, vec f.1 i = dot f.2 rs i) ∧ (∀ i, i < k → vec f.1 i = 0) ∧ (∀ e, Ent f e → e.natAbs < 2 ^ up b) ∧ 0 < vt f k ∧ ∃ s : Int, (s = 1 ∨ s = -1) ∧ ∀ i, vec f.1 i = s * vec f0.1 i := by
    rcases hf with ⟨rfl, hp⟩ | ⟨rfl, hp⟩
    · exact ⟨lf0, mf0, zf0, bf0, hp, 1, .inl rfl, fun i => by omega⟩
    · have v : ∀ i, vec (less f0 f0 2).1 i = -1 * vec f0.1 i := fun i => by
        show vec (lsl f0.1 f0.1 2) i = _
        rw [vec_lsl rfl]
        omega
      refine ⟨⟨(len_lsl rfl).trans lf0.1, (len_lsl rfl).trans lf0.2⟩, fun i => ?_, fun i hi => by rw [v, zf0 i hi]; rfl, fun e he => ?_, by show 0 < vec (less f0 f0 2).1 k; rw [v]; have : vec f0.1 k < 0 := hp; omega, -1, .inr rfl, v⟩
      · show _ = dot (lsl f0.2 f0.2 2) rs i
        rw [v, dot_lsl rfl, mf0]
        omega
      · have neg : ∀ (l : List Int) (e : Int), e ∈ lsl l l 2 → ∃ x ∈ l, e = -x := by
          intro l
          induction l with
          | nil => intro e he; simp [lsl] at he
          | cons a l ih =>
            intro e he
            rcases List.mem_cons.mp (show e ∈ (a - 2 * a) :: lsl l l 2 from he) with rfl | he
            · exact ⟨a, List.mem_cons_self .., by omega⟩
            · obtain ⟨x, hx, e2⟩ := ih e he
              exact ⟨x, List.mem_cons_of_mem _ hx, e2⟩
        rcases he with he | he
        · obtain ⟨x, hx, rfl⟩ := neg _ _ he
          have := bf0 x (.inl hx)
          omega
        · obtain ⟨x, hx, rfl⟩ := neg _ _ he
          have := bf0 x (.inr hx)
          omega
  obtain ⟨lf, mf, zf, bf, pf, s, hs, vf⟩ := key
  have hft : Ft (vec f.1) k := ⟨zf, pf⟩
  have ld : ∀ p ∈ done, p.1.length = f.1.length ∧ p.2.length = f.2.length := fun p hp => by
    have := h.len p (List.mem_append_left _ hp)
    omega
  have vl : ∀ p ∈ done, ∀ i, vec (lss k f p).1 i = vec p.1 i - (vt p k).fdiv (vt f k) * vec f.1 i := fun p hp i => vec_lsl (ld p hp).1 i
  -- the span of f with rest is that of left
  have spf : ∀ x, Sl ((f :: rest).map fun p => vec p.1) x ↔ Sl (left.map fun p => vec p.1) x := fun x => by
    rw [← g.gs.sp x]
    constructor
    · refine Sp.le fun r hr => ?_
      rcases List.mem_cons.mp hr with rfl | hr
      · have : Sl (([f0] ++ rest).map fun p => vec p.1) (vec f0.1) := .of (List.mem_cons_self ..)
        exact (this.smul s).cong fun i => (vf i).symm
      · exact .of (List.mem_cons_of_mem _ hr)
    · refine Sp.le fun r hr => ?_
      rcases List.mem_cons.mp hr with rfl | hr
      · have : Sl ((f :: rest).map fun p => vec p.1) (vec f.1) := .of (List.mem_cons_self ..)
        exact (this.smul s).cong fun i => by
          show s * vec f.1 i = vec f0.1 i
          rw [vf]
          rcases hs with rfl | rfl <;> omega
      · exact .of (List.mem_cons_of_mem _ hr)
  refine ⟨fun p hp => ?_, fun p hp i => ?_, fun x => ?_, fun p hp i hi => ?_, fun p hp => g.bd p (List.mem_append_right _ hp), fun p hp e he => ?_, ?_, fun p hp => ?_⟩
  · rcases List.mem_append.mp hp with hp | hp
    · rcases List.mem_append.mp hp with hp | hp
      · obtain ⟨q, hq, rfl⟩ := List.mem_map.mp hp
        have := h.len q (List.mem_append_left _ hq)
        exact ⟨(len_lsl (ld q hq).1).trans this.1, (len_lsl (ld q hq).2).trans this.2⟩
      · rw [List.mem_singleton.mp hp]
        exact lf
    · exact g.gs.len p (List.mem_append_right _ hp)
  · rcases List.mem_append.mp hp with hp | hp
    · rcases List.mem_append.mp hp with hp | hp
      · obtain ⟨q, hq, rfl⟩ := List.mem_map.mp hp
        rw [vl q hq]
        show _ = dot (lsl q.2 f.2 _) rs i
        rw [dot_lsl (ld q hq).2, h.mx q (List.mem_append_left _ hq), mf]
      · rw [List.mem_singleton.mp hp]
        exact mf i
    · exact g.gs.mx p (List.mem_append_right _ hp) i
  · rw [← h.sp x]
    have e1 : Sl ((done ++ left).map fun p => vec p.1) x ↔ Sl ((done ++ (f :: rest)).map fun p => vec p.1) x := by
      rw [List.map_append, List.map_append]
      exact sl_app (fun x => (spf x).symm) x
    rw [e1]
    constructor
    · refine Sp.le fun r hr => ?_
      obtain ⟨p, hp, rfl⟩ := List.mem_map.mp hr
      have mem : ∀ p ∈ done ++ (f :: rest), Sl ((done ++ (f :: rest)).map fun p => vec p.1) (vec p.1) := fun p hp => .of (List.mem_map.mpr ⟨p, hp, rfl⟩)
      have memf := mem f (List.mem_append_right _ (List.mem_cons_self ..))
      rcases List.mem_append.mp hp with hp | hp
      · rcases List.mem_append.mp hp with hp | hp
        · obtain ⟨q, hq, rfl⟩ := List.mem_map.mp hp
          exact ((mem q (List.mem_append_left _ hq)).subm _ memf).cong fun i => (vl q hq i).symm
        · rw [List.mem_singleton.mp hp]
          exact memf
      · exact mem p (List.mem_append_right _ (List.mem_cons_of_mem _ hp))
    · refine Sp.le fun r hr => ?_
      obtain ⟨p, hp, rfl⟩ := List.mem_map.mp hr
      have mem : ∀ p ∈ done.map (lss k f) ++ [f] ++ rest, Sl ((done.map (lss k f) ++ [f] ++ rest).map fun p => vec p.1) (vec p.1) := fun p hp => .of (List.mem_map.mpr ⟨p, hp, rfl⟩)
      have memf := mem f (List.mem_append_left _ (List.mem_append_right _ (List.mem_singleton_self _)))
      rcases List.mem_append.mp hp with hp | hp
      · exact ((mem (lss k f p) (List.mem_append_left _ (List.mem_append_left _ (List.mem_map.mpr ⟨p, hp, rfl⟩)))).subm (-((vt p k).fdiv (vt f k))) memf).cong fun i => by
          show vec (lss k f p).1 i - -((vt p k).fdiv (vt f k)) * vec f.1 i = vec p.1 i
          rw [vl p hp, Int.neg_mul]
          omega
      · rcases List.mem_cons.mp hp with rfl | hp
        · exact memf
        · exact mem p (List.mem_append_right _ hp)
  · rcases Nat.lt_or_ge i k with q | q
    · exact g.gs.z p (List.mem_append_right _ hp) i q
    · have : i = k := by omega
      rw [this]
      exact g.r0 p hp
  · have pw : 2 ^ (c + up b + 1) = 2 * (2 ^ c * 2 ^ up b) := by
      rw [← Nat.pow_add, Nat.pow_succ]
      omega
    have c1 : 1 ≤ 2 ^ c := Nat.pow_pos (by decide)
    have c2 : 1 ≤ 2 ^ up b := Nat.pow_pos (by decide)
    rcases List.mem_append.mp hp with hp | hp
    · obtain ⟨q, hq, rfl⟩ := List.mem_map.mp hp
      obtain ⟨x, y, hx, hy, rfl⟩ := ent_less he
      have b1 := h.bd q hq x hx
      have b2 := bf y hy
      have b3 := abs_sub_mul x ((vt q k).fdiv (vt f k)) y
      have b4 : ((vt q k).fdiv (vt f k)).natAbs ≤ 2 ^ c := by
        have := fdiv_abs1 (v := vt q k) (f := vt f k) (by omega)
        have b5 : (vt q k).natAbs < 2 ^ c := by
          by_cases z : vt q k = 0
          · rw [z]
            exact c1
          · exact h.bd q hq _ (vt_ent z)
        omega
      have b6 : ((vt q k).fdiv (vt f k)).natAbs * y.natAbs ≤ 2 ^ c * (2 ^ up b - 1) := Nat.mul_le_mul b4 (by omega)
      have b7 : 2 ^ c * (2 ^ up b - 1) + 2 ^ c = 2 ^ c * 2 ^ up b := by
        rw [Nat.mul_sub, Nat.mul_one]
        have : 2 ^ c * 1 ≤ 2 ^ c * 2 ^ up b := Nat.mul_le_mul_left _ c2
        omega
      have b8 : 1 * 1 ≤ 2 ^ c * 2 ^ up b := Nat.mul_le_mul c1 c2
      omega
    · rw [List.mem_singleton.mp hp] at he
      have := bf e he
      have : 1 * 2 ^ up b ≤ 2 ^ c * 2 ^ up b := Nat.mul_le_mul_right _ c1
      omega
  · rw [List.map_append, List.map_map]
    have hg := Stair.snoc hft h.st (fun r hr => by
      obtain ⟨p, hp, rfl⟩ := List.mem_map.mp hr
      exact h.ft p hp) (fun r i => r i - (r k).fdiv (vt f k) * vec f.1 i) (fun r hr => ⟨(r k).fdiv (vt f k), fun i => rfl⟩) (fun r hr => by
      show 0 ≤ r k - (r k).fdiv (vt f k) * vt f k ∧ r k - (r k).fdiv (vt f k) * vt f k < vt f k
      rw [fdiv_fmod]
      exact (fmod_sgn (by omega)).1 pf)
    rw [List.map_map] at hg
    have e : (done.map ((fun p : P2 => vec p.1) ∘ lss k f)) = done.map ((fun (r : Ve) i => r i - (r k).fdiv (vt f k) * vec f.1 i) ∘ fun p => vec p.1) := List.map_congr_left fun p hp => funext fun i => vl p hp i
    rw [e]
    exact hg
  · rcases List.mem_append.mp hp with hp | hp
    · obtain ⟨q, hq, rfl⟩ := List.mem_map.mp hp
      obtain ⟨j, hj, hj2⟩ := h.ft q hq
      have sm : ∀ i, i < k → vec (lss k f q).1 i = vec q.1 i := fun i hi => by
        rw [vl q hq, zf i hi]
        simp
      exact ⟨j, by omega, fun i hi => by rw [sm i (by omega)]; exact hj2.1 i hi, by rw [sm j hj]; exact hj2.2⟩
    · rw [List.mem_singleton.mp hp]
      exact ⟨k, by omega, hft⟩
def bb (b : Nat) : Nat → Nat
  | 0 => b
  | k + 1 => up (bb b k)
def cc (b : Nat) : Nat → Nat
  | 0 => 0
  | k + 1 => cc b k + up (bb b k) + 1
theorem Bd.mono {b c : Nat} {l : List P2} (h : Bd b l) (e : b ≤ c) : Bd c l := fun p hp x hx => Nat.lt_of_lt_of_le (h p hp x hx) (Nat.pow_le_pow_right (by decide) e)
end St
namespace Pu
open PySem L2
variable [TabT]
@[simp] theorem po_callBn {X : Exn → En → Prop} {kk : RV → En → Prop} (i : Nat) (f : List Sl → Re RV) (ms : M (List D)) (r : En) : Wp X (cCallBn i f ms r) kk = (match getC i r with
  | none => False
  | some _ => Wp (fun _ _ => False) (ms r) fun es r1 => (match r1[i]? with
    | some (.o (.l ds)) => Wp (fun _ _ => False) (f (.v (.list ds) :: es.map .v)) fun rv _ => noLR rv = true ∧ kk rv r1
    | _ => False)) := by
  simp only [wp_eq]
  unfold cCallBn
  cases getC i r with
  | none => rfl
  | some c0 =>
    show Po X (match ms r with
      | .ok es r1 => (match r1[i]? with
        | some (.o (.l ds)) => (match f (.v (.list ds) :: es.map .v) with
          | .ok rv _ => cI (noLR rv = true) (.ok rv r1) .no
          | _ => .no)
        | _ => .no)
      | _ => .no) kk = _
    cases ms r with
    | no => rfl
    | ex e r1 => rfl
    | ok es r1 =>
      show Po X (match r1[i]? with
        | some (.o (.l ds)) => (match f (.v (.list ds) :: es.map .v) with
          | .ok rv _ => cI (noLR rv = true) (.ok rv r1) .no
          | _ => .no)
        | _ => .no) kk = (match r1[i]? with
        | some (.o (.l ds)) => Po (fun _ _ => False) (f (.v (.list ds) :: es.map .v)) fun rv _ => noLR rv = true ∧ kk rv r1
        | _ => False)
      split
      · rename_i ds h
        cases f (.v (.list ds) :: es.map .v) with
        | no => rfl
        | ex e z => rfl
        | ok rv z =>
          show Po X (cI (noLR rv = true) (.ok rv r1) .no) kk = _
          rw [qo_cI]
          rfl
      · rfl
theorem po_LF1 {γ : Type} {X : Exn → En → Prop} {kk : RV → En → Prop} {src : M (List D)} {i : Nat} {tt : M Bool} {te : M D} {r : En} (f g : γ → D) (p : γ → Bool) (xs : List γ) (hsrc : Wp X (src r) fun ds r' => ds = xs.map f ∧ r' = r) (ho : noOwn r [i] = true) (hl : xs.length ≤ 16777216)
    (hb : ∀ x ∈ xs, Wp (fun _ _ => False) (tt (r.set i (.v (f x)))) fun b r2 => b = p x ∧ r2 = r.set i (.v (f x)) ∧ (p x = true → Wp (fun _ _ => False) (te r2) fun y r3 => y = g x ∧ r3 = r.set i (.v (f x)))) (hk : kk (.o (.l ((xs.filter p).map g))) r) : Wp X (oComp src [i] (gN i) tt te r) kk := by
  rw [po_comp]
  refine po_mono hsrc ?_
  rintro _ _ ⟨rfl, rfl⟩
  refine ⟨ho, ?_⟩
  have hi := (own_lt ho).1
  rename_i q
  refine po_compF (f := f) (g := g) (p := p) (fun r => ∃ s, r = q.set i s) xs [] q ⟨q[i], by rw [List.set_getElem_self]⟩ (by simpa using hl) ?_ ?_
  · rintro x hx _ ⟨s, rfl⟩
    refine ⟨q.set i (.v (f x)), ?_, po_mono (hb x hx) ?_⟩
    · simp [hi]
    · rintro b r2 ⟨h1, h2, h3⟩
      refine ⟨h1, fun _ => ⟨_, h2⟩, fun hp => po_mono (h3 hp) ?_⟩
      rintro y r3 ⟨h4, h5⟩
      exact ⟨h4, _, h5⟩
  · rintro _ ⟨s, rfl⟩
    rw [List.nil_append]
    simp only [wipe_cons, wipe_nil, back_cons, back_nil]
    rw [set_back _ _ _ _ hi]
    exact hk
/-! ### rows and pairs as data -/
@[simp] theorem intD_tt : intD (.bool true) = some (.int 1) := rfl
@[simp] theorem intD_ff : intD (.bool false) = some (.int 0) := rfl
@[simp] theorem at10 (x : D) : atI [x] 0 = some x := rfl
@[simp] theorem at20 (x y : D) : atI [x, y] 0 = some x := rfl
@[simp] theorem at21 (x y : D) : atI [x, y] 1 = some y := rfl
def rD (r : List Int) : D := .tuple (r.map .int)
def pD (p : St.P2) : D := .tuple [rD p.1, rD p.2]
@[simp] theorem isnt_nn : isntD .none .none = some (.bool false) := rfl
@[simp] theorem isnt_pD (p : St.P2) : isntD (pD p) .none = some (.bool true) := rfl
@[simp] theorem isnt_t (ds : List D) : isntD (.tuple ds) .none = some (.bool true) := rfl
end Pu
namespace Pu
open PySem L2
variable [TabT]
@[simp] theorem oDictT1_ap (mk mv : M D) (r : En) : oDictT1 mk mv r = (mk r).bind fun kd r => (mv r).bind fun d r => M.opt ((tkeyD kd).map fun y => .o (.t [(y, d)])) r := rfl
@[simp] theorem eInS_ap (i : Nat) (mk : M D) (r : En) : eInS i mk r = (mk r).bind fun kd r => (match getC i r with
  | some (.t kvs) => (match tkeyD kd with
    | some y => .ok (.bool (vK kvs y).isSome) r
    | none => .no)
  | some (.d kvs) => (match keyD kd with
    | some y => .ok (.bool (vK kvs y).isSome) r
    | none => .no)
  | _ => .no) := rfl
@[simp] theorem eNinS_ap (i : Nat) (mk : M D) (r : En) : eNinS i mk r = (mk r).bind fun kd r => (match getC i r with
  | some (.t kvs) => (match tkeyD kd with
    | some y => .ok (.bool (!(vK kvs y).isSome)) r
    | none => .no)
  | some (.d kvs) => (match keyD kd with
    | some y => .ok (.bool (!(vK kvs y).isSome)) r
    | none => .no)
  | _ => .no) := rfl
end Pu
namespace St
/-! ### full stairs: a row for each column -/
theorem Stair.zero_le {a : Ve} {t : List Ve} {k : Nat} (hk : Ft a k) (hz : ∀ r ∈ t, ∀ i, i ≤ k → r i = 0) : ∀ r ∈ a :: t, ∀ i, i < k → r i = 0 := fun r hr i hi => by
  rcases List.mem_cons.mp hr with rfl | hr
  · exact hk.1 i hi
  · exact hz r hr i (by omega)
/-- a vector of the span has its first number at a foot, and is divided by it there -/
theorem Stair.first {l : List Ve} (h : Stair l) : ∀ {x : Ve} {k : Nat}, Sl l x → (∀ i, i < k → x i = 0) → x k ≠ 0 → ∃ r ∈ l, Ft r k ∧ r k ∣ x k := by
  induction h with
  | nil =>
    intro x k hx _ hk
    exact absurd (sl_nil.mp hx k) hk
  | @cons a t j hj hz hs ht ih =>
    intro x k hx h0 hk
    rcases Nat.lt_trichotomy j k with q | q | q
    · have : Sl t x := (Stair.rest hj hz).mpr ⟨hx, h0 j q⟩
      obtain ⟨r, hr, h1, h2⟩ := ih this h0 hk
      exact ⟨r, List.mem_cons_of_mem _ hr, h1, h2⟩
    · subst q
      exact ⟨a, List.mem_cons_self .., hj, ((Stair.red hj hz).mp hx).1⟩
    · exact absurd (Sp.at0 (fun r hr => Stair.zero_le hj hz r hr k q) hx) hk
/-- two vectors of the span alike up to a foot and small behind -/
theorem Stair.alike {l : List Ve} (h : Stair l) {x y : Ve} (hx : Sl l x) (hy : Sl l y) (hs : ∀ r ∈ l, ∀ k, Ft r k → x k = y k ∨ (0 ≤ x k ∧ x k < r k ∧ 0 ≤ y k ∧ y k < r k)) : ∀ i, x i = y i := fun i => by
  have h1 := h.small ((hx.subm 1 hy)) (fun r hr k hk => by
    have := hs r hr k hk
    have := hk.2
    constructor <;> omega) i
  have h2 : x i - 1 * y i = 0 := h1
  omega
theorem full_aux {w : Nat} : ∀ {l : List Ve} {c : Nat}, Stair l → c ≤ w → (∀ r ∈ l, ∀ i, i < c → r i = 0) → (∀ r ∈ l, ∀ k, Ft r k → k < w) → (∀ k, c ≤ k → k < w → ∃ r ∈ l, Ft r k) → l.length = w - c ∧ ∀ (i : Nat) (h : i < l.length), Ft l[i] (c + i)
  | [], c, _, hcw, _, _, hc => by
    rcases Nat.lt_or_ge c w with q | q
    · obtain ⟨r, hr, _⟩ := hc c (Nat.le_refl _) q
      cases hr
    · exact ⟨by simp; omega, fun i h => by simp at h⟩
  | a :: t, c, h, hcw, h0, hw, hc => by
    cases h with
    | @cons _ _ j hj hz hs ht =>
    have hjw := hw a (List.mem_cons_self ..) j hj
    have hcj : c ≤ j := by
      rcases Nat.lt_or_ge j c with q | q
      · have := h0 a (List.mem_cons_self ..) j q
        have := hj.2
        omega
      · exact q
    have ejc : j = c := by
      obtain ⟨r, hr, hr2⟩ := hc c (Nat.le_refl _) (by omega)
      rcases List.mem_cons.mp hr with rfl | hr
      · exact hj.uniq hr2
      · rcases Nat.lt_or_ge j c with q | q
        · omega
        · have := hz r hr c q
          have := hr2.2
          omega
    subst ejc
    obtain ⟨l1, l2⟩ := full_aux (c := j + 1) ht (by omega) (fun r hr i hi => hz r hr i (by omega)) (fun r hr => hw r (List.mem_cons_of_mem _ hr)) (fun k hk hkw => by
      obtain ⟨r, hr, hr2⟩ := hc k (by omega) hkw
      rcases List.mem_cons.mp hr with rfl | hr
      · have := hj.uniq hr2
        omega
      · exact ⟨r, hr, hr2⟩)
    refine ⟨by simp [l1]; omega, fun i hi => ?_⟩
    cases i with
    | zero => exact hj
    | succ i =>
      have := l2 i (by simpa using hi)
      have e : j + (i + 1) = j + 1 + i := by omega
      rw [e]
      exact this
/-- the row of a round -/
def rnd (h : List Nat) (k : Nat) : List Int := (List.range h.length).map fun i => if i = k then ((h.getD k 0 : Nat) : Int) else 0
theorem rnd_len (h : List Nat) (k : Nat) : (rnd h k).length = h.length := by simp [rnd]
theorem vec_rnd (h : List Nat) (k i : Nat) : vec (rnd h k) i = if i = k ∧ k < h.length then ((h.getD k 0 : Nat) : Int) else 0 := by
  rcases Nat.lt_or_ge i h.length with q | q
  · rw [vec_get (by rw [rnd_len]; exact q)]
    simp [rnd]
    by_cases e : i = k
    · subst e
      simp [q]
    · simp [e]
  · rw [vec_out (by rw [rnd_len]; exact q), if_neg (by omega)]
def rnds (h : List Nat) : List (List Int) := (List.range h.length).map (rnd h)
/-- S is the full stair of the house h -/
structure Full (h : List Nat) (S : List (List Int)) : Prop where
  len : ∀ r ∈ S, r.length = h.length
  st : Stair (S.map vec)
  rd : ∀ k, k < h.length → Sl (S.map vec) (vec (rnd h k))
theorem Full.feet {h : List Nat} {S : List (List Int)} (F : Full h S) (hp : ∀ n ∈ h, 1 ≤ n) : S.length = h.length ∧ ∀ k, k < h.length → Ft (vec (S.getD k [])) k := by
  have cov : ∀ k, k < h.length → ∃ r ∈ S.map vec, Ft r k := fun k hk => by
    have hk1 : 1 ≤ h.getD k 0 := hp _ (by
      rw [List.getD_eq_getElem?_getD, List.getElem?_eq_getElem hk]
      exact List.getElem_mem hk)
    obtain ⟨r, hr, h1, _⟩ := F.st.first (F.rd k hk) (k := k) (fun i hi => by rw [vec_rnd, if_neg (by omega)]) (by rw [vec_rnd, if_pos ⟨rfl, hk⟩]; omega)
    exact ⟨r, hr, h1⟩
  have ltw : ∀ r ∈ S.map vec, ∀ k, Ft r k → k < h.length := fun r hr k hk => by
    obtain ⟨q, hq, rfl⟩ := List.mem_map.mp hr
    rcases Nat.lt_or_ge k h.length with c | c
    · exact c
    · have := hk.2
      rw [vec_out (by rw [F.len q hq]; exact c)] at this
      omega
  obtain ⟨l1, l2⟩ := full_aux (c := 0) F.st (Nat.zero_le _) (fun r hr i hi => by omega) ltw (fun k _ hk => cov k hk)
  have l1' : S.length = h.length := by simpa using l1
  refine ⟨l1', fun k hk => ?_⟩
  have := l2 k (by simpa using (show k < S.length by omega))
  rw [List.getElem_map] at this
  rw [List.getD_eq_getElem?_getD, List.getElem?_eq_getElem (by omega)]
  simpa using this
/-- the foot at k -/
def foot (S : List (List Int)) (k : Nat) : Int := vec (S.getD k []) k
theorem mem_getD {S : List (List Int)} {k : Nat} (h : k < S.length) : S.getD k [] ∈ S := by
  rw [List.getD_eq_getElem?_getD, List.getElem?_eq_getElem h]
  exact List.getElem_mem h
theorem Full.sl {h : List Nat} {S : List (List Int)} (F : Full h S) (hp : ∀ n ∈ h, 1 ≤ n) {k : Nat} (hk : k < h.length) : Sl (S.map vec) (vec (S.getD k [])) := .of (List.mem_map.mpr ⟨_, mem_getD (by have := (F.feet hp).1; omega), rfl⟩)
theorem Full.fdvd {h : List Nat} {S : List (List Int)} (F : Full h S) (hp : ∀ n ∈ h, 1 ≤ n) {k : Nat} (hk : k < h.length) {x : Ve} (hx : Sl (S.map vec) x) (h0 : ∀ i, i < k → x i = 0) : foot S k ∣ x k := by
  by_cases z : x k = 0
  · rw [z]
    exact Int.dvd_zero _
  · obtain ⟨r, hr, h1, h2⟩ := F.st.first hx h0 z
    obtain ⟨q, hq, rfl⟩ := List.mem_map.mp hr
    obtain ⟨i, hi, e⟩ := List.mem_iff_getElem.mp hq
    obtain ⟨l1, l2⟩ := F.feet hp
    have e2 : S.getD i [] = q := by rw [List.getD_eq_getElem?_getD, List.getElem?_eq_getElem hi]; exact e
    have := l2 i (by omega)
    rw [e2] at this
    obtain rfl := this.uniq h1
    unfold foot
    rw [e2]
    exact h2
theorem Full.fpos {h : List Nat} {S : List (List Int)} (F : Full h S) (hp : ∀ n ∈ h, 1 ≤ n) {k : Nat} (hk : k < h.length) : 0 < foot S k := ((F.feet hp).2 k hk).2
theorem Full.fle {h : List Nat} {S : List (List Int)} (F : Full h S) (hp : ∀ n ∈ h, 1 ≤ n) {k : Nat} (hk : k < h.length) : foot S k ∣ ((h.getD k 0 : Nat) : Int) ∧ foot S k ≤ ((h.getD k 0 : Nat) : Int) := by
  have h1 := F.fdvd hp hk (F.rd k hk) (fun i hi => by rw [vec_rnd, if_neg (by omega)])
  rw [vec_rnd, if_pos ⟨rfl, hk⟩] at h1
  refine ⟨h1, Int.le_of_dvd ?_ h1⟩
  have : 1 ≤ h.getD k 0 := hp _ (by
    rw [List.getD_eq_getElem?_getD, List.getElem?_eq_getElem hk]
    exact List.getElem_mem hk)
  omega
/-- a row above a foot -/
theorem Full.above {h : List Nat} {S : List (List Int)} (F : Full h S) (hp : ∀ n ∈ h, 1 ≤ n) {j k : Nat} (hjk : j < k) (hk : k < h.length) : 0 ≤ vec (S.getD j []) k ∧ vec (S.getD j []) k < foot S k := by
  obtain ⟨l1, l2⟩ := F.feet hp
  have key : ∀ {l : List Ve}, Stair l → ∀ (i m : Nat) (hi : i < m) (hm : m < l.length) (q : Nat), Ft l[m] q → 0 ≤ l[i] q ∧ l[i] q < l[m] q := by
    intro l hl
    induction hl with
    | nil => intro i m hi hm; simp at hm
    | @cons a t c hc hz hs ht ih =>
      intro i m hi hm q hq
      cases m with
      | zero => omega
      | succ m =>
        cases i with
        | zero => exact hs _ (List.getElem_mem _) q hq
        | succ i => exact ih i m (by omega) (by simpa using hm) q hq
  have e : ∀ i, (hi : i < S.length) → S.getD i [] = S[i] := fun i hi => by rw [List.getD_eq_getElem?_getD, List.getElem?_eq_getElem hi]; rfl
  have hk2 := l2 k hk
  have := key F.st j k hjk (by simpa using (show k < S.length by omega)) k (by rw [e k (by omega)] at hk2; simpa using hk2)
  unfold foot
  rw [e j (by omega), e k (by omega)]
  simpa using this
/-- what is alike a row is the row -/
theorem Full.row {h : List Nat} {S : List (List Int)} (F : Full h S) (hp : ∀ n ∈ h, 1 ≤ n) {k : Nat} (hk : k < h.length) {x : Ve} (hx : Sl (S.map vec) x) (h0 : ∀ i, i < k → x i = 0) (hk2 : x k = foot S k) (hb : ∀ j, k < j → j < h.length → 0 ≤ x j ∧ x j < foot S j) : ∀ i, x i = vec (S.getD k []) i := by
  obtain ⟨l1, l2⟩ := F.feet hp
  refine F.st.alike hx (F.sl hp hk) fun r hr q hq => ?_
  obtain ⟨p, hpp, rfl⟩ := List.mem_map.mp hr
  obtain ⟨i, hi, e⟩ := List.mem_iff_getElem.mp hpp
  have e2 : S.getD i [] = p := by rw [List.getD_eq_getElem?_getD, List.getElem?_eq_getElem hi]; exact e
  have hf := l2 i (by omega)
  rw [e2] at hf
  obtain rfl := hf.uniq hq
  rcases Nat.lt_trichotomy i k with c | c | c
  · left
    rw [h0 i c, (l2 k hk).1 i c]
  · left
    subst c
    exact hk2
  · right
    have h1 := hb i c (by omega)
    have h2 := F.above hp c (by omega)
    have h3 : foot S i = vec p i := by unfold foot; rw [e2]
    rw [h3] at h1 h2
    exact ⟨h1.1, h1.2, h2.1, h2.2⟩
end St
namespace St
/-! ### things of a house, counted; what some things come to -/
def prd (h : List Nat) : Nat := h.foldl (· * ·) 1
theorem foldl_mul (h : List Nat) : ∀ c : Nat, h.foldl (· * ·) c = c * h.foldl (· * ·) 1 := by
  induction h with
  | nil => intro c; simp
  | cons a t ih =>
    intro c
    rw [List.foldl_cons, ih, List.foldl_cons, ih (1 * a), Nat.one_mul, Nat.mul_assoc]
theorem prd_cons (n : Nat) (h : List Nat) : prd (n :: h) = n * prd h := by
  show (n :: h).foldl (· * ·) 1 = _
  rw [List.foldl_cons, foldl_mul, Nat.one_mul]
  rfl
theorem prd_pos : ∀ (h : List Nat), (∀ n ∈ h, 1 ≤ n) → 1 ≤ prd h
  | [], _ => by simp [prd]
  | n :: h, hh => by
    rw [prd_cons]
    exact Nat.mul_pos (hh n (List.mem_cons_self ..)) (prd_pos h fun m hm => hh m (List.mem_cons_of_mem _ hm))
theorem dvd_prd : ∀ (h : List Nat) (k : Nat), k < h.length → h.getD k 0 ∣ prd h
  | [], k, hk => by simp at hk
  | n :: h, 0, _ => ⟨prd h, prd_cons n h⟩
  | n :: h, k + 1, hk => by
    rw [prd_cons]
    exact Nat.dvd_trans (dvd_prd h k (by simpa using hk)) ⟨n, Nat.mul_comm ..⟩
/-- a thing of a house -/
def Th (h : List Nat) (a : List Int) : Prop := a.length = h.length ∧ ∀ k, k < h.length → 0 ≤ vec a k ∧ vec a k < ((h.getD k 0 : Nat) : Int)
theorem Th.cons {n : Nat} {h : List Nat} {x : Int} {a : List Int} : Th (n :: h) (x :: a) ↔ (0 ≤ x ∧ x < n) ∧ Th h a := by
  constructor
  · rintro ⟨h1, h2⟩
    refine ⟨h2 0 (by simp), by simpa using h1, fun k hk => h2 (k + 1) (by simpa using hk)⟩
  · rintro ⟨h1, h2, h3⟩
    refine ⟨by simp [h2], fun k hk => ?_⟩
    cases k with
    | zero => exact h1
    | succ k => exact h3 k (by simpa using hk)
/-- what is left by the rounds -/
def nrm (h : List Nat) (x : Ve) : List Int := (List.range h.length).map fun k => x k % ((h.getD k 0 : Nat) : Int)
theorem nrm_len (h : List Nat) (x : Ve) : (nrm h x).length = h.length := by simp [nrm]
theorem vec_nrm {h : List Nat} {x : Ve} {k : Nat} (hk : k < h.length) : vec (nrm h x) k = x k % ((h.getD k 0 : Nat) : Int) := by
  rw [vec_get (by rw [nrm_len]; exact hk)]
  simp [nrm]
theorem nrm_ext {h : List Nat} {x y : Ve} (e : ∀ k, k < h.length → x k % ((h.getD k 0 : Nat) : Int) = y k % ((h.getD k 0 : Nat) : Int)) : nrm h x = nrm h y := by
  unfold nrm
  exact List.map_congr_left fun k hk => e k (List.mem_range.mp hk)
theorem getD_pos {h : List Nat} (hp : ∀ n ∈ h, 1 ≤ n) {k : Nat} (hk : k < h.length) : 1 ≤ h.getD k 0 := hp _ (by
  rw [List.getD_eq_getElem?_getD, List.getElem?_eq_getElem hk]
  exact List.getElem_mem hk)
theorem nrm_th {h : List Nat} (hp : ∀ n ∈ h, 1 ≤ n) (x : Ve) : Th h (nrm h x) := ⟨nrm_len h x, fun k hk => by
  rw [vec_nrm hk]
  have := getD_pos hp hk
  exact ⟨Int.emod_nonneg _ (by omega), Int.emod_lt_of_pos _ (by omega)⟩⟩
theorem nrm_self {h : List Nat} {a : List Int} (ht : Th h a) : nrm h (vec a) = a := by
  refine vec_ext ((nrm_len ..).trans ht.1.symm) fun i => ?_
  rcases Nat.lt_or_ge i h.length with c | c
  · rw [vec_nrm c]
    have := ht.2 i c
    exact Int.emod_eq_of_lt this.1 this.2
  · rw [vec_out (by rw [nrm_len]; exact c), vec_out (by rw [ht.1]; exact c)]
/-- the lattice of some things of a house -/
abbrev Lam (h : List Nat) (G : List (List Int)) : Ve → Prop := Sl ((G ++ rnds h).map vec)
theorem lam_rnd {h : List Nat} {G : List (List Int)} {k : Nat} (hk : k < h.length) : Lam h G (vec (rnd h k)) := .of (List.mem_map.mpr ⟨_, List.mem_append_right _ (List.mem_map.mpr ⟨k, List.mem_range.mpr hk, rfl⟩), rfl⟩)
/-- alike by the rounds: both in the lattice or none -/
theorem lam_mod {h : List Nat} {T : Ve → Prop} (hadd : ∀ x y c, T x → T y → T (fun i => x i + c * y i)) (hc : ∀ x y, T x → (∀ i, x i = y i) → T y) (hr : ∀ k, k < h.length → T (vec (rnd h k))) {x y : Ve} (hx : T x) (e : ∀ k, k < h.length → x k % ((h.getD k 0 : Nat) : Int) = y k % ((h.getD k 0 : Nat) : Int)) (ho : ∀ k, h.length ≤ k → x k = y k) : T y := by
  have key : ∀ n, n ≤ h.length → T (fun i => if i < n then y i else x i) := by
    intro n
    induction n with
    | zero => intro _; exact hc x _ hx fun i => by simp
    | succ n ih =>
      intro hn
      have h1 := ih (by omega)
      have h2 := hadd _ _ (y n / ((h.getD n 0 : Nat) : Int) - x n / ((h.getD n 0 : Nat) : Int)) h1 (hr n (by omega))
      refine hc _ _ h2 fun i => ?_
      show (if i < n then y i else x i) + _ * vec (rnd h n) i = if i < n + 1 then y i else x i
      rw [vec_rnd]
      rcases Nat.lt_trichotomy i n with c | c | c
      · rw [if_pos c, if_neg (by omega), if_pos (by omega)]
        simp
      · subst c
        rw [if_neg (by omega), if_pos ⟨rfl, by omega⟩, if_pos (by omega)]
        have e1 := e i (by omega)
        have d1 := Int.mul_ediv_add_emod (x i) ((h.getD i 0 : Nat) : Int)
        have d2 := Int.mul_ediv_add_emod (y i) ((h.getD i 0 : Nat) : Int)
        rw [Int.sub_mul, Int.mul_comm (y i / _), Int.mul_comm (x i / _)]
        omega
      · rw [if_neg (by omega), if_neg (by omega), if_neg (by omega)]
        simp
  refine hc _ _ (key h.length (Nat.le_refl _)) fun i => ?_
  split
  · rfl
  · exact ho i (by omega)
theorem sl_mod {h : List Nat} {l : List Ve} (hr : ∀ k, k < h.length → Sl l (vec (rnd h k))) {x y : Ve} (hx : Sl l x) (e : ∀ k, k < h.length → x k % ((h.getD k 0 : Nat) : Int) = y k % ((h.getD k 0 : Nat) : Int)) (ho : ∀ k, h.length ≤ k → x k = y k) : Sl l y :=
  lam_mod (T := Sl l) (fun x y c hx hy => hx.add (hy.smul c)) (fun x y hx e => hx.cong e) hr hx e ho
end St
namespace St
/-! ### things of order twelve -/
theorem nodup_sub {α : Type} [DecidableEq α] : ∀ (L M : List α), L.Nodup → (∀ a ∈ L, a ∈ M) → L.length ≤ M.length
  | [], M, _, _ => Nat.zero_le _
  | a :: L, M, hn, hs => by
    have ha := hs a (List.mem_cons_self ..)
    have hn2 := List.nodup_cons.mp hn
    have h1 := nodup_sub L (M.erase a) hn2.2 (fun b hb => by
      have hne : b ≠ a := fun e => hn2.1 (e ▸ hb)
      exact (List.mem_erase_of_ne hne).mpr (hs b (List.mem_cons_of_mem _ hb)))
    rw [List.length_erase_of_mem ha] at h1
    have := List.length_pos_of_mem ha
    rw [List.length_cons]
    omega
end St
namespace St
/-! ### each full lattice has its stair -/
theorem Stair.reduce {l : List Ve} (h : Stair l) : ∀ x : Ve, ∃ y : Ve, Sl l (fun i => x i - y i) ∧ (∀ r ∈ l, ∀ k, Ft r k → 0 ≤ y k ∧ y k < r k) := by
  induction h with
  | nil => exact fun x => ⟨x, Sp.zero.cong fun i => by simp, fun r hr => by cases hr⟩
  | @cons a t k hk hz hs ht ih =>
    intro x
    obtain ⟨y, hy1, hy2⟩ := ih (fun i => x i - (x k).fdiv (a k) * a i)
    have hyk : y k = x k - (x k).fdiv (a k) * a k := by
      have := Sp.at0 (i := k) (fun r hr => hz r hr k (Nat.le_refl _)) hy1
      have e : (x k - (x k).fdiv (a k) * a k) - y k = 0 := this
      omega
    refine ⟨y, ?_, fun r hr j hj => ?_⟩
    · refine sl_cons.mpr ⟨(x k).fdiv (a k), hy1.cong fun i => ?_⟩
      show (x i - _ * a i) - y i = (x i - y i) - _ * a i
      omega
    · rcases List.mem_cons.mp hr with rfl | hr
      · obtain rfl := hj.uniq hk
        have e := fdiv_fmod (x j) (r j)
        have s := (fmod_sgn (v := x j) (f := r j) (by have := hk.2; omega)).1 hk.2
        omega
      · exact hy2 r hr j hj
structure Latt (w : Nat) (Λ : Ve → Prop) : Prop where
  add : ∀ x y c, Λ x → Λ y → Λ (fun i => x i + c * y i)
  cong : ∀ x y, Λ x → (∀ i, x i = y i) → Λ y
  out : ∀ x, Λ x → ∀ i, w ≤ i → x i = 0
theorem Latt.sl {w : Nat} {Λ : Ve → Prop} (L : Latt w Λ) {l : List Ve} (h : ∀ r ∈ l, Λ r) (h0 : Λ fun _ => 0) {x : Ve} (hx : Sl l x) : Λ x := by
  induction hx with
  | zero => exact h0
  | step k hr _ ih => exact L.add _ _ _ ih (h _ hr)
theorem stair_from {w : Nat} {Λ : Ve → Prop} (L : Latt w Λ) (h0 : Λ fun _ => 0) (hf : ∀ k, k < w → ∃ x, Λ x ∧ (∀ i, i < k → x i = 0) ∧ 0 < x k) : ∀ n k, k + n = w → ∃ l : List Ve, Stair l ∧ (∀ r ∈ l, Λ r) ∧ (∀ r ∈ l, ∀ i, i < k → r i = 0) ∧ ∀ x, Λ x → (∀ i, i < k → x i = 0) → Sl l x
  | 0, k, hk => ⟨[], .nil, (fun r hr => by cases hr), (fun r hr => by cases hr), fun x hx hz => sl_nil.mpr fun i => by
    rcases Nat.lt_or_ge i k with c | c
    · exact hz i c
    · exact L.out x hx i (by omega)⟩
  | n + 1, k, hk => by
    obtain ⟨t, ht, hΛ, hz, hsp⟩ := stair_from L h0 hf n (k + 1) (by omega)
    have key : ∀ (m : Nat), (∃ x, Λ x ∧ (∀ i, i < k → x i = 0) ∧ 0 < x k ∧ x k ≤ m) → ∃ x, Λ x ∧ (∀ i, i < k → x i = 0) ∧ 0 < x k ∧ ∀ y, Λ y → (∀ i, i < k → y i = 0) → 0 < y k → x k ≤ y k := by
      intro m
      induction m with
      | zero => rintro ⟨x, _, _, h1, h2⟩; omega
      | succ m ih =>
        rintro ⟨x, h1, h2, h3, h4⟩
        by_cases c : ∃ y, Λ y ∧ (∀ i, i < k → y i = 0) ∧ 0 < y k ∧ y k ≤ m
        · exact ih c
        · refine ⟨x, h1, h2, h3, fun y g1 g2 g3 => ?_⟩
          rcases Int.lt_or_le (y k) (x k) with q | q
          · exact absurd ⟨y, g1, g2, g3, by omega⟩ c
          · exact q
    obtain ⟨x0, a1, a2, a3⟩ := hf k (by omega)
    obtain ⟨x, h1, h2, h3, h4⟩ := key (x0 k).toNat ⟨x0, a1, a2, a3, by omega⟩
    obtain ⟨a, ha1, ha2⟩ := ht.reduce x
    have hd : Λ (fun i => x i - a i) := L.sl hΛ h0 ha1
    have haΛ : Λ a := L.cong _ _ (L.add _ _ (-1) h1 hd) fun i => by show x i + -1 * (x i - a i) = a i; omega
    have hdz : ∀ i, i < k + 1 → x i - a i = 0 := fun i hi => Sp.at0 (i := i) (fun r hr => hz r hr i hi) ha1
    have hak : a k = x k := by have := hdz k (by omega); omega
    have haz : ∀ i, i < k → a i = 0 := fun i hi => by have := hdz i (by omega); have := h2 i hi; omega
    have hft : Ft a k := ⟨haz, by omega⟩
    have hzt : ∀ r ∈ t, ∀ i, i ≤ k → r i = 0 := fun r hr i hi => hz r hr i (by omega)
    refine ⟨a :: t, .cons hft hzt ha2 ht, fun r hr => ?_, fun r hr i hi => ?_, fun y g1 g2 => ?_⟩
    · rcases List.mem_cons.mp hr with rfl | hr
      · exact haΛ
      · exact hΛ r hr
    · rcases List.mem_cons.mp hr with rfl | hr
      · exact haz i hi
      · exact hz r hr i (by omega)
    · refine sl_cons.mpr ⟨(y k).fdiv (a k), ?_⟩
      have e := fdiv_fmod (y k) (a k)
      have s := (fmod_sgn (v := y k) (f := a k) (by omega)).1 hft.2
      have hrem : Λ (fun i => y i - (y k).fdiv (a k) * a i) := L.cong _ _ (L.add _ _ (-((y k).fdiv (a k))) g1 haΛ) fun i => by
        show y i + -((y k).fdiv (a k)) * a i = _
        rw [Int.neg_mul]
        rfl
      refine hsp _ hrem fun i hi => ?_
      rcases Nat.lt_or_ge i k with c | c
      · show y i - _ * a i = 0
        rw [g2 i c, haz i c]
        simp
      · have : i = k := by omega
        subst this
        show y i - (y i).fdiv (a i) * a i = 0
        rcases Int.lt_or_le 0 (y i - (y i).fdiv (a i) * a i) with q | q
        · have := h4 _ hrem (fun j hj => by
            show y j - _ * a j = 0
            rw [g2 j hj, haz j hj]
            simp) q
          have : x i ≤ y i - (y i).fdiv (a i) * a i := this
          omega
        · omega
theorem full_ex {h : List Nat} (hp : ∀ n ∈ h, 1 ≤ n) {Λ : Ve → Prop} (L : Latt h.length Λ) (h0 : Λ fun _ => 0) (hr : ∀ k, k < h.length → Λ (vec (rnd h k))) : ∃ S, Full h S ∧ ∀ x, Sl (S.map vec) x ↔ Λ x := by
  obtain ⟨l, h1, h2, _, h4⟩ := stair_from L h0 (fun k hk => ⟨_, hr k hk, fun i hi => by rw [vec_rnd, if_neg (by omega)], by
    rw [vec_rnd, if_pos ⟨rfl, hk⟩]
    have := getD_pos hp hk
    omega⟩) h.length 0 (by omega)
  have ev : ∀ r ∈ l, vec ((List.range h.length).map r) = r := fun r hr => funext fun i => by
    rcases Nat.lt_or_ge i h.length with c | c
    · rw [vec_get (by simp; exact c)]
      simp
    · rw [vec_out (by simp; exact c), L.out r (h2 r hr) i c]
  have em : (l.map fun r => (List.range h.length).map r).map vec = l := by
    rw [List.map_map]
    conv => rhs; rw [← List.map_id l]
    exact List.map_congr_left fun r hr => ev r hr
  refine ⟨l.map fun r => (List.range h.length).map r, ⟨fun r hr => ?_, by rw [em]; exact h1, fun k hk => ?_⟩, fun x => ?_⟩
  · obtain ⟨q, _, rfl⟩ := List.mem_map.mp hr
    simp
  · rw [em]
    exact h4 _ (hr k hk) fun i hi => by omega
  · rw [em]
    exact ⟨L.sl h2 h0, fun hx => h4 x hx fun i hi => by omega⟩
theorem lam_latt {h : List Nat} {A : List (List Int)} (hA : ∀ a ∈ A, a.length = h.length) : Latt h.length (Lam h A) where
  add := fun x y c hx hy => hx.add (hy.smul c)
  cong := fun x y hx e => hx.cong e
  out := fun x hx i hi => Sp.at0 (fun r hr => by
    obtain ⟨a, ha, rfl⟩ := List.mem_map.mp hr
    refine vec_out ?_
    rcases List.mem_append.mp ha with ha | ha
    · rw [hA a ha]
      exact hi
    · obtain ⟨k, _, rfl⟩ := List.mem_map.mp ha
      rw [rnd_len]
      exact hi) hx
/-- the stair of some things -/
theorem lam_ex {h : List Nat} (hp : ∀ n ∈ h, 1 ≤ n) {A : List (List Int)} (hA : ∀ a ∈ A, a.length = h.length) : ∃ S, Full h S ∧ ∀ x, Sl (S.map vec) x ↔ Lam h A x := full_ex hp (lam_latt hA) .zero fun k hk => lam_rnd hk
end St
namespace St
/-- rows of divisors with numbers above feet in one row -/
structure Dg (h : List Nat) (f : Nat → Nat) (i : Nat) (n : Nat → Int) (S : List (List Int)) : Prop where
  ln : S.length = h.length
  len : ∀ r ∈ S, r.length = h.length
  il : i < h.length
  f1 : ∀ k, k < h.length → 1 ≤ f k ∧ f k ∣ h.getD k 0
  v : ∀ k j, k < h.length → j < h.length → vec (S.getD k []) j = if j = k then (f k : Int) else if k = i ∧ i < j then n j else 0
  n0 : ∀ j, i < j → j < h.length → 0 ≤ n j
theorem Dg.mem {h : List Nat} {f : Nat → Nat} {i : Nat} {n : Nat → Int} {S : List (List Int)} (d : Dg h f i n S) {r : List Int} (hr : r ∈ S) : ∃ k, k < h.length ∧ r = S.getD k [] := by
  obtain ⟨k, hk, e⟩ := List.mem_iff_getElem.mp hr
  exact ⟨k, by rw [← d.ln]; exact hk, by rw [← e, List.getD_eq_getElem?_getD, List.getElem?_eq_getElem hk]; rfl⟩
theorem Dg.sl {h : List Nat} {f : Nat → Nat} {i : Nat} {n : Nat → Int} {S : List (List Int)} (d : Dg h f i n S) {k : Nat} (hk : k < h.length) : Sl (S.map vec) (vec (S.getD k [])) := .of (List.mem_map.mpr ⟨_, mem_getD (by rw [d.ln]; exact hk), rfl⟩)
theorem Dg.ft {h : List Nat} {f : Nat → Nat} {i : Nat} {n : Nat → Int} {S : List (List Int)} (d : Dg h f i n S) {k : Nat} (hk : k < h.length) : Ft (vec (S.getD k [])) k := by
  refine ⟨fun j hj => ?_, ?_⟩
  · rw [d.v _ _ hk (by omega), if_neg (by omega), if_neg (by omega)]
  · rw [d.v _ _ hk hk, if_pos rfl]
    have := (d.f1 k hk).1
    omega
end St
namespace St
/-! ### all things of a part, put together row by row -/
def quo (h : List Nat) (S : List (List Int)) (k : Nat) : Nat := h.getD k 0 / (foot S k).toNat
def add' (h : List Nat) (a : List Int) (m : Nat) (r : List Int) : List Int := nrm h fun i => vec a i + (m : Int) * vec r i
def acc (h : List Nat) (S : List (List Int)) : Nat → List (List Int)
  | 0 => [nrm h fun _ => 0]
  | k + 1 => (List.range (quo h S k)).flatMap fun m => (acc h S k).map fun a => add' h a m (S.getD k [])
theorem Full.quo_eq {h : List Nat} {S : List (List Int)} (F : Full h S) (hp : ∀ n ∈ h, 1 ≤ n) {k : Nat} (hk : k < h.length) : foot S k = ((foot S k).toNat : Int) ∧ 1 ≤ (foot S k).toNat ∧ h.getD k 0 = quo h S k * (foot S k).toNat ∧ 1 ≤ quo h S k := by
  have h1 := F.fpos hp hk
  have h2 := (F.fle hp hk).1
  have h3 := getD_pos hp hk
  have e : foot S k = ((foot S k).toNat : Int) := by omega
  rw [e] at h2
  have h4 : (foot S k).toNat ∣ h.getD k 0 := Int.natCast_dvd_natCast.mp h2
  have h5 : h.getD k 0 = quo h S k * (foot S k).toNat := by
    unfold quo
    rw [Nat.div_mul_cancel h4]
  refine ⟨e, by omega, h5, ?_⟩
  rcases Nat.eq_zero_or_pos (quo h S k) with z | z
  · rw [z] at h5
    omega
  · exact z
theorem nrm_sl {h : List Nat} {S : List (List Int)} (F : Full h S) (hp : ∀ n ∈ h, 1 ≤ n) {y : Ve} (hy : Sl (S.map vec) y) (ho : ∀ k, h.length ≤ k → y k = 0) : Sl (S.map vec) (vec (nrm h y)) :=
  sl_mod F.rd hy (fun k hk => by rw [vec_nrm hk, Int.emod_emod_of_dvd _ (Int.dvd_refl _)]) fun k hk => by rw [ho k hk, vec_out (by rw [nrm_len]; exact hk)]
theorem th_out {h : List Nat} {a : List Int} (t : Th h a) {k : Nat} (hk : h.length ≤ k) : vec a k = 0 := vec_out (by rw [t.1]; exact hk)
theorem Full.rout {h : List Nat} {S : List (List Int)} (F : Full h S) (hp : ∀ n ∈ h, 1 ≤ n) {k i : Nat} (hk : k < h.length) (hi : h.length ≤ i) : vec (S.getD k []) i = 0 := vec_out (by rw [F.len _ (mem_getD (by rw [(F.feet hp).1]; exact hk))]; exact hi)
theorem acc_in {h : List Nat} {S : List (List Int)} (F : Full h S) (hp : ∀ n ∈ h, 1 ≤ n) : ∀ k, k ≤ h.length → ∀ a ∈ acc h S k, Th h a ∧ Sl (S.map vec) (vec a)
  | 0, _, a, ha => by
    rw [show a = nrm h fun _ => 0 from List.mem_singleton.mp ha]
    exact ⟨nrm_th hp _, nrm_sl F hp .zero fun _ _ => rfl⟩
  | k + 1, hk, a, ha => by
    obtain ⟨m, hm, ha⟩ := List.mem_flatMap.mp ha
    obtain ⟨b, hb, rfl⟩ := List.mem_map.mp ha
    obtain ⟨t, s⟩ := acc_in F hp k (by omega) b hb
    exact ⟨nrm_th hp _, nrm_sl F hp (s.add ((F.sl hp (by omega)).smul m)) fun i hi => by rw [th_out t hi, F.rout hp (by omega) hi]; simp⟩
theorem Th.mod {h : List Nat} {a : List Int} (t : Th h a) {k : Nat} (hk : k < h.length) : vec a k % ((h.getD k 0 : Nat) : Int) = vec a k := Int.emod_eq_of_lt (t.2 k hk).1 (t.2 k hk).2
theorem add_low {h : List Nat} {S : List (List Int)} (F : Full h S) (hp : ∀ n ∈ h, 1 ≤ n) {a : List Int} (t : Th h a) {m k i : Nat} (hk : k < h.length) (hi : i < k) : vec (add' h a m (S.getD k [])) i = vec a i := by
  unfold add'
  rw [vec_nrm (by omega), ((F.feet hp).2 k hk).1 i hi, Int.mul_zero, Int.add_zero]
  exact t.mod (by omega)
theorem add_at {h : List Nat} {S : List (List Int)} (F : Full h S) (hp : ∀ n ∈ h, 1 ≤ n) {a : List Int} {m k : Nat} (hk : k < h.length) : vec (add' h a m (S.getD k [])) k = (vec a k + (m : Int) * ((foot S k).toNat : Int)) % ((quo h S k : Nat) * (foot S k).toNat : Int) := by
  obtain ⟨e, _, e2, _⟩ := F.quo_eq hp hk
  unfold add'
  rw [vec_nrm hk, e2, show vec (S.getD k []) k = foot S k from rfl, e]
  push_cast
  simp
theorem add_inj {h : List Nat} {S : List (List Int)} (F : Full h S) (hp : ∀ n ∈ h, 1 ≤ n) {k : Nat} (hk : k < h.length) (P : ∀ a ∈ acc h S k, ∀ b ∈ acc h S k, (∀ i, i < k → vec a i = vec b i) → a = b) {a b : List Int} (ha : a ∈ acc h S k) (hb : b ∈ acc h S k) {m n : Nat} (hm : m < quo h S k) (hn : n < quo h S k) (e : ∀ i, i < k + 1 → vec (add' h a m (S.getD k [])) i = vec (add' h b n (S.getD k [])) i) : a = b ∧ m = n := by
  have ta := (acc_in F hp k (by omega) a ha).1
  have tb := (acc_in F hp k (by omega) b hb).1
  have ab : a = b := P a ha b hb fun i hi => by
    have := e i (by omega)
    rw [add_low F hp ta hk hi, add_low F hp tb hk hi] at this
    exact this
  subst ab
  refine ⟨rfl, ?_⟩
  have h1 := e k (by omega)
  rw [add_at F hp hk, add_at F hp hk] at h1
  obtain ⟨_, f1, _, q1⟩ := F.quo_eq hp hk
  generalize (foot S k).toNat = f at *
  generalize quo h S k = q at *
  have h2 := (Int.emod_eq_emod_iff_emod_sub_eq_zero).mp h1
  have h3 := Int.dvd_of_emod_eq_zero h2
  have e3 : (vec a k + (m : Int) * (f : Int)) - (vec a k + (n : Int) * (f : Int)) = ((m : Int) - n) * f := by grind
  rw [e3] at h3
  have h4 : (q : Int) ∣ (m : Int) - n := Int.dvd_of_mul_dvd_mul_right (by omega) h3
  obtain ⟨c, hc⟩ := h4
  rcases Int.lt_trichotomy c 0 with z | z | z
  · have : (q : Int) * c ≤ (q : Int) * (-1) := Int.mul_le_mul_of_nonneg_left (by omega) (by omega)
    omega
  · rw [z] at hc
    omega
  · have : (q : Int) * 1 ≤ (q : Int) * c := Int.mul_le_mul_of_nonneg_left (by omega) (by omega)
    omega
theorem acc_sep {h : List Nat} {S : List (List Int)} (F : Full h S) (hp : ∀ n ∈ h, 1 ≤ n) : ∀ k, k ≤ h.length → ∀ a ∈ acc h S k, ∀ b ∈ acc h S k, (∀ i, i < k → vec a i = vec b i) → a = b
  | 0, _, a, ha, b, hb, _ => by
    rw [show a = nrm h fun _ => 0 from List.mem_singleton.mp ha, show b = nrm h fun _ => 0 from List.mem_singleton.mp hb]
  | k + 1, hk, a, ha, b, hb, e => by
    obtain ⟨m, hm, ha⟩ := List.mem_flatMap.mp ha
    obtain ⟨a', ha', rfl⟩ := List.mem_map.mp ha
    obtain ⟨n, hn, hb⟩ := List.mem_flatMap.mp hb
    obtain ⟨b', hb', rfl⟩ := List.mem_map.mp hb
    obtain ⟨h1, h2⟩ := add_inj F hp (by omega) (acc_sep F hp k (by omega)) ha' hb' (List.mem_range.mp hm) (List.mem_range.mp hn) e
    rw [h1, h2]
theorem nodup_map' {α β : Type} {f : α → β} : ∀ {l : List α}, (∀ a ∈ l, ∀ b ∈ l, f a = f b → a = b) → l.Nodup → (l.map f).Nodup
  | [], _, _ => List.nodup_nil
  | a :: l, h, n => by
    rw [List.map_cons, List.nodup_cons]
    rw [List.nodup_cons] at n
    refine ⟨fun z => ?_, nodup_map' (fun a ha b hb => h a (List.mem_cons_of_mem _ ha) b (List.mem_cons_of_mem _ hb)) n.2⟩
    obtain ⟨b, hb, e⟩ := List.mem_map.mp z
    rw [h b (List.mem_cons_of_mem _ hb) a (List.mem_cons_self ..) e] at hb
    exact n.1 hb
theorem acc_nd {h : List Nat} {S : List (List Int)} (F : Full h S) (hp : ∀ n ∈ h, 1 ≤ n) : ∀ k, k ≤ h.length → (acc h S k).Nodup
  | 0, _ => by simp [acc]
  | k + 1, hk => by
    show List.Pairwise (· ≠ ·) ((List.range (quo h S k)).flatMap fun m => (acc h S k).map fun a => add' h a m (S.getD k []))
    rw [List.pairwise_flatMap]
    constructor
    · intro m hm
      refine nodup_map' (fun a ha b hb e => ?_) (acc_nd F hp k (by omega))
      exact (add_inj F hp (by omega) (acc_sep F hp k (by omega)) ha hb (List.mem_range.mp hm) (List.mem_range.mp hm) fun i _ => by rw [e]).1
    · refine (List.nodup_range (n := quo h S k)).imp_of_mem ?_
      intro m n hm hn hne x hx y hy e
      obtain ⟨a, ha, rfl⟩ := List.mem_map.mp hx
      obtain ⟨b, hb, rfl⟩ := List.mem_map.mp hy
      exact hne (add_inj F hp (by omega) (acc_sep F hp k (by omega)) ha hb (List.mem_range.mp hm) (List.mem_range.mp hn) fun i _ => by rw [e]).2
/-- what is 0 by the rounds ahead of a place is 0 there, but for the rounds -/
theorem low_zero {h : List Nat} {S : List (List Int)} (F : Full h S) : ∀ k, k ≤ h.length → ∀ d : Ve, Sl (S.map vec) d → (∀ i, i < k → ((h.getD i 0 : Nat) : Int) ∣ d i) → ∃ d' : Ve, Sl (S.map vec) d' ∧ (∀ i, i < k → d' i = 0) ∧ ∀ i, k ≤ i → d' i = d i
  | 0, _, d, hd, _ => ⟨d, hd, fun i hi => by omega, fun _ _ => rfl⟩
  | k + 1, hk, d, hd, hz => by
    obtain ⟨d', h1, h2, h3⟩ := low_zero F k (by omega) d hd fun i hi => hz i (by omega)
    obtain ⟨c, hc⟩ := hz k (by omega)
    refine ⟨fun i => d' i - c * vec (rnd h k) i, Sp.subm c h1 (F.rd k (by omega)), fun i hi => ?_, fun i hi => ?_⟩
    · show d' i - c * vec (rnd h k) i = 0
      rw [vec_rnd]
      by_cases e : i = k
      · subst e
        rw [if_pos ⟨rfl, by omega⟩, h3 i (Nat.le_refl _), hc, Int.mul_comm]
        omega
      · rw [if_neg (fun z => e z.1), h2 i (by omega)]
        simp
    · show d' i - c * vec (rnd h k) i = d i
      rw [vec_rnd, if_neg (by omega), h3 i (by omega)]
      simp
theorem acc_all {h : List Nat} {S : List (List Int)} (F : Full h S) (hp : ∀ n ∈ h, 1 ≤ n) : ∀ k, k ≤ h.length → ∀ y : Ve, Sl (S.map vec) y → ∃ a ∈ acc h S k, ∀ i, i < k → ((h.getD i 0 : Nat) : Int) ∣ y i - vec a i
  | 0, _, y, hy => ⟨_, List.mem_singleton.mpr rfl, fun i hi => by omega⟩
  | k + 1, hk, y, hy => by
    obtain ⟨a, ha, hz⟩ := acc_all F hp k (by omega) y hy
    obtain ⟨t, s⟩ := acc_in F hp k (by omega) a ha
    obtain ⟨d, h1, h2, h3⟩ := low_zero F k (by omega) (fun i => y i - vec a i) ((Sp.subm 1 hy s).cong fun i => by show y i - 1 * vec a i = y i - vec a i; omega) hz
    obtain ⟨c, hc⟩ := F.fdvd hp (by omega) h1 h2
    obtain ⟨e, f1, e2, q1⟩ := F.quo_eq hp (k := k) (by omega)
    have hd := h3 k (Nat.le_refl _)
    have hm0 := Int.emod_nonneg c (show ((quo h S k : Nat) : Int) ≠ 0 by omega)
    have hm1 := Int.emod_lt_of_pos c (show (0 : Int) < ((quo h S k : Nat) : Int) by omega)
    obtain ⟨m, hm⟩ := Int.eq_ofNat_of_zero_le hm0
    rw [hm] at hm1
    refine ⟨add' h a m (S.getD k []), List.mem_flatMap.mpr ⟨m, List.mem_range.mpr (by omega), List.mem_map.mpr ⟨a, ha, rfl⟩⟩, fun i hi => ?_⟩
    by_cases ik : i = k
    · subst ik
      rw [add_at F hp (by omega), e2]
      have hc2 : d i = ((foot S i).toNat : Int) * c := by rw [← e]; exact hc
      clear e hc
      generalize (foot S i).toNat = f at *
      generalize quo h S i = q at *
      have hcm := Int.mul_ediv_add_emod c (q : Int)
      have h5 := Int.mul_ediv_add_emod (vec a i + (m : Int) * (f : Int)) ((q * f : Nat) : Int)
      refine ⟨c / (q : Int) + (vec a i + (m : Int) * (f : Int)) / ((q * f : Nat) : Int), ?_⟩
      rw [hm] at hcm
      have hd : d i = y i - vec a i := hd
      push_cast at h5 ⊢
      generalize (vec a i + (m : Int) * (f : Int)) / ((q : Int) * (f : Int)) = z at *
      generalize (vec a i + (m : Int) * (f : Int)) % ((q : Int) * (f : Int)) = z2 at *
      generalize c / (q : Int) = z3 at *
      grind
    · rw [add_low F hp t (by omega) (by omega)]
      exact hz i (by omega)
theorem acc_mem {h : List Nat} {S : List (List Int)} (F : Full h S) (hp : ∀ n ∈ h, 1 ≤ n) (x : List Int) : x ∈ acc h S h.length ↔ Th h x ∧ Sl (S.map vec) (vec x) := by
  constructor
  · exact acc_in F hp _ (Nat.le_refl _) x
  · rintro ⟨t, s⟩
    obtain ⟨a, ha, hz⟩ := acc_all F hp _ (Nat.le_refl _) (vec x) s
    have ta := (acc_in F hp _ (Nat.le_refl _) a ha).1
    have : x = a := vec_ext (by rw [t.1, ta.1]) fun i => by
      rcases Nat.lt_or_ge i h.length with q | q
      · have h1 := hz i q
        have h2 := t.2 i q
        have h3 := ta.2 i q
        have h4 := Int.emod_emod_of_dvd (vec x i) (Int.dvd_refl ((h.getD i 0 : Nat) : Int))
        have h5 : vec x i % ((h.getD i 0 : Nat) : Int) = vec a i % ((h.getD i 0 : Nat) : Int) := Int.emod_eq_emod_iff_emod_sub_eq_zero.mpr (Int.emod_eq_zero_of_dvd h1)
        rw [t.mod q, ta.mod q] at h5
        exact h5
      · rw [th_out t q, th_out ta q]
    rw [this]
    exact ha
end St
namespace St
/-! ### rows whose first numbers are nought -/
/-! ### ways -/
def ph (I : List (List Int)) (x : Ve) : Nat → Ve
  | 0 => fun _ => 0
  | n + 1 => fun j => ph I x n j + x n * vec (I.getD n []) j
structure Way (h g : List Nat) (I : List (List Int)) : Prop where
  n : I.length = h.length
  th : ∀ r ∈ I, Th g r
  ok : ∀ k, k < h.length → ∀ j, j < g.length → ((g.getD j 0 : Nat) : Int) ∣ ((h.getD k 0 : Nat) : Int) * vec (I.getD k []) j
theorem ph_add {I : List (List Int)} {x y : Ve} {c : Int} (j : Nat) : ∀ n, ph I (fun i => x i + c * y i) n j = ph I x n j + c * ph I y n j
  | 0 => by simp [ph]
  | n + 1 => by
    show ph I (fun i => x i + c * y i) n j + (x n + c * y n) * vec (I.getD n []) j = (ph I x n j + x n * vec (I.getD n []) j) + c * (ph I y n j + y n * vec (I.getD n []) j)
    rw [ph_add j n]
    grind
theorem ph_congr {I : List (List Int)} {x y : Ve} {j : Nat} : ∀ {n}, (∀ i, i < n → x i = y i) → ph I x n j = ph I y n j
  | 0, _ => rfl
  | n + 1, h => by
    show ph I x n j + x n * vec (I.getD n []) j = ph I y n j + y n * vec (I.getD n []) j
    rw [ph_congr fun i hi => h i (by omega), h n (by omega)]
theorem ph_zero {I : List (List Int)} (j : Nat) : ∀ n, ph I (fun _ => 0) n j = 0
  | 0 => rfl
  | n + 1 => by
    show ph I (fun _ => 0) n j + 0 * vec (I.getD n []) j = 0
    rw [ph_zero j n]
    simp
theorem ph_unit {I : List (List Int)} (m j : Nat) (a : Int) : ∀ n, ph I (fun i => if i = m then a else 0) n j = if m < n then a * vec (I.getD m []) j else 0
  | 0 => by simp [ph]
  | n + 1 => by
    show ph I (fun i => if i = m then a else 0) n j + (if n = m then a else 0) * vec (I.getD n []) j = _
    rw [ph_unit m j a n]
    by_cases c : n = m
    · subst c
      simp
    · rw [if_neg c]
      by_cases d : m < n
      · rw [if_pos d, if_pos (by omega)]
        simp
      · rw [if_neg d, if_neg (by omega)]
        simp
theorem Way.len {h g : List Nat} {I : List (List Int)} (W : Way h g I) {k : Nat} (hk : k < h.length) : I.getD k [] ∈ I ∧ (I.getD k []).length = g.length := by
  have := mem_getD (S := I) (k := k) (by rw [W.n]; exact hk)
  exact ⟨this, (W.th _ this).1⟩
theorem Way.out {h g : List Nat} {I : List (List Int)} (W : Way h g I) {x : Ve} {j : Nat} (hj : g.length ≤ j) : ∀ n, n ≤ h.length → ph I x n j = 0
  | 0, _ => rfl
  | n + 1, hn => by
    show ph I x n j + x n * vec (I.getD n []) j = 0
    rw [W.out hj n (by omega), vec_out (by rw [(W.len (by omega)).2]; exact hj)]
    simp
/-- what is left by the rounds of the one is left by those of the other -/
theorem Way.mod {h g : List Nat} {I : List (List Int)} (W : Way h g I) {x y : Ve} {j : Nat} (hj : j < g.length) : ∀ n, n ≤ h.length → (∀ k, k < n → ((h.getD k 0 : Nat) : Int) ∣ x k - y k) → ((g.getD j 0 : Nat) : Int) ∣ ph I x n j - ph I y n j
  | 0, _, _ => by
    show _ ∣ (0 : Int) - 0
    simp
  | n + 1, hn, h1 => by
    have ih := W.mod hj n (by omega) fun k hk => h1 k (by omega)
    obtain ⟨c, hc⟩ := h1 n (by omega)
    show _ ∣ (ph I x n j + x n * vec (I.getD n []) j) - (ph I y n j + y n * vec (I.getD n []) j)
    have e : (ph I x n j + x n * vec (I.getD n []) j) - (ph I y n j + y n * vec (I.getD n []) j) = (ph I x n j - ph I y n j) + (x n - y n) * vec (I.getD n []) j := by grind
    rw [e, hc]
    refine Int.dvd_add ih ?_
    have := Int.dvd_mul_of_dvd_left (W.ok n (by omega) j hj) (c := c) |> fun z => z
    rw [show ((h.getD n 0 : Nat) : Int) * c * vec (I.getD n []) j = ((h.getD n 0 : Nat) : Int) * vec (I.getD n []) j * c by grind]
    exact Int.dvd_trans (W.ok n (by omega) j hj) (Int.dvd_mul_right _ _)
end St
namespace St
theorem prd_snoc (h : List Nat) (n : Nat) : prd (h ++ [n]) = prd h * n := by simp [prd]
/-! ### all things of a house as they are told -/
def allS (L : List (List Int)) (x : Nat) : List (List Int) := L.flatMap fun a => (List.range x).map fun i : Nat => a ++ [(i : Int)]
def allT (F : List Nat) : List (List Int) := F.foldl allS [[]]
theorem allT_snoc (F : List Nat) (x : Nat) : allT (F ++ [x]) = allS (allT F) x := by
  unfold allT
  rw [List.foldl_append]
  rfl
theorem vec_sn (a : List Int) (x : Int) (i : Nat) : vec (a ++ [x]) i = if i = a.length then x else vec a i := by
  unfold vec
  rw [List.getD_eq_getElem?_getD, List.getD_eq_getElem?_getD]
  rcases Nat.lt_trichotomy i a.length with c | c | c
  · rw [List.getElem?_append_left c, if_neg (by omega)]
  · subst c
    simp
  · rw [List.getElem?_eq_none (by simp; omega), if_neg (by omega), List.getElem?_eq_none (by omega)]
theorem allT_gen : ∀ (n : Nat) (F : List Nat), F.length = n → (∀ a, a ∈ allT F ↔ Th F a) ∧ (allT F).Nodup ∧ (allT F).length = prd F
  | 0, F, hn => by
    have : F = [] := List.length_eq_zero_iff.mp hn
    subst this
    refine ⟨fun a => ?_, by simp [allT], rfl⟩
    show a ∈ [[]] ↔ _
    rw [List.mem_singleton]
    constructor
    · rintro rfl
      exact ⟨rfl, fun k hk => by simp at hk⟩
    · intro h
      exact List.length_eq_zero_iff.mp h.1
  | n + 1, F, hn => by
    obtain ⟨G, x, rfl⟩ : ∃ G x, F = G ++ [x] := ⟨F.dropLast, F.getLast (by intro e; simp [e] at hn), (List.dropLast_concat_getLast _).symm⟩
    have hG : G.length = n := by simp at hn; exact hn
    obtain ⟨m1, m2, m3⟩ := allT_gen n G hG
    have eg : ∀ k, k < G.length → (G ++ [x]).getD k 0 = G.getD k 0 := fun k hk => by rw [List.getD_eq_getElem?_getD, List.getElem?_append_left hk, ← List.getD_eq_getElem?_getD]
    have ex : (G ++ [x]).getD G.length 0 = x := by rw [List.getD_eq_getElem?_getD, List.getElem?_append_right (Nat.le_refl _)]; simp
    rw [allT_snoc]
    refine ⟨fun a => ?_, ?_, ?_⟩
    · unfold allS
      rw [List.mem_flatMap]
      constructor
      · rintro ⟨b, hb, ha⟩
        obtain ⟨i, hi, rfl⟩ := List.mem_map.mp ha
        have hi := List.mem_range.mp hi
        obtain ⟨t1, t2⟩ := (m1 b).mp hb
        refine ⟨by simp [t1], fun k hk => ?_⟩
        rw [vec_sn]
        by_cases c : k = b.length
        · rw [if_pos c, c, t1, ex]
          omega
        · have hk2 : k < G.length := by simp at hk; omega
          rw [if_neg c, eg k hk2]
          exact t2 k hk2
      · rintro ⟨t1, t2⟩
        have ne : a ≠ [] := by intro e; simp [e] at t1
        obtain ⟨b, y, rfl⟩ : ∃ b y, a = b ++ [y] := ⟨a.dropLast, a.getLast ne, (List.dropLast_concat_getLast _).symm⟩
        have hbl : b.length = G.length := by simpa using t1
        have hy := t2 G.length (by simp)
        rw [vec_sn, if_pos hbl.symm, ex] at hy
        refine ⟨b, (m1 b).mpr ⟨hbl, fun k hk => ?_⟩, List.mem_map.mpr ⟨y.toNat, List.mem_range.mpr (by omega), by rw [show ((y.toNat : Nat) : Int) = y by omega]⟩⟩
        have := t2 k (by simp; omega)
        rw [vec_sn, if_neg (by omega), eg k hk] at this
        exact this
    · unfold allS
      show List.Pairwise (· ≠ ·) _
      rw [List.pairwise_flatMap]
      refine ⟨fun a _ => nodup_map' (fun i _ j _ e => by have := List.append_cancel_left e; simp at this; omega) List.nodup_range, m2.imp fun {a b} hne x hx y hy e => ?_⟩
      obtain ⟨i, _, rfl⟩ := List.mem_map.mp hx
      obtain ⟨j, _, rfl⟩ := List.mem_map.mp hy
      exact hne (List.append_inj_left' e rfl)
    · unfold allS
      rw [List.length_flatMap]
      simp only [List.length_map, List.length_range]
      rw [prd_snoc, ← m3]
      generalize allT G = L
      induction L with
      | nil => simp
      | cons a L ih =>
        rw [List.map_cons, List.sum_cons, ih, List.length_cons, Nat.add_mul]
        omega
theorem allT_mem {F : List Nat} {a : List Int} : a ∈ allT F ↔ Th F a := (allT_gen _ F rfl).1 a
theorem allT_nd (F : List Nat) : (allT F).Nodup := (allT_gen _ F rfl).2.1
theorem allT_len (F : List Nat) : (allT F).length = prd F := (allT_gen _ F rfl).2.2
/-! ### how many -/
theorem nodup_len : ∀ {l m : List (List Int)}, l.Nodup → (∀ x ∈ l, x ∈ m) → l.length ≤ m.length
  | [], _, _, _ => by simp
  | a :: l, m, hn, h => by
    rw [List.nodup_cons] at hn
    have ha := h a (List.mem_cons_self ..)
    have ih := nodup_len (m := m.erase a) hn.2 fun x hx => (List.mem_erase_of_ne (show x ≠ a from fun e => hn.1 (by rw [← e]; exact hx))).mpr (h x (List.mem_cons_of_mem _ hx))
    have := List.length_erase_of_mem ha
    have := List.length_pos_of_mem ha
    rw [List.length_cons]
    omega
theorem len_fiber (f : List Int → List Int) (c : Nat) : ∀ (M L : List (List Int)), M.Nodup → (∀ a ∈ L, f a ∈ M) → (∀ y ∈ M, (L.filter fun a => decide (f a = y)).length = c) → L.length = M.length * c
  | [], L, _, h, _ => by
    cases L with
    | nil => simp
    | cons a L => cases h a (List.mem_cons_self ..)
  | y :: M, L, hn, h, hc => by
    rw [List.nodup_cons] at hn
    have h1 : L.length = (L.filter fun a => decide (f a = y)).length + (L.filter fun a => !decide (f a = y)).length := by
      clear h hc
      induction L with
      | nil => rfl
      | cons a L ih =>
        rw [List.filter_cons, List.filter_cons, List.length_cons, ih]
        cases decide (f a = y) <;> simp <;> omega
    have h2 := len_fiber f c M (L.filter fun a => !decide (f a = y)) hn.2 (fun a ha => by
      obtain ⟨h3, h4⟩ := List.mem_filter.mp ha
      rcases List.mem_cons.mp (h a h3) with e | e
      · simp [e] at h4
      · exact e) (fun z hz => by
      rw [List.filter_filter, ← hc z (List.mem_cons_of_mem _ hz)]
      congr 1
      refine List.filter_congr fun a _ => ?_
      by_cases e : f a = z
      · have : ¬ z = y := fun e2 => hn.1 (e2 ▸ hz)
        simp [e, this]
      · simp [e])
    rw [h1, h2, hc y (List.mem_cons_self ..), List.length_cons, Nat.add_mul]
    omega
def led (h g : List Nat) (I : List (List Int)) (a : List Int) : List Int := nrm g (ph I (vec a) h.length)
/-- the part that is led to nought -/
def Ker (h g : List Nat) (I S : List (List Int)) : Prop := Full h S ∧ ∀ x : Ve, (∀ k, h.length ≤ k → x k = 0) → (Sl (S.map vec) x ↔ ∀ j, j < g.length → ((g.getD j 0 : Nat) : Int) ∣ ph I x h.length j)
def Img (h g : List Nat) (I R : List (List Int)) : Prop := Full g R ∧ ∀ y : Ve, Sl (R.map vec) y ↔ Lam g I y
theorem led_th {h g : List Nat} {I : List (List Int)} (hg : ∀ n ∈ g, 1 ≤ n) (a : List Int) : Th g (led h g I a) := nrm_th hg _
theorem led_eq {h g : List Nat} {I : List (List Int)} (hg : ∀ n ∈ g, 1 ≤ n) {a b : List Int} : led h g I a = led h g I b ↔ ∀ j, j < g.length → ((g.getD j 0 : Nat) : Int) ∣ ph I (vec a) h.length j - ph I (vec b) h.length j := by
  constructor
  · intro e j hj
    have h1 : vec (led h g I a) j = vec (led h g I b) j := by rw [e]
    unfold led at h1
    rw [vec_nrm hj, vec_nrm hj] at h1
    exact Int.dvd_of_emod_eq_zero (Int.emod_eq_emod_iff_emod_sub_eq_zero.mp h1)
  · intro h1
    exact nrm_ext fun j hj => Int.emod_eq_emod_iff_emod_sub_eq_zero.mpr (Int.emod_eq_zero_of_dvd (h1 j hj))
theorem led_mem {h g : List Nat} {I : List (List Int)} (hg : ∀ n ∈ g, 1 ≤ n) {a y : List Int} (hy : Th g y) : led h g I a = y ↔ ∀ j, j < g.length → ((g.getD j 0 : Nat) : Int) ∣ ph I (vec a) h.length j - vec y j := by
  rw [← nrm_self hy]
  constructor
  · intro e j hj
    have h1 : vec (led h g I a) j = vec (nrm g (vec y)) j := by rw [e]
    unfold led at h1
    rw [vec_nrm hj, vec_nrm hj] at h1
    have := Int.dvd_of_emod_eq_zero (Int.emod_eq_emod_iff_emod_sub_eq_zero.mp h1)
    rw [nrm_self hy]
    exact this
  · intro h1
    refine nrm_ext fun j hj => Int.emod_eq_emod_iff_emod_sub_eq_zero.mpr (Int.emod_eq_zero_of_dvd ?_)
    have := h1 j hj
    rw [nrm_self hy] at this
    exact this
theorem ker_mem {h g : List Nat} {I S : List (List Int)} (hh : ∀ n ∈ h, 1 ≤ n) (K : Ker h g I S) (x : List Int) : x ∈ acc h S h.length ↔ Th h x ∧ ∀ j, j < g.length → ((g.getD j 0 : Nat) : Int) ∣ ph I (vec x) h.length j := by
  rw [acc_mem K.1 hh]
  exact and_congr_right fun t => K.2 _ fun k hk => th_out t hk
/-- what is reached is what some thing is led to -/
theorem lam_led {h g : List Nat} {I : List (List Int)} (W : Way h g I) {y : Ve} (hy : Lam g I y) : ∃ x : Ve, ∀ j, j < g.length → ((g.getD j 0 : Nat) : Int) ∣ ph I x h.length j - y j := by
  induction hy with
  | zero => exact ⟨fun _ => 0, fun j _ => by rw [ph_zero]; simp⟩
  | @step y r c hr hy ih =>
    obtain ⟨x, hx⟩ := ih
    obtain ⟨q, hq, rfl⟩ := List.mem_map.mp hr
    rcases List.mem_append.mp hq with hq | hq
    · obtain ⟨k, hk, e⟩ := List.mem_iff_getElem.mp hq
      have hkh : k < h.length := by rw [← W.n]; exact hk
      have e2 : I.getD k [] = q := by rw [List.getD_eq_getElem?_getD, List.getElem?_eq_getElem hk, e]; rfl
      refine ⟨fun i => x i + c * (if i = k then 1 else 0), fun j hj => ?_⟩
      rw [ph_add, ph_unit, if_pos hkh, e2]
      have := hx j hj
      have e3 : ph I x h.length j + c * (1 * vec q j) - (y j + c * vec q j) = ph I x h.length j - y j := by grind
      show _ ∣ ph I x h.length j + c * (1 * vec q j) - (y j + c * vec q j)
      rw [e3]
      exact this
    · obtain ⟨k, hk, rfl⟩ := List.mem_map.mp hq
      refine ⟨x, fun j hj => ?_⟩
      have := hx j hj
      show _ ∣ ph I x h.length j - (y j + c * vec (rnd g k) j)
      have e3 : ph I x h.length j - (y j + c * vec (rnd g k) j) = (ph I x h.length j - y j) - c * vec (rnd g k) j := by omega
      rw [e3]
      refine Int.dvd_sub this (Int.dvd_trans ?_ (Int.dvd_mul_left _ _))
      rw [vec_rnd]
      split
      · next e => rw [e.1]; exact Int.dvd_refl _
      · exact Int.dvd_zero _
theorem ph_lam {h g : List Nat} {I : List (List Int)} (W : Way h g I) (x : Ve) : ∀ n, n ≤ h.length → Lam g I (ph I x n)
  | 0, _ => .zero
  | n + 1, hn => Sp.step (r := vec (I.getD n [])) (x n) (List.mem_map.mpr ⟨_, List.mem_append_left _ (W.len (by omega)).1, rfl⟩) (ph_lam W x n (by omega))
theorem img_mem {h g : List Nat} {I R : List (List Int)} (hh : ∀ n ∈ h, 1 ≤ n) (hg : ∀ n ∈ g, 1 ≤ n) (W : Way h g I) (M : Img h g I R) (y : List Int) : y ∈ acc g R g.length ↔ Th g y ∧ ∃ a, Th h a ∧ led h g I a = y := by
  rw [acc_mem M.1 hg]
  refine and_congr_right fun t => ?_
  rw [M.2]
  constructor
  · intro hy
    obtain ⟨x, hx⟩ := lam_led W hy
    refine ⟨nrm h x, nrm_th hh x, (led_mem hg t).mpr fun j hj => ?_⟩
    have h1 := W.mod (x := vec (nrm h x)) (y := x) hj h.length (Nat.le_refl _) fun k hk => by
      rw [vec_nrm hk]
      exact Int.dvd_of_emod_eq_zero (Int.emod_eq_emod_iff_emod_sub_eq_zero.mp (Int.emod_emod_of_dvd _ (Int.dvd_refl _)))
    have h2 := Int.dvd_add h1 (hx j hj)
    have e : ph I (vec (nrm h x)) h.length j - ph I x h.length j + (ph I x h.length j - vec y j) = ph I (vec (nrm h x)) h.length j - vec y j := by omega
    rw [e] at h2
    exact h2
  · rintro ⟨a, ha, e⟩
    have h1 := (led_mem hg t).mp e
    have h2 : Lam g I (ph I (vec a) h.length) := ph_lam W _ _ (Nat.le_refl _)
    refine sl_mod (h := g) (fun k hk => lam_rnd hk) h2 (fun j hj => Int.emod_eq_emod_iff_emod_sub_eq_zero.mpr (Int.emod_eq_zero_of_dvd (h1 j hj))) fun j hj => ?_
    rw [W.out hj _ (Nat.le_refl _), th_out t hj]
theorem count {h g : List Nat} {I S R : List (List Int)} (hh : ∀ n ∈ h, 1 ≤ n) (hg : ∀ n ∈ g, 1 ≤ n) (W : Way h g I) (K : Ker h g I S) (M : Img h g I R) : (acc h S h.length).length * (acc g R g.length).length = prd h := by
  have nK := acc_nd K.1 hh _ (Nat.le_refl _)
  have nM := acc_nd M.1 hg _ (Nat.le_refl _)
  have mK := ker_mem hh K
  have mM := img_mem hh hg W M
  have fib : ∀ y ∈ acc g R g.length, ((allT h).filter fun a => decide (led h g I a = y)).length = (acc h S h.length).length := fun y hy => by
    obtain ⟨ty, a0, ta0, ea0⟩ := (mM y).mp hy
    have nF : ((allT h).filter fun a => decide (led h g I a = y)).Nodup := (allT_nd h).sublist List.filter_sublist
    have mF : ∀ a, a ∈ (allT h).filter (fun a => decide (led h g I a = y)) ↔ Th h a ∧ led h g I a = y := fun a => by rw [List.mem_filter, allT_mem, decide_eq_true_iff]
    have inj : ∀ (s : Int) (a b : List Int), Th h a → Th h b → (s = 1 ∨ s = -1) → nrm h (fun i => vec a i + s * vec a0 i) = nrm h (fun i => vec b i + s * vec a0 i) → a = b := fun s a b ta tb _ e => vec_ext (by rw [ta.1, tb.1]) fun i => by
      rcases Nat.lt_or_ge i h.length with q | q
      · have h1 : vec (nrm h fun i => vec a i + s * vec a0 i) i = vec (nrm h fun i => vec b i + s * vec a0 i) i := by rw [e]
        rw [vec_nrm q, vec_nrm q] at h1
        have h2 := Int.emod_eq_emod_iff_emod_sub_eq_zero.mp h1
        rw [show vec a i + s * vec a0 i - (vec b i + s * vec a0 i) = vec a i - vec b i by omega] at h2
        have h3 := Int.emod_eq_emod_iff_emod_sub_eq_zero.mpr h2
        rw [ta.mod q, tb.mod q] at h3
        exact h3
      · rw [th_out ta q, th_out tb q]
    have shift : ∀ (s : Int) (a : List Int) (j : Nat), j < g.length → ((g.getD j 0 : Nat) : Int) ∣ ph I (vec (nrm h fun i => vec a i + s * vec a0 i)) h.length j - (ph I (vec a) h.length j + s * ph I (vec a0) h.length j) := fun s a j hj => by
      have h1 := W.mod (x := vec (nrm h fun i => vec a i + s * vec a0 i)) (y := fun i => vec a i + s * vec a0 i) hj h.length (Nat.le_refl _) fun k hk => by
        rw [vec_nrm hk]
        exact Int.dvd_of_emod_eq_zero (Int.emod_eq_emod_iff_emod_sub_eq_zero.mp (Int.emod_emod_of_dvd _ (Int.dvd_refl _)))
      rw [ph_add] at h1
      exact h1
    refine Nat.le_antisymm ?_ ?_
    · have n1 := nodup_map' (f := fun a => nrm h fun i => vec a i + (-1) * vec a0 i) (fun a ha b hb e => inj (-1) a b ((mF a).mp ha).1 ((mF b).mp hb).1 (.inr rfl) e) nF
      have := nodup_len (m := acc h S h.length) n1 fun x hx => by
        obtain ⟨a, ha, rfl⟩ := List.mem_map.mp hx
        obtain ⟨ta, ea⟩ := (mF a).mp ha
        refine (mK _).mpr ⟨nrm_th hh _, fun j hj => ?_⟩
        have h1 := shift (-1) a j hj
        have h2 := (led_eq hg (h := h) (I := I) (a := a) (b := a0)).mp (by rw [ea, ea0]) j hj
        have h3 := Int.dvd_add h1 h2
        rw [show ph I (vec (nrm h fun i => vec a i + (-1) * vec a0 i)) h.length j - (ph I (vec a) h.length j + (-1) * ph I (vec a0) h.length j) + (ph I (vec a) h.length j - ph I (vec a0) h.length j) = ph I (vec (nrm h fun i => vec a i + (-1) * vec a0 i)) h.length j by omega] at h3
        exact h3
      simpa using this
    · have n1 := nodup_map' (f := fun a => nrm h fun i => vec a i + 1 * vec a0 i) (fun a ha b hb e => inj 1 a b ((mK a).mp ha).1 ((mK b).mp hb).1 (.inl rfl) e) nK
      have := nodup_len (m := (allT h).filter fun a => decide (led h g I a = y)) n1 fun x hx => by
        obtain ⟨a, ha, rfl⟩ := List.mem_map.mp hx
        obtain ⟨ta, ea⟩ := (mK a).mp ha
        refine (mF _).mpr ⟨nrm_th hh _, ?_⟩
        rw [← ea0]
        refine (led_eq hg).mpr fun j hj => ?_
        have h1 := shift 1 a j hj
        have h3 := Int.dvd_add h1 (ea j hj)
        rw [show ph I (vec (nrm h fun i => vec a i + 1 * vec a0 i)) h.length j - (ph I (vec a) h.length j + 1 * ph I (vec a0) h.length j) + ph I (vec a) h.length j = ph I (vec (nrm h fun i => vec a i + 1 * vec a0 i)) h.length j - ph I (vec a0) h.length j by omega] at h3
        exact h3
      simpa using this
  have := len_fiber (led h g I) (acc h S h.length).length (acc g R g.length) (allT h) nM (fun a ha => (mM _).mpr ⟨led_th hg a, a, allT_mem.mp ha, rfl⟩) fib
  rw [allT_len] at this
  rw [this, Nat.mul_comm]
end St
namespace St
/-! ### kernels, low things -/
theorem zero_led {h g : List Nat} {I : List (List Int)} (hg : ∀ n ∈ g, 1 ≤ n) {a : List Int} : led h g I a = nrm g (fun _ => 0) ↔ ∀ j, j < g.length → ((g.getD j 0 : Nat) : Int) ∣ ph I (vec a) h.length j := by
  rw [led_mem hg (nrm_th hg _)]
  refine forall_congr' fun j => forall_congr' fun hj => ?_
  rw [vec_nrm hj, Int.zero_emod, Int.sub_zero]
theorem ker_ex {h g : List Nat} {I : List (List Int)} (hh : ∀ n ∈ h, 1 ≤ n) (hg : ∀ n ∈ g, 1 ≤ n) (W : Way h g I) : ∃ S, Ker h g I S := by
  obtain ⟨S, F, hS⟩ := lam_ex hh (A := (allT h).filter fun a => decide (led h g I a = nrm g fun _ => 0)) fun a ha => (allT_mem.mp (List.mem_filter.mp ha).1).1
  refine ⟨S, F, fun x hx => (hS x).trans ⟨fun hl => ?_, fun hd => ?_⟩⟩
  · clear hx
    induction hl with
    | zero => exact fun j _ => by rw [ph_zero]; exact Int.dvd_zero _
    | @step x r c hr hx ih =>
      intro j hj
      rw [ph_add]
      refine Int.dvd_add (ih j hj) (Int.dvd_trans ?_ (Int.dvd_mul_left _ _))
      obtain ⟨q, hq, rfl⟩ := List.mem_map.mp hr
      rcases List.mem_append.mp hq with hq | hq
      · exact (zero_led hg).mp (of_decide_eq_true (List.mem_filter.mp hq).2) j hj
      · obtain ⟨k, hk, rfl⟩ := List.mem_map.mp hq
        have hk := List.mem_range.mp hk
        have e3 : ph I (vec (rnd h k)) h.length j = ph I (fun i => if i = k then ((h.getD k 0 : Nat) : Int) else 0) h.length j := ph_congr fun i hi => by
          rw [vec_rnd]
          simp [hk]
        rw [e3, ph_unit, if_pos hk]
        exact W.ok k hk j hj
  · have hn : ∀ k, k < h.length → ((h.getD k 0 : Nat) : Int) ∣ vec (nrm h x) k - x k := fun k hk => by
      rw [vec_nrm hk]
      exact Int.dvd_of_emod_eq_zero (Int.emod_eq_emod_iff_emod_sub_eq_zero.mp (Int.emod_emod_of_dvd _ (Int.dvd_refl _)))
    have h1 : ∀ j, j < g.length → ((g.getD j 0 : Nat) : Int) ∣ ph I (vec (nrm h x)) h.length j := fun j hj => by
      have := Int.dvd_add (W.mod (x := vec (nrm h x)) (y := x) hj h.length (Nat.le_refl _) hn) (hd j hj)
      rw [show ph I (vec (nrm h x)) h.length j - ph I x h.length j + ph I x h.length j = ph I (vec (nrm h x)) h.length j by omega] at this
      exact this
    have h2 : Lam h ((allT h).filter fun a => decide (led h g I a = nrm g fun _ => 0)) (vec (nrm h x)) := .of (List.mem_map.mpr ⟨_, List.mem_append_left _ (List.mem_filter.mpr ⟨allT_mem.mpr (nrm_th hh x), decide_eq_true ((zero_led hg).mpr h1)⟩), rfl⟩)
    refine sl_mod (h := h) (fun k hk => lam_rnd hk) h2 (fun k hk => Int.emod_eq_emod_iff_emod_sub_eq_zero.mpr (Int.emod_eq_zero_of_dvd (hn k hk))) fun k hk => ?_
    rw [th_out (nrm_th hh x) hk, hx k hk]
theorem vec_eq0 {h : List Nat} {a : List Int} (t : Th h a) (e : ∀ k, k < h.length → vec a k = 0) : a = nrm h fun _ => 0 := vec_ext (by rw [t.1, nrm_len]) fun i => by
  rcases Nat.lt_or_ge i h.length with q | q
  · rw [e i q, vec_nrm q, Int.zero_emod]
  · rw [th_out t q, vec_out (by rw [nrm_len]; exact q)]
theorem onto_iff {h g : List Nat} {I R : List (List Int)} (hh : ∀ n ∈ h, 1 ≤ n) (hg : ∀ n ∈ g, 1 ≤ n) (W : Way h g I) (M : Img h g I R) : (acc g R g.length).length = prd h ↔ ∀ a, Th h a → led h g I a = nrm g (fun _ => 0) → a = nrm h fun _ => 0 := by
  obtain ⟨S, K⟩ := ker_ex hh hg W
  have hc := count hh hg W K M
  have hp := prd_pos h hh
  have mK := ker_mem hh K
  have nK := acc_nd K.1 hh _ (Nat.le_refl _)
  have z : nrm h (fun _ => 0) ∈ acc h S h.length := (mK _).mpr ⟨nrm_th hh _, fun j hj => by
    have e : ph I (vec (nrm h fun _ => 0)) h.length j = ph I (fun _ => 0) h.length j := ph_congr fun i hi => by rw [vec_nrm hi, Int.zero_emod]
    rw [e, ph_zero]
    exact Int.dvd_zero _⟩
  constructor
  · intro e a ta ea
    have h1 : (acc h S h.length).length = 1 := by
      rw [e] at hc
      exact Nat.eq_of_mul_eq_mul_right hp (by omega)
    obtain ⟨y, hy⟩ := List.length_eq_one_iff.mp h1
    have h2 : a ∈ acc h S h.length := (mK a).mpr ⟨ta, (zero_led hg).mp ea⟩
    rw [hy, List.mem_singleton] at h2 z
    rw [h2, z]
  · intro q
    have h1 : acc h S h.length = [nrm h fun _ => 0] := by
      have all : ∀ a ∈ acc h S h.length, a = nrm h fun _ => 0 := fun a ha => q a ((mK a).mp ha).1 ((zero_led hg).mpr ((mK a).mp ha).2)
      match hm : acc h S h.length, nK, all, z with
      | [y], _, all, _ => rw [all y (by simp)]
      | y :: w :: L, nK, all, _ =>
        rw [all y (by simp), all w (by simp)] at nK
        simp at nK
    rw [h1] at hc
    simpa using hc
/-! ### primes -/
def prm (p : Nat) : Prop := 2 ≤ p ∧ ∀ d, d ∣ p → d = 1 ∨ d = p
theorem prm_co {p a : Nat} (hp : prm p) (h : ¬ p ∣ a) : Nat.Coprime p a := by
  have h1 := hp.2 _ (Nat.gcd_dvd_left p a)
  rcases h1 with h1 | h1
  · exact h1
  · exact absurd (h1 ▸ Nat.gcd_dvd_right p a) h
theorem prm_ex : ∀ n : Nat, 2 ≤ n → ∃ p, prm p ∧ p ∣ n := by
  intro n
  induction n using Nat.strongRecOn with
  | ind n ih =>
    intro h
    by_cases hp : prm n
    · exact ⟨n, hp, Nat.dvd_refl _⟩
    · have : ∃ d, d ∣ n ∧ d ≠ 1 ∧ d ≠ n := by
        refine Classical.byContradiction fun z => hp ⟨h, fun d hd => ?_⟩
        refine Classical.byContradiction fun y => z ⟨d, hd, fun e => y (.inl e), fun e => y (.inr e)⟩
      obtain ⟨d, hd, d1, d2⟩ := this
      have hd0 : d ≠ 0 := by
        intro e
        subst e
        have := Nat.eq_zero_of_zero_dvd hd
        omega
      have hle := Nat.le_of_dvd (by omega) hd
      obtain ⟨p, h1, h2⟩ := ih d (by omega) (by omega)
      exact ⟨p, h1, Nat.dvd_trans h2 hd⟩
theorem bez (a b : Nat) : ∃ x y : Int, x * a + y * b = ((Nat.gcd a b : Nat) : Int) := by
  induction a, b using Nat.gcd.induction with
  | H0 n => exact ⟨0, 1, by simp⟩
  | H1 m n hm ih =>
    obtain ⟨x, y, e⟩ := ih
    refine ⟨y - x * ((n / m : Nat) : Int), x, ?_⟩
    rw [Nat.gcd_rec, ← e]
    have h1 : ((n % m : Nat) : Int) = (n : Int) - (m : Int) * ((n / m : Nat) : Int) := by
      have := Nat.div_add_mod n m
      have h2 : ((m * (n / m) + n % m : Nat) : Int) = (n : Int) := by rw [this]
      rw [Int.natCast_add, Int.natCast_mul] at h2
      omega
    rw [h1]
    grind
theorem inv_ex {p : Nat} (hp : prm p) {t : Int} (h : ¬ (p : Int) ∣ t) : ∃ u : Int, (u * t) % p = 1 := by
  have h1 : ¬ p ∣ (t % p).toNat := fun c => h (by
    have hp0 : (0 : Int) < p := by have := hp.1; omega
    have h2 := Int.emod_nonneg t (b := (p : Int)) (by omega)
    have h3 : ((p : Nat) : Int) ∣ (((t % p).toNat : Nat) : Int) := Int.natCast_dvd_natCast.mpr c
    rw [Int.toNat_of_nonneg h2] at h3
    have h4 : t % p = 0 := by
      have := Int.emod_eq_zero_of_dvd h3
      rw [Int.emod_emod_of_dvd _ (Int.dvd_refl _)] at this
      exact this
    exact Int.dvd_of_emod_eq_zero h4)
  have hp0 : (0 : Int) < p := by have := hp.1; omega
  obtain ⟨x, y, e⟩ := bez p (t % p).toNat
  rw [show Nat.gcd p (t % p).toNat = 1 from prm_co hp h1, Int.toNat_of_nonneg (Int.emod_nonneg t (by omega))] at e
  refine ⟨y, ?_⟩
  have h2 : (y * t) % p = (y * (t % p)) % p := by rw [Int.mul_emod, Int.mul_emod y (t % p), Int.emod_emod_of_dvd _ (Int.dvd_refl _)]
  have h3 : y * (t % p) = 1 + p * (-x) := by
    have : ((1 : Nat) : Int) = 1 := rfl
    rw [this] at e
    rw [← e]
    grind
  rw [h2, h3, Int.add_mul_emod_self_left]
  have := hp.1
  exact Int.emod_eq_of_lt (by omega) (by omega)
end St
namespace St
/-! ### things of order p, one of each line -/
def mz (x : List Int) : Bool := x.all fun e => decide (e = 0)
def mny (p n : Nat) (x : List Int) : Nat := if n % p = 0 then (if mz x = true then 2 else p) else 1
def exl (p n : Nat) (F : List (List Int)) : List (List Int) := F.flatMap fun x => (List.range (mny p n x)).map fun k => x ++ [((k : Nat) : Int) * ((n / p : Nat) : Int)]
def few (h : List Nat) (p : Nat) : List (List Int) := h.foldl (fun F n => exl p n F) [[]]
theorem few_snoc (h : List Nat) (n p : Nat) : few (h ++ [n]) p = exl p n (few h p) := by simp [few]
theorem mem_snoc {h : List Nat} {n p : Nat} {x : List Int} : x ∈ few (h ++ [n]) p ↔ ∃ z ∈ few h p, ∃ k, k < mny p n z ∧ x = z ++ [((k : Nat) : Int) * ((n / p : Nat) : Int)] := by
  rw [few_snoc]
  unfold exl
  rw [List.mem_flatMap]
  refine exists_congr fun z => and_congr_right fun _ => ?_
  rw [List.mem_map]
  exact ⟨fun ⟨k, a, b⟩ => ⟨k, List.mem_range.mp a, b.symm⟩, fun ⟨k, a, b⟩ => ⟨k, List.mem_range.mpr a, b.symm⟩⟩
theorem rev_ind {α : Type} {P : List α → Prop} (h0 : P []) (hs : ∀ xs x, P xs → P (xs ++ [x])) (xs : List α) : P xs := by
  rw [← List.reverse_reverse xs]
  induction xs.reverse with
  | nil => exact h0
  | cons y ys ih => rw [List.reverse_cons]; exact hs _ _ ih
theorem vec_snc (a : List Int) (x : Int) (k : Nat) : vec (a ++ [x]) k = if k < a.length then vec a k else if k = a.length then x else 0 := by
  unfold vec
  rw [List.getD_eq_getElem?_getD, List.getD_eq_getElem?_getD]
  split
  · next q => rw [List.getElem?_append_left q]
  · next q =>
    rw [List.getElem?_append_right (by omega)]
    split
    · next e => subst e; simp
    · next e =>
      rw [List.getElem?_eq_none (by simp; omega)]
      rfl
theorem few_th {p : Nat} (hp : 2 ≤ p) (h : List Nat) : (∀ n ∈ h, 1 ≤ n) → ∀ x ∈ few h p, Th h x := by
  induction h using rev_ind with
  | h0 =>
    intro _ x hx
    have : x = [] := by simpa [few] using hx
    subst this
    exact ⟨rfl, fun k hk => by simp at hk⟩
  | hs h n ih =>
    intro hh x hx
    obtain ⟨z, hz, k, hk, rfl⟩ := mem_snoc.mp hx
    have tz := ih (fun m hm => hh m (List.mem_append_left _ hm)) z hz
    have n1 := hh n (by simp)
    refine ⟨by simp [tz.1], fun i hi => ?_⟩
    rw [vec_snc]
    rw [List.length_append, List.length_singleton] at hi
    by_cases c : i < h.length
    · rw [if_pos (by rw [tz.1]; exact c), List.getD_eq_getElem?_getD, List.getElem?_append_left c, ← List.getD_eq_getElem?_getD]
      exact tz.2 i c
    · have : i = h.length := by omega
      subst this
      rw [if_neg (by rw [tz.1]; omega), if_pos tz.1.symm, List.getD_eq_getElem?_getD, List.getElem?_append_right (Nat.le_refl _)]
      simp
      unfold mny at hk
      have hkp : k < p ∧ (n % p ≠ 0 → k = 0) := by
        split at hk
        · split at hk
          · exact ⟨by omega, fun q => by omega⟩
          · exact ⟨hk, fun q => by omega⟩
        · exact ⟨by omega, fun _ => by omega⟩
      refine ⟨Int.mul_nonneg (by omega) (Int.natCast_nonneg _), ?_⟩
      have hlt : k * (n / p) < n := by
        by_cases d : n % p = 0
        · have e1 : p * (n / p) = n := Nat.mul_div_cancel' (Nat.dvd_of_mod_eq_zero d)
          have e2 : 0 < n / p := by
            rcases Nat.eq_zero_or_pos (n / p) with q | q
            · rw [q] at e1
              omega
            · exact q
          have := Nat.mul_lt_mul_of_pos_right hkp.1 e2
          omega
        · rw [hkp.2 d]
          omega
      have := Int.ofNat_lt.mpr hlt
      rw [Int.natCast_mul] at this
      exact this
theorem few_head {p : Nat} (hp : 2 ≤ p) (h : List Nat) : (∀ n ∈ h, 1 ≤ n) → ∃ rest, few h p = List.replicate h.length 0 :: rest ∧ ∀ x ∈ rest, ∃ k, k < h.length ∧ vec x k ≠ 0 := by
  induction h using rev_ind with
  | h0 => exact fun _ => ⟨[], rfl, by simp⟩
  | hs h n ih =>
    intro hh
    have hh' := fun m hm => hh m (List.mem_append_left _ hm)
    obtain ⟨rest, e, hr⟩ := ih hh'
    have n1 := hh n (by simp)
    have tf := few_th hp h hh'
    obtain ⟨m, hm⟩ : ∃ m, mny p n (List.replicate h.length 0) = m + 1 := by
      unfold mny
      split
      · split
        · exact ⟨1, rfl⟩
        · exact ⟨p - 1, by omega⟩
      · exact ⟨0, rfl⟩
    have hpos : 1 < m + 1 → 0 < n / p := fun q => by
      rw [← hm] at q
      unfold mny at q
      split at q
      · next d =>
        have e1 : p * (n / p) = n := Nat.mul_div_cancel' (Nat.dvd_of_mod_eq_zero d)
        rcases Nat.eq_zero_or_pos (n / p) with z | z
        · rw [z] at e1
          omega
        · exact z
      · omega
    refine ⟨((List.range m).map fun k => List.replicate h.length 0 ++ [(((k + 1 : Nat)) : Int) * ((n / p : Nat) : Int)]) ++ exl p n rest, ?_, ?_⟩
    · rw [few_snoc, e]
      unfold exl
      rw [List.flatMap_cons, hm, List.range_succ_eq_map, List.map_cons, List.map_map, List.cons_append]
      congr 1
      simp [List.replicate_succ']
    · intro x hx
      rcases List.mem_append.mp hx with hx | hx
      · obtain ⟨k, hk, rfl⟩ := List.mem_map.mp hx
        have hk := List.mem_range.mp hk
        refine ⟨h.length, by simp, ?_⟩
        rw [vec_snc, if_neg (by simp), if_pos (by simp)]
        have h0 := hpos (by omega)
        intro c
        rcases Int.mul_eq_zero.mp c with c | c
        · omega
        · omega
      · unfold exl at hx
        obtain ⟨z, hz, hx⟩ := List.mem_flatMap.mp hx
        obtain ⟨k, hk, rfl⟩ := List.mem_map.mp hx
        obtain ⟨i, hi, hv⟩ := hr z hz
        have tz := tf z (by rw [e]; exact List.mem_cons_of_mem _ hz)
        refine ⟨i, by simp; omega, ?_⟩
        rw [vec_snc, if_pos (by rw [tz.1]; exact hi)]
        exact hv
theorem few_low {p : Nat} {h : List Nat} {a : List Int} (al : a.length = h.length) (k0 : Nat) (hz : ∀ j, j < k0 → vec a j = 0) (h0 : ∀ j, j < h.length → h.getD j 0 % p ≠ 0 → vec a j = 0) (h1 : k0 < h.length → vec a k0 = ((h.getD k0 0 / p : Nat) : Int) ∧ vec a k0 ≠ 0) (h2 : ∀ j, j < h.length → ∃ k : Nat, (k < p) ∧ vec a j = (k : Int) * ((h.getD j 0 / p : Nat) : Int)) (hp : 2 ≤ p) : ∀ i, i ≤ h.length → a.take i ∈ few (h.take i) p
  | 0, _ => by simp [few]
  | i + 1, hi => by
    have ih := few_low al k0 hz h0 h1 h2 hp i (by omega)
    have e1 : h.take (i + 1) = h.take i ++ [h.getD i 0] := by
      rw [List.take_succ_eq_append_getElem (by omega), List.getD_eq_getElem?_getD, List.getElem?_eq_getElem (by omega)]
      rfl
    have e2 : a.take (i + 1) = a.take i ++ [vec a i] := by
      rw [List.take_succ_eq_append_getElem (by omega), vec_get (by omega)]
    rw [e1, e2, mem_snoc]
    refine ⟨_, ih, ?_⟩
    unfold mny
    by_cases d : h.getD i 0 % p = 0
    · rw [if_pos d]
      by_cases m : mz (a.take i) = true
      · rw [if_pos m]
        have hik : i ≤ k0 := by
          refine Classical.byContradiction fun c => ?_
          have hk0 : k0 < i := by omega
          refine (h1 (by omega)).2 ?_
          unfold mz at m
          rw [List.all_eq_true] at m
          have : a[k0]'(by omega) ∈ a.take i := by
            rw [List.mem_iff_getElem]
            exact ⟨k0, by simp; omega, by simp⟩
          have := of_decide_eq_true (m _ this)
          rw [vec_get (by omega)]
          exact this
        rcases Nat.lt_or_ge i k0 with q | q
        · exact ⟨0, by omega, by rw [hz i q]; simp⟩
        · have : i = k0 := by omega
          subst this
          exact ⟨1, by omega, by rw [(h1 (by omega)).1]; simp⟩
      · rw [if_neg m]
        obtain ⟨k, hk, e⟩ := h2 i (by omega)
        exact ⟨k, hk, by rw [e]⟩
    · rw [if_neg d]
      exact ⟨0, by omega, by rw [h0 i (by omega) d]; simp⟩
end St
namespace St
theorem least {P : Nat → Prop} (n : Nat) : P n → ∃ m, P m ∧ ∀ j, j < m → ¬ P j := by
  induction n using Nat.strongRecOn with
  | ind n ih =>
    intro h
    by_cases c : ∃ j, j < n ∧ P j
    · obtain ⟨j, hj, pj⟩ := c
      exact ih j hj pj
    · exact ⟨n, h, fun j hj pj => c ⟨j, hj, pj⟩⟩
theorem dvd_co {p n : Nat} (hp : prm p) (h : ¬ p ∣ n) {y : Int} (hy : (n : Int) ∣ (p : Int) * y) : (n : Int) ∣ y := by
  have h1 : n ∣ p * y.natAbs := by
    have := Int.natAbs_dvd_natAbs.mpr hy
    rw [Int.natAbs_mul, Int.natAbs_natCast, Int.natAbs_natCast] at this
    exact this
  have h2 := ((prm_co hp h).symm).dvd_of_dvd_mul_left h1
  refine Int.natAbs_dvd_natAbs.mp ?_
  rw [Int.natAbs_natCast]
  exact h2
theorem low2 {h : List Nat} (hh : ∀ n ∈ h, 1 ≤ n) {p : Nat} (hp : prm p) {y : Ve} (hy : ∀ k, k < h.length → ((h.getD k 0 : Nat) : Int) ∣ (p : Int) * y k) (nz : ∃ k, k < h.length ∧ ¬ ((h.getD k 0 : Nat) : Int) ∣ y k) : p ∣ prd h ∧ ∃ (u : Int) (a : List Int), a ∈ (few h p).drop 1 ∧ ∀ k, k < h.length → ((h.getD k 0 : Nat) : Int) ∣ vec a k - u * y k := by
  obtain ⟨k1, hk1⟩ := nz
  obtain ⟨k0, ⟨hk0, nk0⟩, hmin⟩ := least (P := fun k => k < h.length ∧ ¬ ((h.getD k 0 : Nat) : Int) ∣ y k) k1 hk1
  have p2 := hp.1
  have pos : ∀ k, k < h.length → 1 ≤ h.getD k 0 := fun k hk => hh _ (by
    rw [List.getD_eq_getElem?_getD, List.getElem?_eq_getElem hk]
    exact List.getElem_mem hk)
  have part : ∀ k, k < h.length → p ∣ h.getD k 0 → ∃ (s : Nat) (t : Int), h.getD k 0 = p * s ∧ y k = (s : Int) * t ∧ 1 ≤ s ∧ h.getD k 0 / p = s := fun k hk ⟨s, e⟩ => by
    obtain ⟨c, hc⟩ := hy k hk
    refine ⟨s, c, e, ?_, ?_, ?_⟩
    · rw [e, Int.natCast_mul, Int.mul_assoc] at hc
      exact Int.eq_of_mul_eq_mul_left (by omega) hc
    · have := pos k hk
      rcases Nat.eq_zero_or_pos s with z | z
      · rw [z] at e
        omega
      · exact z
    · rw [e]
      exact Nat.mul_div_cancel_left _ (by omega)
  have pd0 : p ∣ h.getD k0 0 := Classical.byContradiction fun c => nk0 (dvd_co hp c (hy k0 hk0))
  obtain ⟨s0, t0, e0, ey0, s1, es0⟩ := part k0 hk0 pd0
  have nt : ¬ (p : Int) ∣ t0 := fun ⟨c, hc⟩ => nk0 ⟨c, by rw [ey0, hc, e0, Int.natCast_mul]; grind⟩
  obtain ⟨u, hu⟩ := inv_ex hp nt
  refine ⟨Nat.dvd_trans pd0 (dvd_prd h k0 hk0), u, nrm h (fun k => u * y k), ?_, fun k hk => ?_⟩
  · have al := nrm_len h (fun k => u * y k)
    have zero : ∀ k, k < h.length → ((h.getD k 0 : Nat) : Int) ∣ y k → vec (nrm h fun k => u * y k) k = 0 := fun k hk hd => by
      rw [vec_nrm hk]
      exact Int.emod_eq_zero_of_dvd (Int.dvd_trans hd (Int.dvd_mul_left _ _))
    have val : ∀ k, k < h.length → ∀ (s : Nat) (t : Int), h.getD k 0 = p * s → y k = (s : Int) * t → 1 ≤ s → vec (nrm h fun k => u * y k) k = (s : Int) * ((u * t) % p) := fun k hk s t e1 e2 e3 => by
      rw [vec_nrm hk, e1, e2, Int.natCast_mul, show u * ((s : Int) * t) = (s : Int) * (u * t) by grind, Int.mul_comm (p : Int) (s : Int)]
      exact Int.mul_emod_mul_of_pos _ _ (by omega)
    have v0 : vec (nrm h fun k => u * y k) k0 = ((s0 : Nat) : Int) := by rw [val k0 hk0 s0 t0 e0 ey0 s1, hu, Int.mul_one]
    have mem := few_low (p := p) al k0 (fun j hj => zero j (by omega) (Classical.byContradiction fun c => hmin j hj ⟨by omega, c⟩)) (fun j hj nd => zero j hj (dvd_co hp (fun c => nd (Nat.mod_eq_zero_of_dvd c)) (hy j hj))) (fun _ => ⟨by rw [v0, es0], by rw [v0]; omega⟩) (fun j hj => by
      by_cases c : p ∣ h.getD j 0
      · obtain ⟨s, t, e1, e2, e3, e4⟩ := part j hj c
        refine ⟨((u * t) % p).toNat, ?_, ?_⟩
        · have := Int.emod_lt_of_pos (u * t) (b := (p : Int)) (by omega)
          have := Int.emod_nonneg (u * t) (b := (p : Int)) (by omega)
          omega
        · rw [val j hj s t e1 e2 e3, e4, Int.toNat_of_nonneg (Int.emod_nonneg _ (by omega)), Int.mul_comm]
      · exact ⟨0, by omega, by rw [zero j hj (dvd_co hp c (hy j hj))]; simp⟩) p2 h.length (Nat.le_refl _)
    rw [List.take_of_length_le (l := nrm h fun k => u * y k) (Nat.le_of_eq al), List.take_of_length_le (l := h) (Nat.le_refl _)] at mem
    obtain ⟨rest, er, _⟩ := few_head p2 h hh
    rw [er] at mem ⊢
    rcases List.mem_cons.mp mem with c | c
    · exfalso
      have h1 : vec (nrm h fun k => u * y k) k0 = 0 := by
        rw [c]
        unfold vec
        rw [List.getD_eq_getElem?_getD, List.getElem?_replicate]
        split <;> rfl
      rw [v0] at h1
      omega
    · exact c
  · rw [vec_nrm hk]
    exact Int.dvd_of_emod_eq_zero (Int.emod_eq_emod_iff_emod_sub_eq_zero.mp (Int.emod_emod_of_dvd _ (Int.dvd_refl _)))
theorem low_ex {h : List Nat} (hh : ∀ n ∈ h, 1 ≤ n) {b : Ve} (nz : ∃ k, k < h.length ∧ ¬ ((h.getD k 0 : Nat) : Int) ∣ b k) (m : Nat) : 1 ≤ m → (∀ k, k < h.length → ((h.getD k 0 : Nat) : Int) ∣ (m : Int) * b k) → ∃ p, prm p ∧ p ∣ prd h ∧ ∃ (c : Int) (a : List Int), a ∈ (few h p).drop 1 ∧ ∀ k, k < h.length → ((h.getD k 0 : Nat) : Int) ∣ vec a k - c * b k := by
  induction m using Nat.strongRecOn with
  | ind m ih =>
    intro m1 hm
    by_cases c : m = 1
    · subst c
      obtain ⟨k, hk, nk⟩ := nz
      refine absurd ?_ nk
      have := hm k hk
      simpa using this
    · obtain ⟨p, hp, q, rfl⟩ := prm_ex m (by omega)
      have p2 := hp.1
      have q1 : 1 ≤ q := by
        rcases Nat.eq_zero_or_pos q with z | z
        · rw [z] at m1
          omega
        · exact z
      by_cases d : ∃ k, k < h.length ∧ ¬ ((h.getD k 0 : Nat) : Int) ∣ (q : Int) * b k
      · obtain ⟨h1, u, a, h2, h3⟩ := low2 hh hp (y := fun k => (q : Int) * b k) (fun k hk => by
          have := hm k hk
          rw [Int.natCast_mul, Int.mul_assoc] at this
          exact this) d
        refine ⟨p, hp, h1, u * q, a, h2, fun k hk => ?_⟩
        rw [Int.mul_assoc]
        exact h3 k hk
      · refine ih q ?_ q1 fun k hk => Classical.byContradiction fun e => d ⟨k, hk, e⟩
        have := Nat.mul_lt_mul_of_pos_right (show 1 < p by omega) q1
        omega
theorem turn_iff {h : List Nat} {I R : List (List Int)} (hh : ∀ n ∈ h, 1 ≤ n) (W : Way h h I) (M : Img h h I R) {ps : List Nat} (hps : ∀ p ∈ ps, 2 ≤ p) (hpa : ∀ p, prm p → p ∣ prd h → p ∈ ps) : (acc h R h.length).length = prd h ↔ ∀ a ∈ ps.flatMap (fun p => (few h p).drop 1), ¬ led h h I a = nrm h fun _ => 0 := by
  rw [onto_iff hh hh W M]
  constructor
  · intro q a ha e
    obtain ⟨p, hp, ha⟩ := List.mem_flatMap.mp ha
    obtain ⟨rest, er, hr⟩ := few_head (hps p hp) h hh
    have ta : Th h a := few_th (hps p hp) h hh a (List.mem_of_mem_drop ha)
    have := q a ta e
    rw [er] at ha
    obtain ⟨k, hk, hv⟩ := hr a ha
    rw [this, vec_nrm hk, Int.zero_emod] at hv
    exact hv rfl
  · intro q b tb eb
    refine Classical.byContradiction fun c => ?_
    have nz : ∃ k, k < h.length ∧ ¬ ((h.getD k 0 : Nat) : Int) ∣ vec b k := Classical.byContradiction fun d => c (vec_eq0 tb fun k hk => by
      have h1 : ((h.getD k 0 : Nat) : Int) ∣ vec b k := Classical.byContradiction fun e => d ⟨k, hk, e⟩
      have := tb.mod hk
      rw [Int.emod_eq_zero_of_dvd h1] at this
      exact this.symm)
    obtain ⟨p, hp, pd, cc, a, ha, hd⟩ := low_ex hh nz (prd h) (prd_pos h hh) fun k hk => Int.dvd_trans (Int.natCast_dvd_natCast.mpr (dvd_prd h k hk)) (Int.dvd_mul_right _ _)
    refine q a (List.mem_flatMap.mpr ⟨p, hpa p hp pd, ha⟩) ((zero_led hh).mpr fun j hj => ?_)
    have h1 := W.mod (x := vec a) (y := fun k => cc * vec b k) hj h.length (Nat.le_refl _) hd
    have h2 := (zero_led hh).mp eb j hj
    have e : ph I (fun k => cc * vec b k) h.length j = cc * ph I (vec b) h.length j := by
      have := ph_add (I := I) (x := fun _ => 0) (y := vec b) (c := cc) j h.length
      rw [ph_zero] at this
      simp only [Int.zero_add] at this
      exact this
    rw [e] at h1
    have h3 := Int.dvd_add h1 (Int.dvd_trans h2 (Int.dvd_mul_left cc _))
    rw [show ph I (vec a) h.length j - cc * ph I (vec b) h.length j + cc * ph I (vec b) h.length j = ph I (vec a) h.length j by omega] at h3
    exact h3
end St
/-! ### sums of any kind (finite), parts of them, and how a form is found (plain) -/
namespace Gn
structure Ab (α : Type) where
  f : α → α → α
  z : α
  n : α → α
  zl : ∀ a, f z a = a
  cm : ∀ a b, f a b = f b a
  as : ∀ a b c, f (f a b) c = f a (f b c)
  nl : ∀ a, f (n a) a = z
variable {α : Type} (A : Ab α)
def Ab.s : Nat → α → α
  | 0, _ => A.z
  | k + 1, a => A.f (Ab.s k a) a
variable {A}
theorem Ab.zr (a : α) : A.f a A.z = a := by rw [A.cm, A.zl]
theorem Ab.nr (a : α) : A.f a (A.n a) = A.z := by rw [A.cm, A.nl]
theorem Ab.lc {a b c : α} (h : A.f a b = A.f a c) : b = c := by
  have := congrArg (A.f (A.n a)) h
  rwa [← A.as, ← A.as, A.nl, A.zl, A.zl] at this
theorem Ab.rc {a b c : α} (h : A.f b a = A.f c a) : b = c := by
  rw [A.cm b a, A.cm c a] at h
  exact A.lc h
theorem Ab.ac4 (a b c d : α) : A.f (A.f a b) (A.f c d) = A.f (A.f a c) (A.f b d) := by
  rw [A.as, ← A.as b c d, A.cm b c, A.as c b d, ← A.as]
theorem Ab.s_one (a : α) : A.s 1 a = a := A.zl a
theorem Ab.s_add (a : α) (m : Nat) : ∀ k, A.s (m + k) a = A.f (A.s m a) (A.s k a)
  | 0 => (A.zr _).symm
  | k + 1 => by
    show A.f (A.s (m + k) a) a = A.f (A.s m a) (A.f (A.s k a) a)
    rw [Ab.s_add a m k, A.as]
theorem Ab.s_f (a b : α) : ∀ m, A.s m (A.f a b) = A.f (A.s m a) (A.s m b)
  | 0 => (A.zl _).symm
  | m + 1 => by
    show A.f (A.s m (A.f a b)) (A.f a b) = A.f (A.f (A.s m a) a) (A.f (A.s m b) b)
    rw [Ab.s_f a b m, A.ac4]
theorem Ab.s_z : ∀ m, A.s m A.z = A.z
  | 0 => rfl
  | m + 1 => by
    show A.f (A.s m A.z) A.z = _
    rw [Ab.s_z m, A.zl]
theorem Ab.s_mul (a : α) (k : Nat) : ∀ m, A.s (m * k) a = A.s m (A.s k a)
  | 0 => by rw [Nat.zero_mul]; rfl
  | m + 1 => by
    rw [Nat.add_mul, Nat.one_mul, Ab.s_add, Ab.s_mul a k m]
    rfl
theorem Ab.s_n (a : α) (m : Nat) : A.s m (A.n a) = A.n (A.s m a) := by
  refine A.rc (a := A.s m a) ?_
  rw [← A.s_f, A.nl, A.nl, A.s_z]
structure Sb (A : Ab α) (S : α → Prop) : Prop where
  z : S A.z
  f : ∀ a b, S a → S b → S (A.f a b)
  n : ∀ a, S a → S (A.n a)
variable {S : α → Prop}
theorem Sb.s (H : Sb A S) {a : α} (h : S a) : ∀ m, S (A.s m a)
  | 0 => H.z
  | m + 1 => H.f _ _ (H.s h m) h
theorem Sb.sub (H : Sb A S) {a b : α} (h : S (A.f a b)) (ha : S a) : S b := by
  have := H.f _ _ (H.n a ha) h
  rwa [← A.as, A.nl, A.zl] at this
theorem Sb.sub' (H : Sb A S) {a b : α} (h : S (A.f a b)) (hb : S b) : S a := H.sub (A.cm a b ▸ h) hb
/-- the outer turn -/
structure Ot (A : Ab α) (S : α → Prop) (a : α) (m : Nat) : Prop where
  p : 1 ≤ m
  i : S (A.s m a)
  l : ∀ k, 1 ≤ k → k < m → ¬ S (A.s k a)
theorem Ot.dvd (H : Sb A S) {a : α} {m : Nat} (h : Ot A S a m) (k : Nat) : S (A.s k a) ↔ m ∣ k := by
  constructor
  · intro hk
    have e := Nat.div_add_mod k m
    rw [← e, A.s_add, Nat.mul_comm, A.s_mul] at hk
    have h2 := H.sub hk (H.s h.i _)
    have hlt : k % m < m := Nat.mod_lt _ h.p
    by_cases h0 : k % m = 0
    · exact Nat.dvd_of_mod_eq_zero h0
    · exact absurd h2 (h.l _ (by omega) hlt)
  · rintro ⟨c, rfl⟩
    rw [Nat.mul_comm, A.s_mul]
    exact H.s h.i _
theorem Ot.uni (H : Sb A S) {a : α} {m k : Nat} (h : Ot A S a m) (g : Ot A S a k) : m = k := Nat.dvd_antisymm ((h.dvd H k).mp g.i) ((g.dvd H m).mp h.i)
theorem least {P : Nat → Prop} : ∀ n, P n → ∃ m, m ≤ n ∧ P m ∧ ∀ k, k < m → ¬ P k := by
  intro n
  induction n using Nat.strongRecOn with
  | ind n ih =>
    intro h
    by_cases c : ∃ k, k < n ∧ P k
    · obtain ⟨k, hk, pk⟩ := c
      obtain ⟨m, h1, h2, h3⟩ := ih k hk pk
      exact ⟨m, by omega, h2, h3⟩
    · exact ⟨n, Nat.le_refl _, h, fun k hk pk => c ⟨k, hk, pk⟩⟩
theorem ot_ex [DecidableEq α] {L : List α} (hL : ∀ a, a ∈ L) (H : Sb A S) (a : α) : ∃ m, m ≤ L.length ∧ Ot A S a m := by
  have key : ∃ i j, i < j ∧ j ≤ L.length ∧ A.s i a = A.s j a := by
    apply Classical.byContradiction
    intro c
    have nd : ((List.range (L.length + 1)).map fun i => A.s i a).Nodup := by
      rw [List.nodup_iff_pairwise_ne, List.pairwise_map]
      refine List.Pairwise.imp_of_mem (fun {i j} hi hj h e => ?_) List.pairwise_lt_range
      rw [List.mem_range] at hj
      exact c ⟨i, j, h, by omega, e⟩
    have := St.nodup_sub _ L nd fun x _ => hL x
    simp at this
    omega
  obtain ⟨i, j, hij, hj, e⟩ := key
  have e2 : A.s (j - i) a = A.z := by
    have : j = i + (j - i) := by omega
    rw [this, A.s_add] at e
    refine (A.lc (a := A.s i a) ?_).symm
    rw [A.zr]
    exact e
  obtain ⟨m, h1, ⟨h2, h3⟩, h4⟩ := least (P := fun m => 1 ≤ m ∧ S (A.s m a)) (j - i) ⟨by omega, by rw [e2]; exact H.z⟩
  exact ⟨m, by omega, h2, h3, fun k k1 k2 hk => h4 k k2 ⟨k1, hk⟩⟩
/-! ### the greatest outer turn -/
theorem cop_pow {p a : Nat} (h : Nat.Coprime p a) (k : Nat) : Nat.Coprime (p ^ k) a := h.pow_left k
/-- p-parts: if M does not divide N, some power of a number p prime to the rest of N divides M and has more than N's -/
theorem ot_max (H : Sb A S) {L : List α} (hL : ∀ a, a ∈ L) [DecidableEq α] {a : α} {N : Nat} (ha : Ot A S a N) (hm : ∀ b M, Ot A S b M → M ≤ N) {b : α} {M : Nat} (hb : Ot A S b M)
    (part : ¬ M ∣ N → ∃ p j k N0 M0, j < k ∧ 2 ≤ p ∧ N = p ^ j * N0 ∧ M = p ^ k * M0 ∧ Nat.Coprime p N0) : M ∣ N := by
  apply Classical.byContradiction
  intro hn
  obtain ⟨p, j, k, N0, M0, hjk, hp, e1, e2, co⟩ := part hn
  have hN0 : 1 ≤ N0 := by
    rcases Nat.eq_zero_or_pos N0 with h | h
    · rw [h, Nat.mul_zero] at e1
      have := ha.p
      omega
    · exact h
  have hM0 : 1 ≤ M0 := by
    rcases Nat.eq_zero_or_pos M0 with h | h
    · rw [h, Nat.mul_zero] at e2
      have := hb.p
      omega
    · exact h
  let c := A.f (A.s (p ^ j) a) (A.s M0 b)
  obtain ⟨t, _, ht⟩ := ot_ex hL H c
  have tc : ∀ q, S (A.s (q * t) c) := fun q => by
    rw [A.s_mul]
    exact H.s ht.i q
  have ex : ∀ q, A.s q c = A.f (A.s (q * p ^ j) a) (A.s (q * M0) b) := fun q => by
    show A.s q (A.f _ _) = _
    rw [A.s_f, A.s_mul, A.s_mul]
  -- p ^ k divides t
  have d1 : p ^ k ∣ t := by
    have h := tc N0
    rw [ex] at h
    have h1 : S (A.s (N0 * t * p ^ j) a) := (ha.dvd H _).mpr ⟨t, by rw [e1]; ac_rfl⟩
    have h2 := (hb.dvd H _).mp (H.sub h h1)
    rw [e2] at h2
    have h3 : p ^ k ∣ N0 * t := Nat.dvd_of_mul_dvd_mul_right hM0 h2
    exact (cop_pow co k).dvd_of_dvd_mul_left h3
  have d2 : N0 ∣ t := by
    have h := tc (p ^ k)
    rw [ex] at h
    have h1 : S (A.s (p ^ k * t * M0) b) := (hb.dvd H _).mpr ⟨t, by rw [e2]; ac_rfl⟩
    have h2 := (ha.dvd H _).mp (H.sub' h h1)
    rw [e1] at h2
    have pj : 0 < p ^ j := Nat.pow_pos (by omega)
    have h3 : N0 ∣ p ^ k * t := by
      have : p ^ j * N0 ∣ p ^ j * (p ^ k * t) := by rwa [Nat.mul_comm (p ^ j) (p ^ k * t)]
      exact Nat.dvd_of_mul_dvd_mul_left pj this
    exact (cop_pow co k).symm.dvd_of_dvd_mul_left h3
  have d3 : p ^ k * N0 ∣ t := Nat.Coprime.mul_dvd_of_dvd_of_dvd (cop_pow co k) d1 d2
  have h1 := Nat.le_of_dvd ht.p d3
  have h2 := hm c t ht
  have h3 : p ^ j < p ^ k := Nat.pow_lt_pow_right (by omega) hjk
  have h4 : p ^ j * N0 < p ^ k * N0 := Nat.mul_lt_mul_of_pos_right h3 hN0
  omega
/-! ### names -/
def Thr : List Nat → List Nat → Prop
  | [], [] => True
  | r :: R, x :: X => x < r ∧ Thr R X
  | _, _ => False
def ads : List Nat → List Nat → List Nat → List Nat
  | r :: R, x :: X, y :: Y => (x + y) % r :: ads R X Y
  | _, _, _ => []
def keys (kv : List (α × List Nat)) : α → Prop := fun a => ∃ x, (a, x) ∈ kv
structure Nm (A : Ab α) (R : List Nat) (kv : List (α × List Nat)) : Prop where
  nd : (kv.map (·.1)).Nodup
  nd2 : (kv.map (·.2)).Nodup
  th : ∀ x, (∃ a, (a, x) ∈ kv) ↔ Thr R x
  z : (A.z, R.map fun _ => 0) ∈ kv
  ad : ∀ a x b y, (a, x) ∈ kv → (b, y) ∈ kv → (A.f a b, ads R x y) ∈ kv
  ng : ∀ a, keys kv a → keys kv (A.n a)
  r2 : ∀ r ∈ R, 2 ≤ r
  dv : R.Pairwise (· ∣ ·)
  ex : ∀ r, R.head? = some r → ∀ a, keys kv (A.s r a)
  pu : ∀ m, (∀ r ∈ R, m ∣ r) → ∀ a, keys kv (A.s m a) → ∃ b, keys kv b ∧ A.s m b = A.s m a
theorem Nm.sb {R : List Nat} {kv : List (α × List Nat)} (H : Nm A R kv) : Sb A (keys kv) :=
  ⟨⟨_, H.z⟩, fun a b ⟨x, hx⟩ ⟨y, hy⟩ => ⟨_, H.ad a x b y hx hy⟩, H.ng⟩
theorem nm_0 : Nm A [] [(A.z, [])] where
  nd := by simp
  nd2 := by simp
  th := fun x => by
    constructor
    · rintro ⟨a, h⟩
      simp at h
      rw [h.2]
      trivial
    · intro h
      cases x with
      | nil => exact ⟨A.z, by simp⟩
      | cons _ _ => exact h.elim
  z := by simp
  ad := fun a x b y h1 h2 => by
    simp at h1 h2
    obtain ⟨rfl, rfl⟩ := h1
    obtain ⟨rfl, rfl⟩ := h2
    simp [A.zl, ads]
  ng := fun a ⟨x, h⟩ => by
    simp at h
    obtain ⟨rfl, rfl⟩ := h
    refine ⟨[], ?_⟩
    have : A.n A.z = A.z := by
      have := A.nl A.z
      rwa [A.zr] at this
    simp [this]
  r2 := fun _ h => nomatch h
  dv := List.Pairwise.nil
  ex := fun _ h => nomatch h
  pu := fun m _ a ⟨x, h⟩ => by
    simp at h
    exact ⟨A.z, ⟨[], by simp⟩, by rw [A.s_z, h.1]⟩
def grow (A : Ab α) (g : α) (N : Nat) (kv : List (α × List Nat)) : List (α × List Nat) := kv.flatMap fun p => (List.range N).map fun o => (A.f p.1 (A.s o g), o :: p.2)
theorem grow_mem {g : α} {N : Nat} {kv : List (α × List Nat)} {a : α} {x : List Nat} : (a, x) ∈ grow A g N kv ↔ ∃ s y o, (s, y) ∈ kv ∧ o < N ∧ a = A.f s (A.s o g) ∧ x = o :: y := by
  unfold grow
  rw [List.mem_flatMap]
  constructor
  · rintro ⟨⟨s, y⟩, h1, h2⟩
    obtain ⟨o, h3, h4⟩ := List.mem_map.mp h2
    injection h4 with h5 h6
    exact ⟨s, y, o, h1, List.mem_range.mp h3, h5.symm, h6.symm⟩
  · rintro ⟨s, y, o, h1, h2, rfl, rfl⟩
    exact ⟨(s, y), h1, List.mem_map.mpr ⟨o, List.mem_range.mpr h2, rfl⟩⟩
theorem Nm.fst_eq {R : List Nat} {kv : List (α × List Nat)} (H : Nm A R kv) {a : α} {x y : List Nat} (h1 : (a, x) ∈ kv) (h2 : (a, y) ∈ kv) : x = y := by
  have nd := H.nd
  induction kv with
  | nil => cases h1
  | cons p kv ih =>
    clear ih
    revert h1 h2
    have : ∀ (l : List (α × List Nat)), (l.map (·.1)).Nodup → (a, x) ∈ l → (a, y) ∈ l → x = y := by
      intro l
      induction l with
      | nil => intro _ h; cases h
      | cons q l ih =>
        intro nd h1 h2
        rw [List.map_cons, List.nodup_cons] at nd
        rcases List.mem_cons.mp h1 with e1 | h1 <;> rcases List.mem_cons.mp h2 with e2 | h2
        · rw [← e1] at e2
          injection e2 with _ e
          exact e.symm
        · exact absurd (List.mem_map.mpr ⟨_, h2, by rw [← e1]⟩) nd.1
        · exact absurd (List.mem_map.mpr ⟨_, h1, by rw [← e2]⟩) nd.1
        · exact ih nd.2 h1 h2
    exact this _ nd
theorem pw_flat {β γ : Type} {P : γ → γ → Prop} (f : β → List γ) : ∀ (l : List β), (∀ x ∈ l, (f x).Pairwise P) → l.Pairwise (fun x y => ∀ u ∈ f x, ∀ v ∈ f y, P u v) → (l.flatMap f).Pairwise P
  | [], _, _ => List.Pairwise.nil
  | x :: l, h1, h2 => by
    rw [List.flatMap_cons, List.pairwise_append]
    rw [List.pairwise_cons] at h2
    refine ⟨h1 x (List.mem_cons_self ..), pw_flat f l (fun y hy => h1 y (List.mem_cons_of_mem _ hy)) h2.2, fun u hu v hv => ?_⟩
    obtain ⟨y, hy, hv⟩ := List.mem_flatMap.mp hv
    exact h2.1 y hy u hu v hv
theorem Nm.step {R : List Nat} {kv : List (α × List Nat)} (H : Nm A R kv) {g : α} {N : Nat} (hN : 2 ≤ N) (hg : Ot A (keys kv) g N) (h0 : A.s N g = A.z) (hex : ∀ a, keys kv (A.s N a)) (hd : ∀ r ∈ R, N ∣ r) : Nm A (N :: R) (grow A g N kv) := by
  have sb := H.sb
  -- o g in the part only if N divides o
  have ind : ∀ {s t : α} {o p : Nat}, keys kv s → keys kv t → o < N → p < N → A.f s (A.s o g) = A.f t (A.s p g) → o = p ∧ s = t := fun {s t o p} hs ht ho hp e => by
    have main : ∀ {s t : α} {o p : Nat}, keys kv s → keys kv t → o ≤ p → p < N → A.f s (A.s o g) = A.f t (A.s p g) → o = p := fun {s t o p} hs ht hop hp e => by
      have e2 : p = (p - o) + o := by omega
      rw [e2, A.s_add, ← A.as] at e
      have e3 := A.rc e
      have h2 : keys kv (A.s (p - o) g) := by
        refine sb.sub (a := t) ?_ ht
        rw [← e3]
        exact hs
      have := (hg.dvd sb _).mp h2
      have := Nat.eq_zero_of_dvd_of_lt this (by omega)
      omega
    have eo : o = p := by
      rcases Nat.le_total o p with h | h
      · exact main hs ht h hp e
      · exact (main ht hs h ho e.symm).symm
    subst eo
    exact ⟨rfl, A.rc e⟩
  have smod : ∀ o, A.s o g = A.s (o % N) g := fun o => by
    conv => lhs; rw [← Nat.div_add_mod o N, A.s_add, Nat.mul_comm, A.s_mul, h0, A.s_z, A.zl]
  have nds : kv.Pairwise (fun p q => p.1 ≠ q.1) := List.pairwise_map.mp H.nd
  have nds2 : kv.Pairwise (fun p q => p.2 ≠ q.2) := List.pairwise_map.mp H.nd2
  have kk : ∀ {a : α}, keys (grow A g N kv) a ↔ ∃ s o, keys kv s ∧ o < N ∧ a = A.f s (A.s o g) := fun {a} => by
    constructor
    · rintro ⟨x, hx⟩
      obtain ⟨s, y, o, h1, h2, h3, _⟩ := grow_mem.mp hx
      exact ⟨s, o, ⟨y, h1⟩, h2, h3⟩
    · rintro ⟨s, o, ⟨y, h1⟩, h2, h3⟩
      exact ⟨_, grow_mem.mpr ⟨s, y, o, h1, h2, h3, rfl⟩⟩
  have up : ∀ {a : α}, keys kv a → keys (grow A g N kv) a := fun {a} h => kk.mpr ⟨a, 0, h, by omega, by show a = A.f a A.z; rw [A.zr]⟩
  have gin : ∀ o, keys (grow A g N kv) (A.s o g) := fun o => kk.mpr ⟨A.z, o % N, sb.z, Nat.mod_lt _ (by omega), by rw [A.zl, ← smod]⟩
  refine ⟨?_, ?_, fun x => ?_, ?_, fun a x b y h1 h2 => ?_, fun a h => ?_, fun r hr => ?_, ?_, fun r hr a => ?_, fun m hm a ha => ?_⟩
  · rw [List.nodup_iff_pairwise_ne, List.pairwise_map]
    refine pw_flat _ kv (fun p hp => ?_) (List.Pairwise.imp_of_mem (fun {p q} hp hq hpq u hu v hv e => ?_) nds)
    · rw [List.pairwise_map]
      refine List.Pairwise.imp_of_mem (fun {i j} hi hj hij e => ?_) List.pairwise_lt_range
      rw [List.mem_range] at hi hj
      have := (ind ⟨p.2, hp⟩ ⟨p.2, hp⟩ hi hj e).1
      omega
    · obtain ⟨i, hi, rfl⟩ := List.mem_map.mp hu
      obtain ⟨j, hj, rfl⟩ := List.mem_map.mp hv
      rw [List.mem_range] at hi hj
      exact hpq (ind ⟨p.2, hp⟩ ⟨q.2, hq⟩ hi hj e).2
  · rw [List.nodup_iff_pairwise_ne, List.pairwise_map]
    refine pw_flat _ kv (fun p hp => ?_) (List.Pairwise.imp_of_mem (fun {p q} hp hq hpq u hu v hv e => ?_) nds2)
    · rw [List.pairwise_map]
      refine List.Pairwise.imp (fun {i j} hij e => ?_) List.pairwise_lt_range
      injection e with e _
      omega
    · obtain ⟨i, hi, rfl⟩ := List.mem_map.mp hu
      obtain ⟨j, hj, rfl⟩ := List.mem_map.mp hv
      injection e with _ e
      exact hpq e
  · constructor
    · rintro ⟨a, h⟩
      obtain ⟨s, y, o, h1, h2, _, rfl⟩ := grow_mem.mp h
      exact ⟨h2, (H.th y).mp ⟨s, h1⟩⟩
    · intro h
      cases x with
      | nil => exact h.elim
      | cons o y =>
        obtain ⟨s, hs⟩ := (H.th y).mpr h.2
        exact ⟨_, grow_mem.mpr ⟨s, y, o, hs, h.1, rfl, rfl⟩⟩
  · refine grow_mem.mpr ⟨A.z, _, 0, H.z, by omega, ?_, rfl⟩
    show A.z = A.f A.z A.z
    rw [A.zl]
  · obtain ⟨s, u, o, g1, g2, rfl, rfl⟩ := grow_mem.mp h1
    obtain ⟨t, v, p, k1, k2, rfl, rfl⟩ := grow_mem.mp h2
    refine grow_mem.mpr ⟨A.f s t, ads R u v, (o + p) % N, H.ad s u t v g1 k1, Nat.mod_lt _ (by omega), ?_, rfl⟩
    rw [A.ac4, ← A.s_add, smod]
  · obtain ⟨s, o, hs, ho, rfl⟩ := kk.mp h
    have e : A.n (A.f s (A.s o g)) = A.f (A.n s) (A.s (N - o) g) := by
      refine A.rc (a := A.f s (A.s o g)) ?_
      rw [A.nl, A.ac4, A.nl, ← A.s_add, A.zl]
      have : N - o + o = N := by omega
      rw [this, h0]
    rw [e]
    exact kk.mpr ⟨A.n s, (N - o) % N, sb.n s hs, Nat.mod_lt _ (by omega), by rw [← smod]⟩
  · rcases List.mem_cons.mp hr with rfl | hr
    · exact hN
    · exact H.r2 r hr
  · exact List.pairwise_cons.mpr ⟨hd, H.dv⟩
  · cases hr
    exact up (hex a)
  · have hmN : m ∣ N := hm N (List.mem_cons_self ..)
    obtain ⟨q, hq⟩ := hmN
    obtain ⟨s, c, hs, hc, e⟩ := kk.mp ha
    -- (N / m) c g is in the part
    have h1 : keys kv (A.s (q * c) g) := by
      have h2 : keys kv (A.s N a) := hex a
      rw [hq, Nat.mul_comm, A.s_mul, e, A.s_f, ← A.s_mul] at h2
      exact sb.sub h2 (sb.s hs _)
    have h2 := (hg.dvd sb _).mp h1
    have q0 : 0 < q := by
      rcases Nat.eq_zero_or_pos q with h | h
      · rw [h, Nat.mul_zero] at hq
        omega
      · exact h
    have h3 : m ∣ c := by
      rw [hq, Nat.mul_comm m q] at h2
      exact Nat.dvd_of_mul_dvd_mul_left q0 h2
    obtain ⟨d, rfl⟩ := h3
    -- a less d g
    have h4 : A.s m (A.f a (A.n (A.s d g))) = s := by
      rw [A.s_f, A.s_n, e, A.s_mul, A.as, A.nr, A.zr]
    obtain ⟨b, hb, eb⟩ := H.pu m (fun r hr => hm r (List.mem_cons_of_mem _ hr)) (A.f a (A.n (A.s d g))) (by rw [h4]; exact hs)
    refine ⟨A.f b (A.s d g), (Sb.f (S := keys (grow A g N kv)) ⟨up sb.z, fun u v hu hv => ?_, fun u hu => ?_⟩ _ _ (up hb) (gin d)), ?_⟩
    · obtain ⟨s1, o1, g1, g2, rfl⟩ := kk.mp hu
      obtain ⟨s2, o2, k1, k2, rfl⟩ := kk.mp hv
      exact kk.mpr ⟨A.f s1 s2, (o1 + o2) % N, sb.f _ _ g1 k1, Nat.mod_lt _ (by omega), by rw [A.ac4, ← A.s_add, smod]⟩
    · obtain ⟨s1, o1, g1, g2, rfl⟩ := kk.mp hu
      refine kk.mpr ⟨A.n s1, (N - o1) % N, sb.n s1 g1, Nat.mod_lt _ (by omega), ?_⟩
      refine A.rc (a := A.f s1 (A.s o1 g)) ?_
      rw [A.nl, A.ac4, A.nl, ← smod, ← A.s_add, A.zl]
      have : N - o1 + o1 = N := by omega
      rw [this, h0]
    · rw [A.s_f, eb, h4, ← A.s_mul, e]
/-- a maker made right -/
theorem Nm.maker {R : List Nat} {kv : List (α × List Nat)} (H : Nm A R kv) {a b : α} {N : Nat} (ha : Ot A (keys kv) a N) (hb : keys kv b) (e : A.s N b = A.s N a) : Ot A (keys kv) (A.f a (A.n b)) N ∧ A.s N (A.f a (A.n b)) = A.z := by
  have sb := H.sb
  have key : ∀ k, keys kv (A.s k (A.f a (A.n b))) ↔ keys kv (A.s k a) := fun k => by
    rw [A.s_f]
    exact ⟨fun h => sb.sub' h (sb.s (sb.n b hb) k), fun h => sb.f _ _ h (sb.s (sb.n b hb) k)⟩
  refine ⟨⟨ha.p, (key N).mpr ha.i, fun k k1 k2 h => ha.l k k1 k2 ((key k).mp h)⟩, ?_⟩
  rw [A.s_f, A.s_n, e, A.nr]
end Gn
namespace K61
open PySem PySem.Spec PyProof.Rows L2 Pu
abbrev ln : List Str := []
instance : TabT := ⟨tabsN ln⟩
def topS (i : Nat) : Stmt := PySem.Challenge.pw_commonhouse_k61_turnings_counted.main.body.getD i (.Pass ⟨0, 0, 0, 0⟩)
abbrev FnP (K : PySem.W.Frag) (x : Str) (st : Stmt) (f : Addr) (fd : FuncData) : Prop := FunD K x x (defArgs st) (defBody st) (defScope st) [] [] f fd
structure Bz (K : PySem.W.Frag) (w : World) (mg : Str → Option Value) : Prop where
  b_range : mg "range" = none
  b_len : mg "len" = none
  b_abs : mg "abs" = none
  b_max : mg "max" = none
  b_int : mg "int" = none
  b_enumerate : mg "enumerate" = none
  b_tuple : mg "tuple" = none
  b_sorted : mg "sorted" = none
  b_set : mg "set" = none
  b_isinstance : mg "isinstance" = none
  b_bool : mg "bool" = none
section
variable {P : Program} {w : World} {K : PySem.W.Frag} {mg : Str → Option Value} {base : Heap}
abbrev s_power : Stmt := topS 1
abbrev N_power : List Str := ["number", "often", "found", "turn"]
theorem sc_power : FnScope N_power ["number", "often"] (defScope s_power) := ⟨rfl, rfl, rfl, by decide +kernel, rfl, by decide +kernel, by decide +kernel⟩
noncomputable def b_power : M Fl := (sSeq (sSet 2 (M.ret (.int 1)))
  (sSeq (sFor (iBy rng1 (aCons (getS 1) aNil)) (gN 3)
  (sSet 2 (bin mulD (getS 2) (getS 0))))
  (sRet ((getS 2).bind fun d => M.ret (.v d)))))
noncomputable def m_power : List Sl → Re RV := fnOf 4 b_power
theorem ok_power {f : Addr} {fd : FuncData} (Fu : FnP K "power" s_power f fd) (B : Bz K w mg) (NS : SeerK P base) : FnG P w K mg base 1 f fd ["number", "often"] (spG K mg 2 m_power) :=
  mk_fn Fu sc_power fun cdv A outer s H E hr =>
  (ss_cons (s_set (i := 2) e_int sc_power.nd)
  (ss_cons (s_for (i_rng1 (a_cons (e_var 1) a_nil) B.b_range) (g_name 3 sc_power.nd)
  (ss_one (s_set (i := 2) (e_op mul_data (e_var 2) (e_var 0)) sc_power.nd)) (passes_of rfl))
  (ss_one (s_ret (o_val (e_var 2))))))
abbrev s_how_often : Stmt := topS 3
abbrev N_how_often : List Str := ["n", "prime", "found"]
theorem sc_how_often : FnScope N_how_often ["n", "prime"] (defScope s_how_often) := ⟨rfl, rfl, rfl, by decide +kernel, rfl, by decide +kernel, by decide +kernel⟩
noncomputable def b_how_often : M Fl := (sSeq (sSet 2 (M.ret (.int 0)))
  (sSeq (sWhile (tBool (bin eqD (bin modD (getS 0) (getS 1)) (M.ret (.int 0))))
  (sSeq (sSet 0 (bin fdivLD (getS 0) (getS 1)))
  (sSet 2 (bin addD (getS 2) (M.ret (.int 1))))))
  (sRet ((getS 2).bind fun d => M.ret (.v d)))))
noncomputable def m_how_often : List Sl → Re RV := fnOf 3 b_how_often
theorem ok_how_often {f : Addr} {fd : FuncData} (Fu : FnP K "how_often" s_how_often f fd) (B : Bz K w mg) (NS : SeerK P base) : FnG P w K mg base 1 f fd ["n", "prime"] (spG K mg 2 m_how_often) :=
  mk_fn Fu sc_how_often fun cdv A outer s H E hr =>
  (ss_cons (s_set (i := 2) e_int sc_how_often.nd)
  (ss_cons (s_while (t_cmp (eq_data hr.units) (e_op mod_data (e_var 0) (e_var 1)) e_int)
  (ss_cons (s_set (i := 0) (e_op (fdivL_data hr NS) (e_var 0) (e_var 1)) sc_how_often.nd)
  (ss_one (s_set (i := 2) (e_op add_data (e_var 2) e_int) sc_how_often.nd))) (passes_of rfl))
  (ss_one (s_ret (o_val (e_var 2))))))
abbrev s__law_pen : Stmt := topS 11
abbrev N__law_pen : List Str := ["_law_script"]
theorem sc__law_pen : FnScope N__law_pen ["_law_script"] (defScope s__law_pen) := ⟨rfl, rfl, rfl, by decide +kernel, rfl, by decide +kernel, by decide +kernel⟩
noncomputable def b__law_pen : M Fl := (sRet (oLst (aCons (getS 0) (aCons (M.ret (.int 0)) (aCons (M.ret (.int 0)) aNil)))))
noncomputable def m__law_pen : List Sl → Re RV := fnOf 1 b__law_pen
theorem ok__law_pen {f : Addr} {fd : FuncData} (Fu : FnP K "_law_pen" s__law_pen f fd) (B : Bz K w mg) (NS : SeerK P base) : FnG P w K mg base 1 f fd ["_law_script"] (spG K mg 1 m__law_pen) :=
  mk_fn Fu sc__law_pen fun cdv A outer s H E hr =>
  (ss_one (s_ret (o_lst (a_cons (e_var 0) (a_cons e_int (a_cons e_int a_nil))))))
abbrev s__law_take : Stmt := topS 12
abbrev N__law_take : List Str := ["_law_pen_here", "_law_many", "_law_digit", "_law_at", "_law_cell", "_law_blend"]
theorem sc__law_take : FnScope N__law_take ["_law_pen_here", "_law_many"] (defScope s__law_take) := ⟨rfl, rfl, rfl, by decide +kernel, rfl, by decide +kernel, by decide +kernel⟩
noncomputable def b__law_take : M Fl := (sSeq (sIf (tBool (bin gtD (eIxS 0 (M.ret (.int 2))) (M.ret (.int 0))))
  (sSeq (sSet 2 (bin modD (eIxS 0 (M.ret (.int 2))) (getS 1)))
  (sSeq (sPut' 0 (M.ret (.int 2)) (bin fdivLD (eIxS 0 (M.ret (.int 2))) (getS 1)))
  (sRet ((getS 2).bind fun d => M.ret (.v d)))))
  sNil)
  (sSeq (sSet 3 (eIxS 0 (M.ret (.int 1))))
  (sSeq (sPut' 0 (M.ret (.int 1)) (bin addD (getS 3) (M.ret (.int 1))))
  (sSeq (sSet 4 (bin addD (bin mulD (M.ret (.int 31)) (getS 3)) (M.ret (.int 7))))
  (sSeq (sIf (tBool (bin gtD (nry (one lenD) (aCons (eIxS 0 (M.ret (.int 0))) aNil)) (M.ret (.int 0))))
  (sSet 4 (bin ixD (eIxS 0 (M.ret (.int 0))) (bin modD (getS 3) (nry (one lenD) (aCons (eIxS 0 (M.ret (.int 0))) aNil)))))
  sNil)
  (sSeq (sIf (tAndM (tBool (bin ltD (getS 3) (nry (one lenD) (aCons (eIxS 0 (M.ret (.int 0))) aNil)))) (tBool (bin geD (nry (one absD) (aCons (getS 4) aNil)) (bin powD (M.ret (.int 10)) (M.ret (.int 18))))))
  (sSeq (sPut' 0 (M.ret (.int 2)) (bin fdivLD (nry (one absD) (aCons (getS 4) aNil)) (getS 1)))
  (sRet ((bin modD (nry (one absD) (aCons (getS 4) aNil)) (getS 1)).bind fun d => M.ret (.v d))))
  sNil)
  (sSeq (sSet 5 (bin modD (bin mulD (bin addD (bin addD (bin modD (getS 4) (M.ret (.int 2147483587))) (bin mulD (M.ret (.int 48271)) (getS 3))) (M.ret (.int 97))) (M.ret (.int 69621))) (M.ret (.int 2147483647))))
  (sSeq (sSet 5 (bin modD (bin addD (bin addD (bin mulD (getS 5) (getS 5)) (bin mulD (M.ret (.int 16807)) (getS 5))) (getS 3)) (M.ret (.int 2147483629))))
  (sSeq (sSet 5 (bin modD (bin addD (bin addD (bin mulD (getS 5) (getS 5)) (bin mulD (M.ret (.int 40692)) (getS 5))) (M.ret (.int 5))) (M.ret (.int 2147483579))))
  (sRet ((bin modD (bin fdivLD (getS 5) (M.ret (.int 64))) (getS 1)).bind fun d => M.ret (.v d))))))))))))
noncomputable def m__law_take : List Sl → Re RV := fnOf 6 b__law_take
theorem ok__law_take {f : Addr} {fd : FuncData} (Fu : FnP K "_law_take" s__law_take f fd) (B : Bz K w mg) (NS : SeerK P base) : FnG P w K mg base 1 f fd ["_law_pen_here", "_law_many"] (spG K mg 2 m__law_take) :=
  mk_fn Fu sc__law_take fun cdv A outer s H E hr =>
  (ss_cons (s_if (t_cmp gt_data (e_ixS 0 e_int hr.u1) e_int)
  (ss_cons (s_set (i := 2) (e_op mod_data (e_ixS 0 e_int hr.u1) (e_var 1)) sc__law_take.nd)
  (ss_cons (s_put 0 e_int (e_op (fdivL_data hr NS) (e_ixS 0 e_int hr.u1) (e_var 1)) hr.u1)
  (ss_one (s_ret (o_val (e_var 2))))))
  ss_nil)
  (ss_cons (s_set (i := 3) (e_ixS 0 e_int hr.u1) sc__law_take.nd)
  (ss_cons (s_put 0 e_int (e_op add_data (e_var 3) e_int) hr.u1)
  (ss_cons (s_set (i := 4) (e_op add_data (e_op mul_data e_int (e_var 3)) e_int) sc__law_take.nd)
  (ss_cons (s_if (t_cmp gt_data (e_callB len_data B.b_len (a_cons (e_ixS 0 e_int hr.u1) a_nil)) e_int)
  (ss_one (s_set (i := 4) (e_ix ix_data (e_ixS 0 e_int hr.u1) (e_op mod_data (e_var 3) (e_callB len_data B.b_len (a_cons (e_ixS 0 e_int hr.u1) a_nil)))) sc__law_take.nd))
  ss_nil)
  (ss_cons (s_if (PW.pt (w_and (t_cmp lt_data (e_var 3) (e_callB len_data B.b_len (a_cons (e_ixS 0 e_int hr.u1) a_nil))) (w_and1 (t_cmp ge_data (e_callB abs_data B.b_abs (a_cons (e_var 4) a_nil)) (e_op pow_data e_int e_int)))))
  (ss_cons (s_put 0 e_int (e_op (fdivL_data hr NS) (e_callB abs_data B.b_abs (a_cons (e_var 4) a_nil)) (e_var 1)) hr.u1)
  (ss_one (s_ret (o_val (e_op mod_data (e_callB abs_data B.b_abs (a_cons (e_var 4) a_nil)) (e_var 1))))))
  ss_nil)
  (ss_cons (s_set (i := 5) (e_op mod_data (e_op mul_data (e_op add_data (e_op add_data (e_op mod_data (e_var 4) e_int) (e_op mul_data e_int (e_var 3))) e_int) e_int) e_int) sc__law_take.nd)
  (ss_cons (s_set (i := 5) (e_op mod_data (e_op add_data (e_op add_data (e_op mul_data (e_var 5) (e_var 5)) (e_op mul_data e_int (e_var 5))) (e_var 3)) e_int) sc__law_take.nd)
  (ss_cons (s_set (i := 5) (e_op mod_data (e_op add_data (e_op add_data (e_op mul_data (e_var 5) (e_var 5)) (e_op mul_data e_int (e_var 5))) e_int) e_int) sc__law_take.nd)
  (ss_one (s_ret (o_val (e_op mod_data (e_op (fdivL_data hr NS) (e_var 5) e_int) (e_var 1))))))))))))))
abbrev s__law_measure : Stmt := topS 13
abbrev N__law_measure : List Str := ["_law_a", "_law_b"]
theorem sc__law_measure : FnScope N__law_measure ["_law_a", "_law_b"] (defScope s__law_measure) := ⟨rfl, rfl, rfl, by decide +kernel, rfl, by decide +kernel, by decide +kernel⟩
noncomputable def b__law_measure : M Fl := (sSeq (sWhile (tBool (bin gtD (getS 1) (M.ret (.int 0))))
  (sPar 0 1 (aCons (getS 1) (aCons (bin modD (getS 0) (getS 1)) aNil))))
  (sRet ((getS 0).bind fun d => M.ret (.v d))))
noncomputable def m__law_measure : List Sl → Re RV := fnOf 2 b__law_measure
theorem ok__law_measure {f : Addr} {fd : FuncData} (Fu : FnP K "_law_measure" s__law_measure f fd) (B : Bz K w mg) (NS : SeerK P base) : FnG P w K mg base 1 f fd ["_law_a", "_law_b"] (spG K mg 2 m__law_measure) :=
  mk_fn Fu sc__law_measure fun cdv A outer s H E hr =>
  (ss_cons (s_while (t_cmp gt_data (e_var 1) e_int)
  (ss_one (s_par (i := 0) (j := 1) (a_cons (e_var 1) (a_cons (e_op mod_data (e_var 0) (e_var 1)) a_nil)) sc__law_measure.nd)) (passes_of rfl))
  (ss_one (s_ret (o_val (e_var 0)))))
abbrev s__law_few : Stmt := topS 18
abbrev N__law_few : List Str := ["_law_house", "_law_prime", "_law_found", "_law_one", "_law_longer", "_law_ahead", "_law_many", "_law_k"]
theorem sc__law_few : FnScope N__law_few ["_law_house", "_law_prime"] (defScope s__law_few) := ⟨rfl, rfl, rfl, by decide +kernel, rfl, by decide +kernel, by decide +kernel⟩
noncomputable def b__law_few : M Fl := (sSeq (sSetO 2 (oLst (aCons (eTup aNil) aNil)))
  (sSeq (sFor (iSeq (getS 0)) (gN 3)
  (sSeq (sSetO 4 (oLst aNil))
  (sSeq (frz 2 (sFor (iSeq (getS 2)) (gN 5)
  (sSeq (sSet 6 (M.ret (.int 1)))
  (sSeq (sIf (tBool (bin eqD (bin modD (getS 3) (getS 1)) (M.ret (.int 0))))
  (sSet 6 (bin ixD (frzM (oLst (aCons (getS 1) (aCons (M.ret (.int 2)) aNil)))) (nry (one intD) (aCons (bin eqD (nry (one maxLT) (aCons (bin addD (getS 5) (eTup (aCons (M.ret (.int 0)) aNil))) aNil)) (M.ret (.int 0))) aNil))))
  sNil)
  (sExtend 4 (oComp (iBy rng1 (aCons (getS 6) aNil)) [7] (gN 7) yes (bin addD (getS 5) (eTup (aCons (bin mulD (getS 7) (bin fdivLD (getS 3) (getS 1))) aNil)))))))))
  (sSetO 2 (takeS 4)))))
  (frz 2 (sRet ((eSl (getS 2) (pSome (M.ret (.int 1))) pNone).bind fun d => M.ret (.v d))))))
noncomputable def m__law_few : List Sl → Re RV := fnOf 8 b__law_few
theorem ok__law_few {f : Addr} {fd : FuncData} (Fu : FnP K "_law_few" s__law_few f fd) (B : Bz K w mg) (NS : SeerK P base) : FnG P w K mg base 1 f fd ["_law_house", "_law_prime"] (spG K mg 2 m__law_few) :=
  mk_fn Fu sc__law_few fun cdv A outer s H E hr =>
  (ss_cons (s_setO (i := 2) (o_lst (a_cons (e_tup a_nil) a_nil)) sc__law_few.nd)
  (ss_cons (s_for (i_seq (e_var 0)) (g_name 3 sc__law_few.nd)
  (ss_cons (s_setO (i := 4) (o_lst a_nil) sc__law_few.nd)
  (ss_cons (s_frz 2 (s_for (i_seq (e_var 2)) (g_name 5 sc__law_few.nd)
  (ss_cons (s_set (i := 6) e_int sc__law_few.nd)
  (ss_cons (s_if (t_cmp (eq_data hr.units) (e_op mod_data (e_var 3) (e_var 1)) e_int)
  (ss_one (s_set (i := 6) (e_ix ix_data (e_val (o_lst (a_cons (e_var 1) (a_cons e_int a_nil)))) (e_callT int_data B.b_int (a_cons (e_cmp (eq_data hr.units) (e_callB (maxLT_data hr.in65) B.b_max (a_cons (e_op add_data (e_var 5) (e_tup (a_cons e_int a_nil))) a_nil)) e_int) a_nil))) sc__law_few.nd))
  ss_nil)
  (ss_one (s_extend 4 (o_lc (own := [("_law_k", 7)]) (i_rng1 (a_cons (e_var 6) a_nil) B.b_range) (blkOk_by (show blkC N__law_few (defScope s__law_few) _ [("_law_k", 7)] = true from by decide +kernel)) (fun _ _ _ _ _ => (g_name 7 sc__law_few.nd)) (fun _ _ _ _ _ => ts_nil) (fun _ _ _ _ _ => (e_op add_data (e_var 5) (e_tup (a_cons (e_op mul_data (e_var 7) (e_op (fdivL_data hr NS) (e_var 3) (e_var 1))) a_nil)))) sc__law_few.nd))))) (passes_of rfl)))
  (ss_one (s_setO (i := 2) (o_take 4) sc__law_few.nd)))) (passes_of rfl))
  (ss_one (s_frz 2 (s_ret (o_val (e_sl (e_var 2) (p_some e_int) p_none)))))))
abbrev s__law_led : Stmt := topS 21
abbrev N__law_led : List Str := ["_law_way", "_law_a", "_law_one", "_law_other", "_law_images", "_law_found", "_law_k", "_law_s", "_law_j"]
theorem sc__law_led : FnScope N__law_led ["_law_way", "_law_a"] (defScope s__law_led) := ⟨rfl, rfl, rfl, by decide +kernel, rfl, by decide +kernel, by decide +kernel⟩
noncomputable def b__law_led : M Fl := (sSeq (sAsg (gT (gCn (gN 2) (gCn (gN 3) (gCn (gN 4) gNl)))) (getS 0))
  (sSeq (sSet 5 (frzM (oComp (iSeq (getS 3)) [7] (gN 7) yes (M.ret (.int 0)))))
  (sSeq (sFor (iBy rng1 (aCons (nry (one lenD) (aCons (getS 2) aNil)) aNil)) (gN 6)
  (sSet 5 (frzM (oComp (iBy rng1 (aCons (nry (one lenD) (aCons (getS 3) aNil)) aNil)) [8] (gN 8) yes (bin addD (bin ixD (getS 5) (getS 8)) (bin mulD (bin ixD (getS 1) (getS 6)) (bin ixD (bin ixD (getS 4) (getS 6)) (getS 8))))))))
  (sRet ((nry (one tupD) (aCons (frzM (oComp (iBy enOf (aCons (getS 3) aNil)) [8, 7] (gT (gCn (gN 8) (gCn (gN 7) gNl))) yes (bin modD (bin ixD (getS 5) (getS 8)) (getS 7)))) aNil)).bind fun d => M.ret (.v d))))))
noncomputable def m__law_led : List Sl → Re RV := fnOf 9 b__law_led
theorem ok__law_led {f : Addr} {fd : FuncData} (Fu : FnP K "_law_led" s__law_led f fd) (B : Bz K w mg) (NS : SeerK P base) : FnG P w K mg base 1 f fd ["_law_way", "_law_a"] (spG K mg 2 m__law_led) :=
  mk_fn Fu sc__law_led fun cdv A outer s H E hr =>
  (ss_cons (s_asg (e_var 0) (g_tup (g_cons (g_name 2 sc__law_led.nd) (g_cons (g_name 3 sc__law_led.nd) (g_cons (g_name 4 sc__law_led.nd) g_nil))) (gCn_len (gCn_len (gCn_len gNl_len)))))
  (ss_cons (s_set (i := 5) (e_val (o_lc (own := [("_law_s", 7)]) (i_seq (e_var 3)) (blkOk_by (show blkC N__law_led (defScope s__law_led) _ [("_law_s", 7)] = true from by decide +kernel)) (fun _ _ _ _ _ => (g_name 7 sc__law_led.nd)) (fun _ _ _ _ _ => ts_nil) (fun _ _ _ _ _ => e_int) sc__law_led.nd)) sc__law_led.nd)
  (ss_cons (s_for (i_rng1 (a_cons (e_callB len_data B.b_len (a_cons (e_var 2) a_nil)) a_nil) B.b_range) (g_name 6 sc__law_led.nd)
  (ss_one (s_set (i := 5) (e_val (o_lc (own := [("_law_j", 8)]) (i_rng1 (a_cons (e_callB len_data B.b_len (a_cons (e_var 3) a_nil)) a_nil) B.b_range) (blkOk_by (show blkC N__law_led (defScope s__law_led) _ [("_law_j", 8)] = true from by decide +kernel)) (fun _ _ _ _ _ => (g_name 8 sc__law_led.nd)) (fun _ _ _ _ _ => ts_nil) (fun _ _ _ _ _ => (e_op add_data (e_ix ix_data (e_var 5) (e_var 8)) (e_op mul_data (e_ix ix_data (e_var 1) (e_var 6)) (e_ix ix_data (e_ix ix_data (e_var 4) (e_var 6)) (e_var 8))))) sc__law_led.nd)) sc__law_led.nd)) (passes_of rfl))
  (ss_one (s_ret (o_val (e_callT tup_data B.b_tuple (a_cons (e_val (o_lc (own := [("_law_j", 8), ("_law_s", 7)]) (i_enum (a_cons (e_var 3) a_nil) B.b_enumerate) (blkOk_by (show blkC N__law_led (defScope s__law_led) _ [("_law_j", 8), ("_law_s", 7)] = true from by decide +kernel)) (fun _ _ _ _ _ => (g_tup (g_cons (g_name 8 sc__law_led.nd) (g_cons (g_name 7 sc__law_led.nd) g_nil)) (gCn_len (gCn_len gNl_len)))) (fun _ _ _ _ _ => ts_nil) (fun _ _ _ _ _ => (e_op mod_data (e_ix ix_data (e_var 5) (e_var 8)) (e_var 7))) sc__law_led.nd)) a_nil))))))))
abbrev s__law_primes : Stmt := topS 22
abbrev N__law_primes : List Str := ["_law_n", "_law_found", "_law_prime"]
theorem sc__law_primes : FnScope N__law_primes ["_law_n"] (defScope s__law_primes) := ⟨rfl, rfl, rfl, by decide +kernel, rfl, by decide +kernel, by decide +kernel⟩
noncomputable def b__law_primes : M Fl := (sSeq (sSetO 1 (oLst aNil))
  (sSeq (sSet 2 (M.ret (.int 2)))
  (sSeq (sWhile (tBool (bin leD (bin mulD (getS 2) (getS 2)) (getS 0)))
  (sSeq (sIf (tBool (bin eqD (bin modD (getS 0) (getS 2)) (M.ret (.int 0))))
  (sAppend 1 (getS 2))
  sNil)
  (sSeq (sWhile (tBool (bin eqD (bin modD (getS 0) (getS 2)) (M.ret (.int 0))))
  (sSet 0 (bin fdivLD (getS 0) (getS 2))))
  (sSet 2 (bin addD (getS 2) (M.ret (.int 1)))))))
  (sSeq (sIf (tBool (bin gtD (getS 0) (M.ret (.int 1))))
  (sAppend 1 (getS 0))
  sNil)
  (sRet (takeS 1))))))
noncomputable def m__law_primes : List Sl → Re RV := fnOf 3 b__law_primes
theorem ok__law_primes {f : Addr} {fd : FuncData} (Fu : FnP K "_law_primes" s__law_primes f fd) (B : Bz K w mg) (NS : SeerK P base) : FnG P w K mg base 1 f fd ["_law_n"] (spG K mg 1 m__law_primes) :=
  mk_fn Fu sc__law_primes fun cdv A outer s H E hr =>
  (ss_cons (s_setO (i := 1) (o_lst a_nil) sc__law_primes.nd)
  (ss_cons (s_set (i := 2) e_int sc__law_primes.nd)
  (ss_cons (s_while (t_cmp le_data (e_op mul_data (e_var 2) (e_var 2)) (e_var 0))
  (ss_cons (s_if (t_cmp (eq_data hr.units) (e_op mod_data (e_var 0) (e_var 2)) e_int)
  (ss_one (s_append 1 (e_var 2)))
  ss_nil)
  (ss_cons (s_while (t_cmp (eq_data hr.units) (e_op mod_data (e_var 0) (e_var 2)) e_int)
  (ss_one (s_set (i := 0) (e_op (fdivL_data hr NS) (e_var 0) (e_var 2)) sc__law_primes.nd)) (passes_of rfl))
  (ss_one (s_set (i := 2) (e_op add_data (e_var 2) e_int) sc__law_primes.nd)))) (passes_of rfl))
  (ss_cons (s_if (t_cmp gt_data (e_var 0) e_int)
  (ss_one (s_append 1 (e_var 0)))
  ss_nil)
  (ss_one (s_ret (o_take 1)))))))
abbrev s__law_often : Stmt := topS 23
abbrev N__law_often : List Str := ["_law_n", "_law_prime", "_law_many"]
theorem sc__law_often : FnScope N__law_often ["_law_n", "_law_prime"] (defScope s__law_often) := ⟨rfl, rfl, rfl, by decide +kernel, rfl, by decide +kernel, by decide +kernel⟩
noncomputable def b__law_often : M Fl := (sSeq (sSet 2 (M.ret (.int 0)))
  (sSeq (sWhile (tBool (bin eqD (bin modD (getS 0) (getS 1)) (M.ret (.int 0))))
  (sSeq (sSet 0 (bin fdivLD (getS 0) (getS 1)))
  (sSet 2 (bin addD (getS 2) (M.ret (.int 1))))))
  (sRet ((getS 2).bind fun d => M.ret (.v d)))))
noncomputable def m__law_often : List Sl → Re RV := fnOf 3 b__law_often
theorem ok__law_often {f : Addr} {fd : FuncData} (Fu : FnP K "_law_often" s__law_often f fd) (B : Bz K w mg) (NS : SeerK P base) : FnG P w K mg base 1 f fd ["_law_n", "_law_prime"] (spG K mg 2 m__law_often) :=
  mk_fn Fu sc__law_often fun cdv A outer s H E hr =>
  (ss_cons (s_set (i := 2) e_int sc__law_often.nd)
  (ss_cons (s_while (t_cmp (eq_data hr.units) (e_op mod_data (e_var 0) (e_var 1)) e_int)
  (ss_cons (s_set (i := 0) (e_op (fdivL_data hr NS) (e_var 0) (e_var 1)) sc__law_often.nd)
  (ss_one (s_set (i := 2) (e_op add_data (e_var 2) e_int) sc__law_often.nd))) (passes_of rfl))
  (ss_one (s_ret (o_val (e_var 2))))))
abbrev s_primes_of : Stmt := topS 4
abbrev N_primes_of : List Str := ["n", "found", "left", "prime", "often"]
theorem sc_primes_of : FnScope N_primes_of ["n"] (defScope s_primes_of) := ⟨rfl, rfl, rfl, by decide +kernel, rfl, by decide +kernel, by decide +kernel⟩
noncomputable def b_primes_of : M Fl := (sSeq (sSetO 1 (oLst aNil))
  (sSeq (sSet 2 (getS 0))
  (sSeq (sSet 3 (M.ret (.int 2)))
  (sSeq (sWhile (tBool (bin leD (bin mulD (getS 3) (getS 3)) (getS 2)))
  (sSeq (sSet 4 (frzM (cCall m_how_often (aCons (getS 2) (aCons (getS 3) aNil)))))
  (sSeq (sIf (tBool (bin gtD (getS 4) (M.ret (.int 0))))
  (sSeq (sAppend 1 (eTup (aCons (getS 3) (aCons (getS 4) aNil))))
  (sSet 2 (bin fdivLD (getS 2) (frzM (cCall m_power (aCons (getS 3) (aCons (getS 4) aNil)))))))
  sNil)
  (sSet 3 (bin addD (getS 3) (M.ret (.int 1)))))))
  (sSeq (sIf (tBool (bin gtD (getS 2) (M.ret (.int 1))))
  (sAppend 1 (eTup (aCons (getS 2) (aCons (M.ret (.int 1)) aNil))))
  sNil)
  (sRet (takeS 1)))))))
noncomputable def m_primes_of : List Sl → Re RV := fnOf 5 b_primes_of
theorem ok_primes_of {f : Addr} {fd : FuncData} (Fu : FnP K "primes_of" s_primes_of f fd) (B : Bz K w mg) (NS : SeerK P base) (G_how_often : Fn P w K mg base 1 "how_often" 2 m_how_often) (G_power : Fn P w K mg base 1 "power" 2 m_power) : FnG P w K mg base 2 f fd ["n"] (spG K mg 1 m_primes_of) :=
  mk_fn Fu sc_primes_of fun cdv A outer s H E hr =>
  (ss_cons (s_setO (i := 1) (o_lst a_nil) sc_primes_of.nd)
  (ss_cons (s_set (i := 2) (e_var 0) sc_primes_of.nd)
  (ss_cons (s_set (i := 3) e_int sc_primes_of.nd)
  (ss_cons (s_while (t_cmp le_data (e_op mul_data (e_var 3) (e_var 3)) (e_var 2))
  (ss_cons (s_set (i := 4) (e_val (o_call G_how_often (hr.mono (by decide : 1 ≤ 1)) (takes_of rfl rfl rfl rfl) (a_cons (e_var 2) (a_cons (e_var 3) a_nil)) (hnm := (aCons_len (aCons_len aNil_len))))) sc_primes_of.nd)
  (ss_cons (s_if (t_cmp gt_data (e_var 4) e_int)
  (ss_cons (s_append 1 (e_tup (a_cons (e_var 3) (a_cons (e_var 4) a_nil))))
  (ss_one (s_set (i := 2) (e_op (fdivL_data hr NS) (e_var 2) (e_val (o_call G_power (hr.mono (by decide : 1 ≤ 1)) (takes_of rfl rfl rfl rfl) (a_cons (e_var 3) (a_cons (e_var 4) a_nil)) (hnm := (aCons_len (aCons_len aNil_len)))))) sc_primes_of.nd)))
  ss_nil)
  (ss_one (s_set (i := 3) (e_op add_data (e_var 3) e_int) sc_primes_of.nd)))) (passes_of rfl))
  (ss_cons (s_if (t_cmp gt_data (e_var 2) e_int)
  (ss_one (s_append 1 (e_tup (a_cons (e_var 2) (a_cons e_int a_nil)))))
  ss_nil)
  (ss_one (s_ret (o_take 1))))))))
abbrev s_many_of_prime : Stmt := topS 8
abbrev N_many_of_prime : List Str := ["prime", "powers", "found", "wide", "at", "often", "less", "up_to", "other"]
theorem sc_many_of_prime : FnScope N_many_of_prime ["prime", "powers"] (defScope s_many_of_prime) := ⟨rfl, rfl, rfl, by decide +kernel, rfl, by decide +kernel, by decide +kernel⟩
noncomputable def b_many_of_prime : M Fl := (sSeq (sSet 2 (M.ret (.int 1)))
  (sSeq (sSet 3 (nry (one lenD) (aCons (getS 1) aNil)))
  (sSeq (sFor (iBy enOf (aCons (getS 1) aNil)) (gT (gCn (gN 4) (gCn (gN 5) gNl)))
  (sSeq (sSet 6 (nry (one lenD) (aCons (frzM (oComp (iSeq (getS 1)) [8] (gN 8) (tBool (bin ltD (getS 8) (getS 5))) (getS 8))) aNil)))
  (sSeq (sSet 7 (nry (one lenD) (aCons (frzM (oComp (iSeq (getS 1)) [8] (gN 8) (tBool (bin leD (getS 8) (getS 5))) (getS 8))) aNil)))
  (sSeq (sSet 2 (bin mulD (getS 2) (bin subD (frzM (cCall m_power (aCons (getS 0) (aCons (getS 7) aNil)))) (frzM (cCall m_power (aCons (getS 0) (aCons (getS 4) aNil)))))))
  (sSet 2 (bin mulD (getS 2) (frzM (cCall m_power (aCons (getS 0) (aCons (bin addD (bin mulD (getS 5) (bin subD (getS 3) (getS 7))) (bin mulD (bin subD (getS 5) (M.ret (.int 1))) (bin subD (getS 3) (getS 6)))) aNil))))))))))
  (sRet ((getS 2).bind fun d => M.ret (.v d))))))
noncomputable def m_many_of_prime : List Sl → Re RV := fnOf 9 b_many_of_prime
theorem ok_many_of_prime {f : Addr} {fd : FuncData} (Fu : FnP K "many_of_prime" s_many_of_prime f fd) (B : Bz K w mg) (NS : SeerK P base) (G_power : Fn P w K mg base 1 "power" 2 m_power) : FnG P w K mg base 2 f fd ["prime", "powers"] (spG K mg 2 m_many_of_prime) :=
  mk_fn Fu sc_many_of_prime fun cdv A outer s H E hr =>
  (ss_cons (s_set (i := 2) e_int sc_many_of_prime.nd)
  (ss_cons (s_set (i := 3) (e_callB len_data B.b_len (a_cons (e_var 1) a_nil)) sc_many_of_prime.nd)
  (ss_cons (s_for (i_enum (a_cons (e_var 1) a_nil) B.b_enumerate) (g_tup (g_cons (g_name 4 sc_many_of_prime.nd) (g_cons (g_name 5 sc_many_of_prime.nd) g_nil)) (gCn_len (gCn_len gNl_len)))
  (ss_cons (s_set (i := 6) (e_callB len_data B.b_len (a_cons (e_val (o_lc (own := [("other", 8)]) (i_seq (e_var 1)) (blkOk_by (show blkC N_many_of_prime (defScope s_many_of_prime) _ [("other", 8)] = true from by decide +kernel)) (fun _ _ _ _ _ => (g_name 8 sc_many_of_prime.nd)) (fun _ _ _ _ _ => (ts_one (t_cmp lt_data (e_var 8) (e_var 5)))) (fun _ _ _ _ _ => (e_var 8)) sc_many_of_prime.nd)) a_nil)) sc_many_of_prime.nd)
  (ss_cons (s_set (i := 7) (e_callB len_data B.b_len (a_cons (e_val (o_lc (own := [("other", 8)]) (i_seq (e_var 1)) (blkOk_by (show blkC N_many_of_prime (defScope s_many_of_prime) _ [("other", 8)] = true from by decide +kernel)) (fun _ _ _ _ _ => (g_name 8 sc_many_of_prime.nd)) (fun _ _ _ _ _ => (ts_one (t_cmp le_data (e_var 8) (e_var 5)))) (fun _ _ _ _ _ => (e_var 8)) sc_many_of_prime.nd)) a_nil)) sc_many_of_prime.nd)
  (ss_cons (s_set (i := 2) (e_op mul_data (e_var 2) (e_op sub_data (e_val (o_call G_power (hr.mono (by decide : 1 ≤ 1)) (takes_of rfl rfl rfl rfl) (a_cons (e_var 0) (a_cons (e_var 7) a_nil)) (hnm := (aCons_len (aCons_len aNil_len))))) (e_val (o_call G_power (hr.mono (by decide : 1 ≤ 1)) (takes_of rfl rfl rfl rfl) (a_cons (e_var 0) (a_cons (e_var 4) a_nil)) (hnm := (aCons_len (aCons_len aNil_len))))))) sc_many_of_prime.nd)
  (ss_one (s_set (i := 2) (e_op mul_data (e_var 2) (e_val (o_call G_power (hr.mono (by decide : 1 ≤ 1)) (takes_of rfl rfl rfl rfl) (a_cons (e_var 0) (a_cons (e_op add_data (e_op mul_data (e_var 5) (e_op sub_data (e_var 3) (e_var 7))) (e_op mul_data (e_op sub_data (e_var 5) e_int) (e_op sub_data (e_var 3) (e_var 6)))) a_nil)) (hnm := (aCons_len (aCons_len aNil_len)))))) sc_many_of_prime.nd))))) (passes_of rfl))
  (ss_one (s_ret (o_val (e_var 2)))))))
abbrev s__law_great : Stmt := topS 14
abbrev N__law_great : List Str := ["_law_pen_here", "_law_base", "_law_found", "_law_k", "_law_sort", "_law_one"]
theorem sc__law_great : FnScope N__law_great ["_law_pen_here"] (defScope s__law_great) := ⟨rfl, rfl, rfl, by decide +kernel, rfl, by decide +kernel, by decide +kernel⟩
noncomputable def b__law_great : M Fl := (sSeq (sSet 1 (bin ixD (frzM (oLst (aCons (M.ret (.int 1000000)) (aCons (M.ret (.int 720720)) (aCons (M.ret (.int 524288)) (aCons (M.ret (.int 531441)) (aCons (M.ret (.int 360360)) aNil))))))) (frzM (cCallI 0 m__law_take (aCons (M.ret (.int 5)) aNil)))))
  (sSeq (sSetO 2 (oLst aNil))
  (sSeq (sFor (iBy rng1 (aCons (bin addD (M.ret (.int 1)) (frzM (cCallI 0 m__law_take (aCons (M.ret (.int 6)) aNil)))) aNil)) (gN 3)
  (sSeq (sSet 4 (frzM (cCallI 0 m__law_take (aCons (M.ret (.int 4)) aNil))))
  (sSeq (sSet 5 (bin addD (M.ret (.int 1)) (frzM (cCallI 0 m__law_take (aCons (M.ret (.int 1000000)) aNil)))))
  (sSeq (sIf (tBool (bin eqD (getS 4) (M.ret (.int 0))))
  (sSet 5 (getS 1))
  sNil)
  (sSeq (sIf (tBool (bin eqD (getS 4) (M.ret (.int 1))))
  (sSet 5 (frzM (cCall m__law_measure (aCons (getS 1) (aCons (getS 5) aNil)))))
  sNil)
  (sSeq (sIf (tBool (bin eqD (getS 4) (M.ret (.int 2))))
  (sSet 5 (bin ixD (frzM (oLst (aCons (M.ret (.int 999983)) (aCons (M.ret (.int 1000000)) (aCons (M.ret (.int 999999)) (aCons (M.ret (.int 65536)) (aCons (M.ret (.int 59049)) (aCons (M.ret (.int 1)) aNil)))))))) (frzM (cCallI 0 m__law_take (aCons (M.ret (.int 6)) aNil)))))
  sNil)
  (sAppend 2 (getS 5))))))))
  (sRet ((eTupS 2).bind fun d => M.ret (.v d))))))
noncomputable def m__law_great : List Sl → Re RV := fnOf 6 b__law_great
theorem ok__law_great {f : Addr} {fd : FuncData} (Fu : FnP K "_law_great" s__law_great f fd) (B : Bz K w mg) (NS : SeerK P base) (G__law_take : Fn P w K mg base 1 "_law_take" 2 m__law_take) (G__law_measure : Fn P w K mg base 1 "_law_measure" 2 m__law_measure) : FnG P w K mg base 2 f fd ["_law_pen_here"] (spG K mg 1 m__law_great) :=
  mk_fn Fu sc__law_great fun cdv A outer s H E hr =>
  (ss_cons (s_set (i := 1) (e_ix ix_data (e_val (o_lst (a_cons e_int (a_cons e_int (a_cons e_int (a_cons e_int (a_cons e_int a_nil))))))) (e_val (o_callI 0 G__law_take (hr.mono (by decide : 1 ≤ 1)) (takes_of rfl rfl rfl rfl) (a_cons e_int a_nil) (fun r ds r' h => congrArg Nat.succ ((aCons_len aNil_len) r ds r' h))))) sc__law_great.nd)
  (ss_cons (s_setO (i := 2) (o_lst a_nil) sc__law_great.nd)
  (ss_cons (s_for (i_rng1 (a_cons (e_op add_data e_int (e_val (o_callI 0 G__law_take (hr.mono (by decide : 1 ≤ 1)) (takes_of rfl rfl rfl rfl) (a_cons e_int a_nil) (fun r ds r' h => congrArg Nat.succ ((aCons_len aNil_len) r ds r' h))))) a_nil) B.b_range) (g_name 3 sc__law_great.nd)
  (ss_cons (s_set (i := 4) (e_val (o_callI 0 G__law_take (hr.mono (by decide : 1 ≤ 1)) (takes_of rfl rfl rfl rfl) (a_cons e_int a_nil) (fun r ds r' h => congrArg Nat.succ ((aCons_len aNil_len) r ds r' h)))) sc__law_great.nd)
  (ss_cons (s_set (i := 5) (e_op add_data e_int (e_val (o_callI 0 G__law_take (hr.mono (by decide : 1 ≤ 1)) (takes_of rfl rfl rfl rfl) (a_cons e_int a_nil) (fun r ds r' h => congrArg Nat.succ ((aCons_len aNil_len) r ds r' h))))) sc__law_great.nd)
  (ss_cons (s_if (t_cmp (eq_data hr.units) (e_var 4) e_int)
  (ss_one (s_set (i := 5) (e_var 1) sc__law_great.nd))
  ss_nil)
  (ss_cons (s_if (t_cmp (eq_data hr.units) (e_var 4) e_int)
  (ss_one (s_set (i := 5) (e_val (o_call G__law_measure (hr.mono (by decide : 1 ≤ 1)) (takes_of rfl rfl rfl rfl) (a_cons (e_var 1) (a_cons (e_var 5) a_nil)) (hnm := (aCons_len (aCons_len aNil_len))))) sc__law_great.nd))
  ss_nil)
  (ss_cons (s_if (t_cmp (eq_data hr.units) (e_var 4) e_int)
  (ss_one (s_set (i := 5) (e_ix ix_data (e_val (o_lst (a_cons e_int (a_cons e_int (a_cons e_int (a_cons e_int (a_cons e_int (a_cons e_int a_nil)))))))) (e_val (o_callI 0 G__law_take (hr.mono (by decide : 1 ≤ 1)) (takes_of rfl rfl rfl rfl) (a_cons e_int a_nil) (fun r ds r' h => congrArg Nat.succ ((aCons_len aNil_len) r ds r' h))))) sc__law_great.nd))
  ss_nil)
  (ss_one (s_append 2 (e_var 5)))))))) (passes_of rfl))
  (ss_one (s_ret (o_val (e_tupS 2 B.b_tuple)))))))
abbrev s__law_counted : Stmt := topS 16
abbrev N__law_counted : List Str := ["_law_house", "_law_many", "_law_r", "_law_s"]
theorem sc__law_counted : FnScope N__law_counted ["_law_house"] (defScope s__law_counted) := ⟨rfl, rfl, rfl, by decide +kernel, rfl, by decide +kernel, by decide +kernel⟩
noncomputable def b__law_counted : M Fl := (sSeq (sSet 1 (M.ret (.int 1)))
  (sSeq (sFor (iSeq (getS 0)) (gN 2)
  (sFor (iSeq (getS 0)) (gN 3)
  (sSet 1 (bin mulD (getS 1) (frzM (cCall m__law_measure (aCons (getS 2) (aCons (getS 3) aNil))))))))
  (sRet ((getS 1).bind fun d => M.ret (.v d)))))
noncomputable def m__law_counted : List Sl → Re RV := fnOf 4 b__law_counted
theorem ok__law_counted {f : Addr} {fd : FuncData} (Fu : FnP K "_law_counted" s__law_counted f fd) (B : Bz K w mg) (NS : SeerK P base) (G__law_measure : Fn P w K mg base 1 "_law_measure" 2 m__law_measure) : FnG P w K mg base 2 f fd ["_law_house"] (spG K mg 1 m__law_counted) :=
  mk_fn Fu sc__law_counted fun cdv A outer s H E hr =>
  (ss_cons (s_set (i := 1) e_int sc__law_counted.nd)
  (ss_cons (s_for (i_seq (e_var 0)) (g_name 2 sc__law_counted.nd)
  (ss_one (s_for (i_seq (e_var 0)) (g_name 3 sc__law_counted.nd)
  (ss_one (s_set (i := 1) (e_op mul_data (e_var 1) (e_val (o_call G__law_measure (hr.mono (by decide : 1 ≤ 1)) (takes_of rfl rfl rfl rfl) (a_cons (e_var 2) (a_cons (e_var 3) a_nil)) (hnm := (aCons_len (aCons_len aNil_len)))))) sc__law_counted.nd)) (passes_of rfl))) (passes_of rfl))
  (ss_one (s_ret (o_val (e_var 1))))))
abbrev s__law_all : Stmt := topS 17
abbrev N__law_all : List Str := ["_law_house", "_law_found", "_law_r", "_law_some", "_law_s", "_law_shared", "_law_longer", "_law_ahead", "_law_image", "_law_k", "_law_images"]
theorem sc__law_all : FnScope N__law_all ["_law_house"] (defScope s__law_all) := ⟨rfl, rfl, rfl, by decide +kernel, rfl, by decide +kernel, by decide +kernel⟩
noncomputable def b__law_all : M Fl := (sSeq (sSetO 1 (oLst (aCons (eTup aNil) aNil)))
  (sSeq (sFor (iSeq (getS 0)) (gN 2)
  (sSeq (sSetO 3 (oLst (aCons (eTup aNil) aNil)))
  (sSeq (sFor (iSeq (getS 0)) (gN 4)
  (sSeq (sSet 5 (frzM (cCall m__law_measure (aCons (getS 2) (aCons (getS 4) aNil)))))
  (sSeq (sSetO 6 (oLst aNil))
  (sSeq (frz 3 (sFor (iSeq (getS 3)) (gN 7)
  (sExtend 6 (oComp (iBy rng1 (aCons (getS 5) aNil)) [9] (gN 9) yes (bin addD (getS 7) (eTup (aCons (bin mulD (getS 9) (bin fdivLD (getS 4) (getS 5))) aNil)))))))
  (sSetO 3 (takeS 6))))))
  (sSeq (sSetO 6 (oLst aNil))
  (sSeq (frz 1 (sFor (iSeq (getS 1)) (gN 7)
  (frz 3 (sExtend 6 (oComp (iSeq (getS 3)) [8] (gN 8) yes (bin addD (getS 7) (eTup (aCons (getS 8) aNil))))))))
  (sSetO 1 (takeS 6)))))))
  (frz 1 (sRet (oComp (iSeq (getS 1)) [10] (gN 10) yes (eTup (aCons (getS 0) (aCons (getS 0) (aCons (getS 10) aNil)))))))))
noncomputable def m__law_all : List Sl → Re RV := fnOf 11 b__law_all
theorem ok__law_all {f : Addr} {fd : FuncData} (Fu : FnP K "_law_all" s__law_all f fd) (B : Bz K w mg) (NS : SeerK P base) (G__law_measure : Fn P w K mg base 1 "_law_measure" 2 m__law_measure) : FnG P w K mg base 2 f fd ["_law_house"] (spG K mg 1 m__law_all) :=
  mk_fn Fu sc__law_all fun cdv A outer s H E hr =>
  (ss_cons (s_setO (i := 1) (o_lst (a_cons (e_tup a_nil) a_nil)) sc__law_all.nd)
  (ss_cons (s_for (i_seq (e_var 0)) (g_name 2 sc__law_all.nd)
  (ss_cons (s_setO (i := 3) (o_lst (a_cons (e_tup a_nil) a_nil)) sc__law_all.nd)
  (ss_cons (s_for (i_seq (e_var 0)) (g_name 4 sc__law_all.nd)
  (ss_cons (s_set (i := 5) (e_val (o_call G__law_measure (hr.mono (by decide : 1 ≤ 1)) (takes_of rfl rfl rfl rfl) (a_cons (e_var 2) (a_cons (e_var 4) a_nil)) (hnm := (aCons_len (aCons_len aNil_len))))) sc__law_all.nd)
  (ss_cons (s_setO (i := 6) (o_lst a_nil) sc__law_all.nd)
  (ss_cons (s_frz 3 (s_for (i_seq (e_var 3)) (g_name 7 sc__law_all.nd)
  (ss_one (s_extend 6 (o_lc (own := [("_law_k", 9)]) (i_rng1 (a_cons (e_var 5) a_nil) B.b_range) (blkOk_by (show blkC N__law_all (defScope s__law_all) _ [("_law_k", 9)] = true from by decide +kernel)) (fun _ _ _ _ _ => (g_name 9 sc__law_all.nd)) (fun _ _ _ _ _ => ts_nil) (fun _ _ _ _ _ => (e_op add_data (e_var 7) (e_tup (a_cons (e_op mul_data (e_var 9) (e_op (fdivL_data hr NS) (e_var 4) (e_var 5))) a_nil)))) sc__law_all.nd))) (passes_of rfl)))
  (ss_one (s_setO (i := 3) (o_take 6) sc__law_all.nd))))) (passes_of rfl))
  (ss_cons (s_setO (i := 6) (o_lst a_nil) sc__law_all.nd)
  (ss_cons (s_frz 1 (s_for (i_seq (e_var 1)) (g_name 7 sc__law_all.nd)
  (ss_one (s_frz 3 (s_extend 6 (o_lc (own := [("_law_image", 8)]) (i_seq (e_var 3)) (blkOk_by (show blkC N__law_all (defScope s__law_all) _ [("_law_image", 8)] = true from by decide +kernel)) (fun _ _ _ _ _ => (g_name 8 sc__law_all.nd)) (fun _ _ _ _ _ => ts_nil) (fun _ _ _ _ _ => (e_op add_data (e_var 7) (e_tup (a_cons (e_var 8) a_nil)))) sc__law_all.nd)))) (passes_of rfl)))
  (ss_one (s_setO (i := 1) (o_take 6) sc__law_all.nd)))))) (passes_of rfl))
  (ss_one (s_frz 1 (s_ret (o_lc (own := [("_law_images", 10)]) (i_seq (e_var 1)) (blkOk_by (show blkC N__law_all (defScope s__law_all) _ [("_law_images", 10)] = true from by decide +kernel)) (fun _ _ _ _ _ => (g_name 10 sc__law_all.nd)) (fun _ _ _ _ _ => ts_nil) (fun _ _ _ _ _ => (e_tup (a_cons (e_var 0) (a_cons (e_var 0) (a_cons (e_var 10) a_nil))))) sc__law_all.nd))))))
abbrev s__law_falls : Stmt := topS 19
abbrev N__law_falls : List Str := ["_law_way", "_law_some", "_law_a"]
theorem sc__law_falls : FnScope N__law_falls ["_law_way", "_law_some"] (defScope s__law_falls) := ⟨rfl, rfl, rfl, by decide +kernel, rfl, by decide +kernel, by decide +kernel⟩
noncomputable def b__law_falls : M Fl := (sSeq (sFor (iSeq (getS 1)) (gN 2)
  (sIf (tBool (bin eqD (nry (one maxLT) (aCons (frzM (cCall m__law_led (aCons (getS 0) (aCons (getS 2) aNil)))) aNil)) (M.ret (.int 0))))
  (sRet ((M.ret (.bool true)).bind fun d => M.ret (.v d)))
  sNil))
  (sRet ((M.ret (.bool false)).bind fun d => M.ret (.v d))))
noncomputable def m__law_falls : List Sl → Re RV := fnOf 3 b__law_falls
theorem ok__law_falls {f : Addr} {fd : FuncData} (Fu : FnP K "_law_falls" s__law_falls f fd) (B : Bz K w mg) (NS : SeerK P base) (G__law_led : Fn P w K mg base 1 "_law_led" 2 m__law_led) : FnG P w K mg base 2 f fd ["_law_way", "_law_some"] (spG K mg 2 m__law_falls) :=
  mk_fn Fu sc__law_falls fun cdv A outer s H E hr =>
  (ss_cons (s_for (i_seq (e_var 1)) (g_name 2 sc__law_falls.nd)
  (ss_one (s_if (t_cmp (eq_data hr.units) (e_callB (maxLT_data hr.in65) B.b_max (a_cons (e_val (o_call G__law_led (hr.mono (by decide : 1 ≤ 1)) (takes_of rfl rfl rfl rfl) (a_cons (e_var 0) (a_cons (e_var 2) a_nil)) (hnm := (aCons_len (aCons_len aNil_len))))) a_nil)) e_int)
  (ss_one (s_ret (o_val e_bl)))
  ss_nil)) (passes_of rfl))
  (ss_one (s_ret (o_val e_bl))))
abbrev s__law_lows : Stmt := topS 20
abbrev N__law_lows : List Str := ["_law_house", "_law_many", "_law_one", "_law_found", "_law_prime"]
theorem sc__law_lows : FnScope N__law_lows ["_law_house"] (defScope s__law_lows) := ⟨rfl, rfl, rfl, by decide +kernel, rfl, by decide +kernel, by decide +kernel⟩
noncomputable def b__law_lows : M Fl := (sSeq (sSet 1 (M.ret (.int 1)))
  (sSeq (sFor (iSeq (getS 0)) (gN 2)
  (sSet 1 (bin mulD (getS 1) (getS 2))))
  (sSeq (sSet 3 (frzM (oLst aNil)))
  (sSeq (sFor (iSeq (frzM (cCall m__law_primes (aCons (getS 1) aNil)))) (gN 4)
  (sSet 3 (bin addD (getS 3) (frzM (cCall m__law_few (aCons (getS 0) (aCons (getS 4) aNil)))))))
  (sRet ((getS 3).bind fun d => M.ret (.v d)))))))
noncomputable def m__law_lows : List Sl → Re RV := fnOf 5 b__law_lows
theorem ok__law_lows {f : Addr} {fd : FuncData} (Fu : FnP K "_law_lows" s__law_lows f fd) (B : Bz K w mg) (NS : SeerK P base) (G__law_primes : Fn P w K mg base 1 "_law_primes" 1 m__law_primes) (G__law_few : Fn P w K mg base 1 "_law_few" 2 m__law_few) : FnG P w K mg base 2 f fd ["_law_house"] (spG K mg 1 m__law_lows) :=
  mk_fn Fu sc__law_lows fun cdv A outer s H E hr =>
  (ss_cons (s_set (i := 1) e_int sc__law_lows.nd)
  (ss_cons (s_for (i_seq (e_var 0)) (g_name 2 sc__law_lows.nd)
  (ss_one (s_set (i := 1) (e_op mul_data (e_var 1) (e_var 2)) sc__law_lows.nd)) (passes_of rfl))
  (ss_cons (s_set (i := 3) (e_val (o_lst a_nil)) sc__law_lows.nd)
  (ss_cons (s_for (i_seq (e_val (o_call G__law_primes (hr.mono (by decide : 1 ≤ 1)) (takes_of rfl rfl rfl rfl) (a_cons (e_var 1) a_nil) (hnm := (aCons_len aNil_len))))) (g_name 4 sc__law_lows.nd)
  (ss_one (s_set (i := 3) (e_op add_data (e_var 3) (e_val (o_call G__law_few (hr.mono (by decide : 1 ≤ 1)) (takes_of rfl rfl rfl rfl) (a_cons (e_var 0) (a_cons (e_var 4) a_nil)) (hnm := (aCons_len (aCons_len aNil_len)))))) sc__law_lows.nd)) (passes_of rfl))
  (ss_one (s_ret (o_val (e_var 3))))))))
abbrev s_by_primes : Stmt := topS 6
abbrev N_by_primes : List Str := ["house", "found", "one", "prime", "often"]
theorem sc_by_primes : FnScope N_by_primes ["house"] (defScope s_by_primes) := ⟨rfl, rfl, rfl, by decide +kernel, rfl, by decide +kernel, by decide +kernel⟩
noncomputable def b_by_primes : M Fl := (sSeq (sSetO 1 oDict0)
  (sSeq (sFor (iSeq (getS 0)) (gN 2)
  (sFor (iSeq (frzM (cCall m_primes_of (aCons (getS 2) aNil)))) (gT (gCn (gN 3) (gCn (gN 4) gNl)))
  (sPut' 1 (getS 3) (frzM (nryO sortAL (aCons (bin addD (eGet 1 (getS 3) (frzM (oLst aNil))) (frzM (oLst (aCons (getS 4) aNil)))) aNil))))))
  (sRet (oComp (iSeq (frzM (oSortK 1))) [3] (gN 3) yes (eTup (aCons (getS 3) (aCons (nry (one tupD) (aCons (eIxS 1 (getS 3)) aNil)) aNil)))))))
noncomputable def m_by_primes : List Sl → Re RV := fnOf 5 b_by_primes
theorem ok_by_primes {f : Addr} {fd : FuncData} (Fu : FnP K "by_primes" s_by_primes f fd) (B : Bz K w mg) (NS : SeerK P base) (G_primes_of : Fn P w K mg base 2 "primes_of" 1 m_primes_of) : FnG P w K mg base 3 f fd ["house"] (spG K mg 1 m_by_primes) :=
  mk_fn Fu sc_by_primes fun cdv A outer s H E hr =>
  (ss_cons (s_setO (i := 1) o_dict0 sc_by_primes.nd)
  (ss_cons (s_for (i_seq (e_var 0)) (g_name 2 sc_by_primes.nd)
  (ss_one (s_for (i_seq (e_val (o_call G_primes_of (hr.mono (by decide : 2 ≤ 2)) (takes_of rfl rfl rfl rfl) (a_cons (e_var 2) a_nil) (hnm := (aCons_len aNil_len))))) (g_tup (g_cons (g_name 3 sc_by_primes.nd) (g_cons (g_name 4 sc_by_primes.nd) g_nil)) (gCn_len (gCn_len gNl_len)))
  (ss_one (s_put 1 (e_var 3) (e_val (o_callB (call_sortedA hr) B.b_sorted (a_cons (e_op add_data (e_get 1 (e_var 3) (e_val (o_lst a_nil)) hr.u1) (e_val (o_lst (a_cons (e_var 4) a_nil)))) a_nil))) hr.u1)) (passes_of rfl))) (passes_of rfl))
  (ss_one (s_ret (o_lc (own := [("prime", 3)]) (i_seq (e_val (o_sortK 1 B.b_sorted))) (blkOk_by (show blkC N_by_primes (defScope s_by_primes) _ [("prime", 3)] = true from by decide +kernel)) (fun _ _ _ _ _ => (g_name 3 sc_by_primes.nd)) (fun _ _ _ _ _ => ts_nil) (fun _ _ _ _ _ => (e_tup (a_cons (e_var 3) (a_cons (e_callT tup_data B.b_tuple (a_cons (e_ixS 1 (e_var 3) hr.u1) a_nil)) a_nil)))) sc_by_primes.nd)))))
abbrev s__law_few_ways : Stmt := topS 15
abbrev N__law_few_ways : List Str := ["_law_pen_here", "_law_most", "_law_sort", "_law_prime", "_law_found", "_law_k", "_law_one"]
theorem sc__law_few_ways : FnScope N__law_few_ways ["_law_pen_here", "_law_most"] (defScope s__law_few_ways) := ⟨rfl, rfl, rfl, by decide +kernel, rfl, by decide +kernel, by decide +kernel⟩
noncomputable def b__law_few_ways : M Fl := (sSeq (sSet 2 (frzM (cCallI 0 m__law_take (aCons (M.ret (.int 4)) aNil))))
  (sSeq (sSet 3 (bin ixD (frzM (oLst (aCons (M.ret (.int 2)) (aCons (M.ret (.int 2)) (aCons (M.ret (.int 3)) (aCons (M.ret (.int 5)) aNil)))))) (frzM (cCallI 0 m__law_take (aCons (M.ret (.int 4)) aNil)))))
  (sSeq (sSet 4 (eTup aNil))
  (sSeq (sFor (iBy rng1 (aCons (frzM (cCallI 0 m__law_take (aCons (M.ret (.int 7)) aNil))) aNil)) (gN 5)
  (sSeq (sSet 6 (bin addD (M.ret (.int 1)) (frzM (cCallI 0 m__law_take (aCons (bin ixD (frzM (oLst (aCons (M.ret (.int 4)) (aCons (M.ret (.int 16)) (aCons (M.ret (.int 130)) (aCons (M.ret (.int 530)) aNil)))))) (frzM (cCallI 0 m__law_take (aCons (M.ret (.int 4)) aNil)))) aNil)))))
  (sSeq (sIf (tBool (bin eqD (getS 2) (M.ret (.int 1))))
  (sSet 6 (bin ixD (frzM (oLst (aCons (M.ret (.int 1)) (aCons (getS 3) (aCons (bin mulD (getS 3) (getS 3)) (aCons (bin mulD (bin mulD (getS 3) (getS 3)) (getS 3)) aNil)))))) (frzM (cCallI 0 m__law_take (aCons (M.ret (.int 4)) aNil)))))
  sNil)
  (sSeq (sIf (tAndM (tBool (bin eqD (getS 2) (M.ret (.int 2)))) (tBool (bin neD (getS 4) (eTup aNil))))
  (sSet 6 (bin ixD (getS 4) (una negD (M.ret (.int 1)))))
  sNil)
  (sIf (tBool (bin leD (frzM (cCall m__law_counted (aCons (bin addD (getS 4) (eTup (aCons (getS 6) aNil))) aNil))) (getS 1)))
  (sSet 4 (bin addD (getS 4) (eTup (aCons (getS 6) aNil))))
  sNil)))))
  (sRet ((getS 4).bind fun d => M.ret (.v d)))))))
noncomputable def m__law_few_ways : List Sl → Re RV := fnOf 7 b__law_few_ways
theorem ok__law_few_ways {f : Addr} {fd : FuncData} (Fu : FnP K "_law_few_ways" s__law_few_ways f fd) (B : Bz K w mg) (NS : SeerK P base) (G__law_take : Fn P w K mg base 1 "_law_take" 2 m__law_take) (G__law_counted : Fn P w K mg base 2 "_law_counted" 1 m__law_counted) : FnG P w K mg base 3 f fd ["_law_pen_here", "_law_most"] (spG K mg 2 m__law_few_ways) :=
  mk_fn Fu sc__law_few_ways fun cdv A outer s H E hr =>
  (ss_cons (s_set (i := 2) (e_val (o_callI 0 G__law_take (hr.mono (by decide : 1 ≤ 2)) (takes_of rfl rfl rfl rfl) (a_cons e_int a_nil) (fun r ds r' h => congrArg Nat.succ ((aCons_len aNil_len) r ds r' h)))) sc__law_few_ways.nd)
  (ss_cons (s_set (i := 3) (e_ix ix_data (e_val (o_lst (a_cons e_int (a_cons e_int (a_cons e_int (a_cons e_int a_nil)))))) (e_val (o_callI 0 G__law_take (hr.mono (by decide : 1 ≤ 2)) (takes_of rfl rfl rfl rfl) (a_cons e_int a_nil) (fun r ds r' h => congrArg Nat.succ ((aCons_len aNil_len) r ds r' h))))) sc__law_few_ways.nd)
  (ss_cons (s_set (i := 4) (e_tup a_nil) sc__law_few_ways.nd)
  (ss_cons (s_for (i_rng1 (a_cons (e_val (o_callI 0 G__law_take (hr.mono (by decide : 1 ≤ 2)) (takes_of rfl rfl rfl rfl) (a_cons e_int a_nil) (fun r ds r' h => congrArg Nat.succ ((aCons_len aNil_len) r ds r' h)))) a_nil) B.b_range) (g_name 5 sc__law_few_ways.nd)
  (ss_cons (s_set (i := 6) (e_op add_data e_int (e_val (o_callI 0 G__law_take (hr.mono (by decide : 1 ≤ 2)) (takes_of rfl rfl rfl rfl) (a_cons (e_ix ix_data (e_val (o_lst (a_cons e_int (a_cons e_int (a_cons e_int (a_cons e_int a_nil)))))) (e_val (o_callI 0 G__law_take (hr.mono (by decide : 1 ≤ 2)) (takes_of rfl rfl rfl rfl) (a_cons e_int a_nil) (fun r ds r' h => congrArg Nat.succ ((aCons_len aNil_len) r ds r' h))))) a_nil) (fun r ds r' h => congrArg Nat.succ ((aCons_len aNil_len) r ds r' h))))) sc__law_few_ways.nd)
  (ss_cons (s_if (t_cmp (eq_data hr.units) (e_var 2) e_int)
  (ss_one (s_set (i := 6) (e_ix ix_data (e_val (o_lst (a_cons e_int (a_cons (e_var 3) (a_cons (e_op mul_data (e_var 3) (e_var 3)) (a_cons (e_op mul_data (e_op mul_data (e_var 3) (e_var 3)) (e_var 3)) a_nil)))))) (e_val (o_callI 0 G__law_take (hr.mono (by decide : 1 ≤ 2)) (takes_of rfl rfl rfl rfl) (a_cons e_int a_nil) (fun r ds r' h => congrArg Nat.succ ((aCons_len aNil_len) r ds r' h))))) sc__law_few_ways.nd))
  ss_nil)
  (ss_cons (s_if (PW.pt (w_and (t_cmp (eq_data hr.units) (e_var 2) e_int) (w_and1 (t_cmp (ne_data hr.units) (e_var 4) (e_tup a_nil)))))
  (ss_one (s_set (i := 6) (e_ix ix_data (e_var 4) (e_un neg_data e_int)) sc__law_few_ways.nd))
  ss_nil)
  (ss_one (s_if (t_cmp le_data (e_val (o_call G__law_counted (hr.mono (by decide : 2 ≤ 2)) (takes_of rfl rfl rfl rfl) (a_cons (e_op add_data (e_var 4) (e_tup (a_cons (e_var 6) a_nil))) a_nil) (hnm := (aCons_len aNil_len)))) (e_var 1))
  (ss_one (s_set (i := 4) (e_op add_data (e_var 4) (e_tup (a_cons (e_var 6) a_nil))) sc__law_few_ways.nd))
  ss_nil))))) (passes_of rfl))
  (ss_one (s_ret (o_val (e_var 4))))))))
abbrev s__law_due : Stmt := topS 24
abbrev N__law_due : List Str := ["_law_house", "_law_top", "_law_bottom", "_law_seen", "_law_one", "_law_prime", "_law_powers", "_law_often_here", "_law_step", "_law_k"]
theorem sc__law_due : FnScope N__law_due ["_law_house"] (defScope s__law_due) := ⟨rfl, rfl, rfl, by decide +kernel, rfl, by decide +kernel, by decide +kernel⟩
noncomputable def b__law_due : M Fl := (sSeq (sSet 1 (frzM (cCall m__law_counted (aCons (getS 0) aNil))))
  (sSeq (sSet 2 (M.ret (.int 1)))
  (sSeq (sSet 3 (frzM (oLst aNil)))
  (sSeq (sFor (iSeq (getS 0)) (gN 4)
  (sSet 3 (bin addD (getS 3) (frzM (oComp (iSeq (frzM (cCall m__law_primes (aCons (getS 4) aNil)))) [5] (gN 5) (tBool (bin ninD (getS 5) (getS 3))) (getS 5))))))
  (sSeq (sFor (iSeq (getS 3)) (gN 5)
  (sSeq (sSet 6 (frzM (oComp (iSeq (getS 0)) [4] (gN 4) yes (frzM (cCall m__law_often (aCons (getS 4) (aCons (getS 5) aNil)))))))
  (sFor (iSeq (frzM (unaO ssetAD (getS 6)))) (gN 7)
  (sSeq (sSet 8 (M.ret (.int 1)))
  (sFor (iBy rng1 (aCons (bin mulD (eCount (getS 6) (getS 7)) (nry (one intD) (aCons (bin gtD (getS 7) (M.ret (.int 0))) aNil))) aNil)) (gN 9)
  (sSeq (sSet 8 (bin mulD (getS 8) (getS 5)))
  (sSeq (sSet 1 (bin mulD (getS 1) (bin subD (getS 8) (M.ret (.int 1)))))
  (sSet 2 (bin mulD (getS 2) (getS 8))))))))))
  (sSeq (sIf (tBool (bin neD (bin modD (getS 1) (getS 2)) (M.ret (.int 0))))
  (sRet ((una negD (M.ret (.int 1))).bind fun d => M.ret (.v d)))
  sNil)
  (sRet ((bin fdivLD (getS 1) (getS 2)).bind fun d => M.ret (.v d)))))))))
noncomputable def m__law_due : List Sl → Re RV := fnOf 10 b__law_due
theorem ok__law_due {f : Addr} {fd : FuncData} (Fu : FnP K "_law_due" s__law_due f fd) (B : Bz K w mg) (NS : SeerK P base) (G__law_counted : Fn P w K mg base 2 "_law_counted" 1 m__law_counted) (G__law_primes : Fn P w K mg base 1 "_law_primes" 1 m__law_primes) (G__law_often : Fn P w K mg base 1 "_law_often" 2 m__law_often) : FnG P w K mg base 3 f fd ["_law_house"] (spG K mg 1 m__law_due) :=
  mk_fn Fu sc__law_due fun cdv A outer s H E hr =>
  (ss_cons (s_set (i := 1) (e_val (o_call G__law_counted (hr.mono (by decide : 2 ≤ 2)) (takes_of rfl rfl rfl rfl) (a_cons (e_var 0) a_nil) (hnm := (aCons_len aNil_len)))) sc__law_due.nd)
  (ss_cons (s_set (i := 2) e_int sc__law_due.nd)
  (ss_cons (s_set (i := 3) (e_val (o_lst a_nil)) sc__law_due.nd)
  (ss_cons (s_for (i_seq (e_var 0)) (g_name 4 sc__law_due.nd)
  (ss_one (s_set (i := 3) (e_op add_data (e_var 3) (e_val (o_lc (own := [("_law_prime", 5)]) (i_seq (e_val (o_call G__law_primes (hr.mono (by decide : 1 ≤ 2)) (takes_of rfl rfl rfl rfl) (a_cons (e_var 4) a_nil) (hnm := (aCons_len aNil_len))))) (blkOk_by (show blkC N__law_due (defScope s__law_due) _ [("_law_prime", 5)] = true from by decide +kernel)) (fun _ _ _ _ _ => (g_name 5 sc__law_due.nd)) (fun _ _ _ _ _ => (ts_one (t_cmp (nin_data hr.in65) (e_var 5) (e_var 3)))) (fun _ _ _ _ _ => (e_var 5)) sc__law_due.nd))) sc__law_due.nd)) (passes_of rfl))
  (ss_cons (s_for (i_seq (e_var 3)) (g_name 5 sc__law_due.nd)
  (ss_cons (s_setLcV (i := 6) (own := [("_law_one", 4)]) (i_seq (e_var 0)) (blkOk_by (show blkC N__law_due (defScope s__law_due) _ [("_law_one", 4)] = true from by decide +kernel)) (fun _ _ _ _ _ => (g_name 4 sc__law_due.nd)) (fun _ _ _ _ _ => ts_nil) (fun _ _ _ _ _ => (e_val (o_call G__law_often (hr.mono (by decide : 1 ≤ 2)) takes0 (a_cons (e_var 4) (a_cons (e_var 5) a_nil)) (hnm := (aCons_len (aCons_len aNil_len)))))) sc__law_due.nd)
  (ss_one (s_for (i_seq (e_val (o_ssetA B.b_sorted B.b_set (e_var 6)))) (g_name 7 sc__law_due.nd)
  (ss_cons (s_set (i := 8) e_int sc__law_due.nd)
  (ss_one (s_for (i_rng1 (a_cons (e_op mul_data (e_count (e_var 6) (e_var 7) hr) (e_callT int_data B.b_int (a_cons (e_cmp gt_data (e_var 7) e_int) a_nil))) a_nil) B.b_range) (g_name 9 sc__law_due.nd)
  (ss_cons (s_set (i := 8) (e_op mul_data (e_var 8) (e_var 5)) sc__law_due.nd)
  (ss_cons (s_set (i := 1) (e_op mul_data (e_var 1) (e_op sub_data (e_var 8) e_int)) sc__law_due.nd)
  (ss_one (s_set (i := 2) (e_op mul_data (e_var 2) (e_var 8)) sc__law_due.nd)))) (passes_of rfl)))) (passes_of rfl)))) (passes_of rfl))
  (ss_cons (s_if (t_cmp (ne_data hr.units) (e_op mod_data (e_var 1) (e_var 2)) e_int)
  (ss_one (s_ret (o_val (e_un neg_data e_int))))
  ss_nil)
  (ss_one (s_ret (o_val (e_op (fdivL_data hr NS) (e_var 1) (e_var 2)))))))))))
abbrev s_many_turnings : Stmt := topS 9
abbrev N_many_turnings : List Str := ["house", "found", "prime", "powers"]
theorem sc_many_turnings : FnScope N_many_turnings ["house"] (defScope s_many_turnings) := ⟨rfl, rfl, rfl, by decide +kernel, rfl, by decide +kernel, by decide +kernel⟩
noncomputable def b_many_turnings : M Fl := (sSeq (sSet 1 (M.ret (.int 1)))
  (sSeq (sFor (iSeq (frzM (cCall m_by_primes (aCons (getS 0) aNil)))) (gT (gCn (gN 2) (gCn (gN 3) gNl)))
  (sSet 1 (bin mulD (getS 1) (frzM (cCall m_many_of_prime (aCons (getS 2) (aCons (getS 3) aNil)))))))
  (sRet ((getS 1).bind fun d => M.ret (.v d)))))
noncomputable def m_many_turnings : List Sl → Re RV := fnOf 4 b_many_turnings
theorem ok_many_turnings {f : Addr} {fd : FuncData} (Fu : FnP K "many_turnings" s_many_turnings f fd) (B : Bz K w mg) (NS : SeerK P base) (G_by_primes : Fn P w K mg base 3 "by_primes" 1 m_by_primes) (G_many_of_prime : Fn P w K mg base 2 "many_of_prime" 2 m_many_of_prime) : FnG P w K mg base 4 f fd ["house"] (spG K mg 1 m_many_turnings) :=
  mk_fn Fu sc_many_turnings fun cdv A outer s H E hr =>
  (ss_cons (s_set (i := 1) e_int sc_many_turnings.nd)
  (ss_cons (s_for (i_seq (e_val (o_call G_by_primes (hr.mono (by decide : 3 ≤ 3)) (takes_of rfl rfl rfl rfl) (a_cons (e_var 0) a_nil) (hnm := (aCons_len aNil_len))))) (g_tup (g_cons (g_name 2 sc_many_turnings.nd) (g_cons (g_name 3 sc_many_turnings.nd) g_nil)) (gCn_len (gCn_len gNl_len)))
  (ss_one (s_set (i := 1) (e_op mul_data (e_var 1) (e_val (o_call G_many_of_prime (hr.mono (by decide : 2 ≤ 3)) (takes_of rfl rfl rfl rfl) (a_cons (e_var 2) (a_cons (e_var 3) a_nil)) (hnm := (aCons_len (aCons_len aNil_len)))))) sc_many_turnings.nd)) (passes_of rfl))
  (ss_one (s_ret (o_val (e_var 1))))))
abbrev s__law_tells : Stmt := topS 25
abbrev N__law_tells : List Str := ["_law_house", "_law_due_here", "_law_found"]
theorem sc__law_tells : FnScope N__law_tells ["_law_house", "_law_due_here"] (defScope s__law_tells) := ⟨rfl, rfl, rfl, by decide +kernel, rfl, by decide +kernel, by decide +kernel⟩
noncomputable def b__law_tells : M Fl := (sSeq (sSet 2 (frzM (cCall m_many_turnings (aCons (getS 0) aNil))))
  (sRet ((eAnd (una (isiD "int") (getS 2)) (eAnd (eNot (una (isiD "bool") (getS 2))) (bin eqD (getS 2) (getS 1)))).bind fun d => M.ret (.v d))))
noncomputable def m__law_tells : List Sl → Re RV := fnOf 3 b__law_tells
theorem ok__law_tells {f : Addr} {fd : FuncData} (Fu : FnP K "_law_tells" s__law_tells f fd) (B : Bz K w mg) (NS : SeerK P base) (G_many_turnings : Fn P w K mg base 4 "many_turnings" 1 m_many_turnings) : FnG P w K mg base 5 f fd ["_law_house", "_law_due_here"] (spG K mg 2 m__law_tells) :=
  mk_fn Fu sc__law_tells fun cdv A outer s H E hr =>
  (ss_cons (s_set (i := 2) (e_val (o_call G_many_turnings (hr.mono (by decide : 4 ≤ 4)) (takes_of rfl rfl rfl rfl) (a_cons (e_var 0) a_nil) (hnm := (aCons_len aNil_len)))) sc__law_tells.nd)
  (ss_one (s_ret (o_val (e_and (e_isi (T := "int") (e_var 2) B.b_isinstance B.b_int) (e_and (e_not (e_isi (T := "bool") (e_var 2) B.b_isinstance B.b_bool)) (e_one (e_cmp (eq_data hr.units) (e_var 2) (e_var 1)))))))))
abbrev s_law : Stmt := topS 26
abbrev N_law : List Str := ["_law_script", "_law_pen_here", "_law_house", "_law_lows_here", "_law_good", "_law_k", "_law_other", "_law_one", "_law_like", "_law_way"]
theorem sc_law : FnScope N_law ["_law_script"] (defScope s_law) := ⟨rfl, rfl, rfl, by decide +kernel, rfl, by decide +kernel, by decide +kernel⟩
noncomputable def b_law : M Fl := (sSeq (sSetO 1 (cCall m__law_pen (aCons (getS 0) aNil)))
  (sSeq (sSet 2 (frzM (cCallI 1 m__law_few_ways (aCons (M.ret (.int 520)) aNil))))
  (sSeq (sSet 3 (frzM (cCall m__law_lows (aCons (getS 2) aNil))))
  (sSeq (sSet 4 (frzM (oComp (iSeq (frzM (cCall m__law_all (aCons (getS 2) aNil)))) [9] (gN 9) (tNotM (tTru (frzM (cCall m__law_falls (aCons (getS 9) (aCons (getS 3) aNil)))))) (getS 9))))
  (sSeq (sIf (tOrM (tNotM (tTru (frzM (cCall m__law_tells (aCons (getS 2) (aCons (nry (one lenD) (aCons (getS 4) aNil)) aNil)))))) (tBool (bin neD (frzM (cCall m__law_due (aCons (getS 2) aNil))) (nry (one lenD) (aCons (getS 4) aNil)))))
  (sRet ((M.ret (.bool false)).bind fun d => M.ret (.v d)))
  sNil)
  (sSeq (sFor (iBy rng1 (aCons (bin addD (M.ret (.int 2)) (frzM (cCallI 1 m__law_take (aCons (M.ret (.int 3)) aNil)))) aNil)) (gN 5)
  (sSeq (sSet 6 (frzM (cCallI 1 m__law_great aNil)))
  (sIf (tNotM (tTru (frzM (cCall m__law_tells (aCons (getS 6) (aCons (frzM (cCall m__law_due (aCons (getS 6) aNil))) aNil))))))
  (sRet ((M.ret (.bool false)).bind fun d => M.ret (.v d)))
  sNil)))
  (sSeq (sSet 7 (bin ixD (frzM (oLst (aCons (M.ret (.int 524288)) (aCons (M.ret (.int 531441)) (aCons (M.ret (.int 999983)) (aCons (M.ret (.int 390625)) (aCons (M.ret (.int 994009)) (aCons (M.ret (.int 1000000)) aNil)))))))) (frzM (cCallI 1 m__law_take (aCons (M.ret (.int 6)) aNil)))))
  (sSeq (sSet 8 (bin mulD (eTup (aCons (getS 7) aNil)) (frzM (cCallI 1 m__law_take (aCons (M.ret (.int 7)) aNil)))))
  (sRet ((eAnd (frzM (cCall m__law_tells (aCons (getS 8) (aCons (frzM (cCall m__law_due (aCons (getS 8) aNil))) aNil)))) (frzM (cCall m__law_tells (aCons (bin mulD (eTup (aCons (M.ret (.int 1)) aNil)) (M.ret (.int 6))) (aCons (M.ret (.int 1)) aNil))))).bind fun d => M.ret (.v d)))))))))))
noncomputable def m_law : List Sl → Re RV := fnOf 10 b_law
theorem ok_law {f : Addr} {fd : FuncData} (Fu : FnP K "law" s_law f fd) (B : Bz K w mg) (NS : SeerK P base) (G__law_pen : Fn P w K mg base 1 "_law_pen" 1 m__law_pen) (G__law_few_ways : Fn P w K mg base 3 "_law_few_ways" 2 m__law_few_ways) (G__law_lows : Fn P w K mg base 2 "_law_lows" 1 m__law_lows) (G__law_all : Fn P w K mg base 2 "_law_all" 1 m__law_all) (G__law_falls : Fn P w K mg base 2 "_law_falls" 2 m__law_falls) (G__law_tells : Fn P w K mg base 5 "_law_tells" 2 m__law_tells) (G__law_due : Fn P w K mg base 3 "_law_due" 1 m__law_due) (G__law_take : Fn P w K mg base 1 "_law_take" 2 m__law_take) (G__law_great : Fn P w K mg base 2 "_law_great" 1 m__law_great) : FnG P w K mg base 6 f fd ["_law_script"] (spG K mg 1 m_law) :=
  mk_fn Fu sc_law fun cdv A outer s H E hr =>
  (ss_cons (s_setO (i := 1) (o_call G__law_pen (hr.mono (by decide : 1 ≤ 5)) (takes_of rfl rfl rfl rfl) (a_cons (e_var 0) a_nil) (hnm := (aCons_len aNil_len))) sc_law.nd)
  (ss_cons (s_set (i := 2) (e_val (o_callI 1 G__law_few_ways (hr.mono (by decide : 3 ≤ 5)) (takes_of rfl rfl rfl rfl) (a_cons e_int a_nil) (fun r ds r' h => congrArg Nat.succ ((aCons_len aNil_len) r ds r' h)))) sc_law.nd)
  (ss_cons (s_set (i := 3) (e_val (o_call G__law_lows (hr.mono (by decide : 2 ≤ 5)) (takes_of rfl rfl rfl rfl) (a_cons (e_var 2) a_nil) (hnm := (aCons_len aNil_len)))) sc_law.nd)
  (ss_cons (s_setLcV (i := 4) (own := [("_law_way", 9)]) (i_seq (e_val (o_call G__law_all (hr.mono (by decide : 2 ≤ 5)) (takes_of rfl rfl rfl rfl) (a_cons (e_var 2) a_nil) (hnm := (aCons_len aNil_len))))) (blkOk_by (show blkC N_law (defScope s_law) _ [("_law_way", 9)] = true from by decide +kernel)) (fun _ _ _ _ _ => (g_name 9 sc_law.nd)) (fun _ _ _ _ _ => (ts_one (t_not (t_tru (e_val (o_call G__law_falls (hr.mono (by decide : 2 ≤ 5)) takes0 (a_cons (e_var 9) (a_cons (e_var 3) a_nil)) (hnm := (aCons_len (aCons_len aNil_len))))))))) (fun _ _ _ _ _ => (e_var 9)) sc_law.nd)
  (ss_cons (s_if (PW.pt (w_or (t_not (t_tru (e_val (o_call G__law_tells (hr.mono (by decide : 5 ≤ 5)) (takes_of rfl rfl rfl rfl) (a_cons (e_var 2) (a_cons (e_callB len_data B.b_len (a_cons (e_var 4) a_nil)) a_nil)) (hnm := (aCons_len (aCons_len aNil_len))))))) (w_or1 (t_cmp (ne_data hr.units) (e_val (o_call G__law_due (hr.mono (by decide : 3 ≤ 5)) (takes_of rfl rfl rfl rfl) (a_cons (e_var 2) a_nil) (hnm := (aCons_len aNil_len)))) (e_callB len_data B.b_len (a_cons (e_var 4) a_nil))))))
  (ss_one (s_ret (o_val e_bl)))
  ss_nil)
  (ss_cons (s_for (i_rng1 (a_cons (e_op add_data e_int (e_val (o_callI 1 G__law_take (hr.mono (by decide : 1 ≤ 5)) (takes_of rfl rfl rfl rfl) (a_cons e_int a_nil) (fun r ds r' h => congrArg Nat.succ ((aCons_len aNil_len) r ds r' h))))) a_nil) B.b_range) (g_name 5 sc_law.nd)
  (ss_cons (s_set (i := 6) (e_val (o_callI 1 G__law_great (hr.mono (by decide : 2 ≤ 5)) (takes_of rfl rfl rfl rfl) a_nil (fun r ds r' h => congrArg Nat.succ (aNil_len r ds r' h)))) sc_law.nd)
  (ss_one (s_if (t_not (t_tru (e_val (o_call G__law_tells (hr.mono (by decide : 5 ≤ 5)) (takes_of rfl rfl rfl rfl) (a_cons (e_var 6) (a_cons (e_val (o_call G__law_due (hr.mono (by decide : 3 ≤ 5)) (takes_of rfl rfl rfl rfl) (a_cons (e_var 6) a_nil) (hnm := (aCons_len aNil_len)))) a_nil)) (hnm := (aCons_len (aCons_len aNil_len)))))))
  (ss_one (s_ret (o_val e_bl)))
  ss_nil))) (passes_of rfl))
  (ss_cons (s_set (i := 7) (e_ix ix_data (e_val (o_lst (a_cons e_int (a_cons e_int (a_cons e_int (a_cons e_int (a_cons e_int (a_cons e_int a_nil)))))))) (e_val (o_callI 1 G__law_take (hr.mono (by decide : 1 ≤ 5)) (takes_of rfl rfl rfl rfl) (a_cons e_int a_nil) (fun r ds r' h => congrArg Nat.succ ((aCons_len aNil_len) r ds r' h))))) sc_law.nd)
  (ss_cons (s_set (i := 8) (e_op mul_data (e_tup (a_cons (e_var 7) a_nil)) (e_val (o_callI 1 G__law_take (hr.mono (by decide : 1 ≤ 5)) (takes_of rfl rfl rfl rfl) (a_cons e_int a_nil) (fun r ds r' h => congrArg Nat.succ ((aCons_len aNil_len) r ds r' h))))) sc_law.nd)
  (ss_one (s_ret (o_val (e_and (e_val (o_call G__law_tells (hr.mono (by decide : 5 ≤ 5)) (takes_of rfl rfl rfl rfl) (a_cons (e_var 8) (a_cons (e_val (o_call G__law_due (hr.mono (by decide : 3 ≤ 5)) (takes_of rfl rfl rfl rfl) (a_cons (e_var 8) a_nil) (hnm := (aCons_len aNil_len)))) a_nil)) (hnm := (aCons_len (aCons_len aNil_len))))) (e_one (e_val (o_call G__law_tells (hr.mono (by decide : 5 ≤ 5)) (takes_of rfl rfl rfl rfl) (a_cons (e_op mul_data (e_tup (a_cons e_int a_nil)) e_int) (a_cons e_int a_nil)) (hnm := (aCons_len (aCons_len aNil_len))))))))))))))))))
end
/-! ### the head -/
def d_power : He.DefD := ⟨("power", none), "power", "power", defArgs s_power, defBody s_power, defScope s_power, [], []⟩
def d_how_often : He.DefD := ⟨("how_often", none), "how_often", "how_often", defArgs s_how_often, defBody s_how_often, defScope s_how_often, [], []⟩
def d__law_pen : He.DefD := ⟨("_law_pen", none), "_law_pen", "_law_pen", defArgs s__law_pen, defBody s__law_pen, defScope s__law_pen, [], []⟩
def d__law_take : He.DefD := ⟨("_law_take", none), "_law_take", "_law_take", defArgs s__law_take, defBody s__law_take, defScope s__law_take, [], []⟩
def d__law_measure : He.DefD := ⟨("_law_measure", none), "_law_measure", "_law_measure", defArgs s__law_measure, defBody s__law_measure, defScope s__law_measure, [], []⟩
def d__law_few : He.DefD := ⟨("_law_few", none), "_law_few", "_law_few", defArgs s__law_few, defBody s__law_few, defScope s__law_few, [], []⟩
def d__law_led : He.DefD := ⟨("_law_led", none), "_law_led", "_law_led", defArgs s__law_led, defBody s__law_led, defScope s__law_led, [], []⟩
def d__law_primes : He.DefD := ⟨("_law_primes", none), "_law_primes", "_law_primes", defArgs s__law_primes, defBody s__law_primes, defScope s__law_primes, [], []⟩
def d__law_often : He.DefD := ⟨("_law_often", none), "_law_often", "_law_often", defArgs s__law_often, defBody s__law_often, defScope s__law_often, [], []⟩
def d_primes_of : He.DefD := ⟨("primes_of", none), "primes_of", "primes_of", defArgs s_primes_of, defBody s_primes_of, defScope s_primes_of, [], []⟩
def d_many_of_prime : He.DefD := ⟨("many_of_prime", none), "many_of_prime", "many_of_prime", defArgs s_many_of_prime, defBody s_many_of_prime, defScope s_many_of_prime, [], []⟩
def d__law_great : He.DefD := ⟨("_law_great", none), "_law_great", "_law_great", defArgs s__law_great, defBody s__law_great, defScope s__law_great, [], []⟩
def d__law_counted : He.DefD := ⟨("_law_counted", none), "_law_counted", "_law_counted", defArgs s__law_counted, defBody s__law_counted, defScope s__law_counted, [], []⟩
def d__law_all : He.DefD := ⟨("_law_all", none), "_law_all", "_law_all", defArgs s__law_all, defBody s__law_all, defScope s__law_all, [], []⟩
def d__law_falls : He.DefD := ⟨("_law_falls", none), "_law_falls", "_law_falls", defArgs s__law_falls, defBody s__law_falls, defScope s__law_falls, [], []⟩
def d__law_lows : He.DefD := ⟨("_law_lows", none), "_law_lows", "_law_lows", defArgs s__law_lows, defBody s__law_lows, defScope s__law_lows, [], []⟩
def d_by_primes : He.DefD := ⟨("by_primes", none), "by_primes", "by_primes", defArgs s_by_primes, defBody s_by_primes, defScope s_by_primes, [], []⟩
def d__law_few_ways : He.DefD := ⟨("_law_few_ways", none), "_law_few_ways", "_law_few_ways", defArgs s__law_few_ways, defBody s__law_few_ways, defScope s__law_few_ways, [], []⟩
def d__law_due : He.DefD := ⟨("_law_due", none), "_law_due", "_law_due", defArgs s__law_due, defBody s__law_due, defScope s__law_due, [], []⟩
def d_many_turnings : He.DefD := ⟨("many_turnings", none), "many_turnings", "many_turnings", defArgs s_many_turnings, defBody s_many_turnings, defScope s_many_turnings, [], []⟩
def d__law_tells : He.DefD := ⟨("_law_tells", none), "_law_tells", "_law_tells", defArgs s__law_tells, defBody s__law_tells, defScope s__law_tells, [], []⟩
def d_law : He.DefD := ⟨("law", none), "law", "law", defArgs s_law, defBody s_law, defScope s_law, [], []⟩
def fn : List He.DefD := [d_power, d_how_often, d__law_pen, d__law_take, d__law_measure, d__law_few, d__law_led, d__law_primes, d__law_often, d_primes_of, d_many_of_prime, d__law_great, d__law_counted, d__law_all, d__law_falls, d__law_lows, d_by_primes, d__law_few_ways, d__law_due, d_many_turnings, d__law_tells, d_law]
def fa : List He.Fa := [.glo "power", .glo "how_often", .glo "_law_pen", .glo "_law_take", .glo "_law_measure", .glo "_law_few", .glo "_law_led", .glo "_law_primes", .glo "_law_often", .glo "primes_of", .glo "many_of_prime", .glo "_law_great", .glo "_law_counted", .glo "_law_all", .glo "_law_falls", .glo "_law_lows", .glo "by_primes", .glo "_law_few_ways", .glo "_law_due", .glo "many_turnings", .glo "_law_tells", .glo "law", .free "range", .free "len", .free "abs", .free "max", .free "int", .free "enumerate", .free "tuple", .free "sorted", .free "set", .free "isinstance", .free "bool"]
abbrev R : PySem.W.OpenRow := PySem.W.OpenLaw.row PySem.Challenge.rw_commonhouse_k61_turnings_counted
abbrev hk : PySem.W.Hook := hookL 5 fa fn (fun _ => true) ln
def ob (s : PySem.W.SharedT) : AlB := obsLG 5 fa fn (fun _ => true) ln (HandSHeadRun.getT s)
theorem ob_eq (s : PySem.W.SharedT) : ob s = hk.obs s.abs := obsLG_eq (HandSHeadRun.getT_eq s)
abbrev lo0 : List Str := ["power", "how_often", "primes_of", "by_primes", "many_of_prime", "many_turnings", "_law_pen", "_law_take", "_law_measure", "_law_great", "_law_few_ways", "_law_counted", "_law_all", "_law_few", "_law_falls", "_law_lows", "_law_led", "_law_primes", "_law_often", "_law_due", "_law_tells"]
abbrev lo : List Str := lo0
theorem run (w : World) : HandSHeadRun.RunEq R (PySem.W.view R.prog [26]) hk ob 18200 lo w := by
  intro os
  kernel_rfl
theorem facts {P : Program} {w : World} {K : PySem.W.Frag} {h : Heap} {mg : Str → Option Value} {f : Addr} (X : K.In h) (G : h.Ns mainGlobals mg) (hfa : mg ("law" : Str) = some (.ref f)) (hP : P.given.tree = none) (c0 : SaysB fa fn (fun _ => true) K) (l : LamOk ln K h) :
    ∃ fd : FuncData, (∀ (s : Shared) (v : Value), BindsTo s fd ⟨[v], []⟩ [("_law_script", v)]) ∧ ∀ base : Heap, K.In base → base.Ns mainGlobals mg → base.NoSeer → (∀ p ∈ csN ln K, LamX.TabB base mg p.1 p.2) → FnG P w K mg base 6 f fd ["_law_script"] (spG K mg 1 m_law) := by
  have c := c0.1
  obtain ⟨fd_power, F_power⟩ := c.def_ 0 (d := d_power) rfl
  obtain ⟨fd_how_often, F_how_often⟩ := c.def_ 1 (d := d_how_often) rfl
  obtain ⟨fd__law_pen, F__law_pen⟩ := c.def_ 2 (d := d__law_pen) rfl
  obtain ⟨fd__law_take, F__law_take⟩ := c.def_ 3 (d := d__law_take) rfl
  obtain ⟨fd__law_measure, F__law_measure⟩ := c.def_ 4 (d := d__law_measure) rfl
  obtain ⟨fd__law_few, F__law_few⟩ := c.def_ 5 (d := d__law_few) rfl
  obtain ⟨fd__law_led, F__law_led⟩ := c.def_ 6 (d := d__law_led) rfl
  obtain ⟨fd__law_primes, F__law_primes⟩ := c.def_ 7 (d := d__law_primes) rfl
  obtain ⟨fd__law_often, F__law_often⟩ := c.def_ 8 (d := d__law_often) rfl
  obtain ⟨fd_primes_of, F_primes_of⟩ := c.def_ 9 (d := d_primes_of) rfl
  obtain ⟨fd_many_of_prime, F_many_of_prime⟩ := c.def_ 10 (d := d_many_of_prime) rfl
  obtain ⟨fd__law_great, F__law_great⟩ := c.def_ 11 (d := d__law_great) rfl
  obtain ⟨fd__law_counted, F__law_counted⟩ := c.def_ 12 (d := d__law_counted) rfl
  obtain ⟨fd__law_all, F__law_all⟩ := c.def_ 13 (d := d__law_all) rfl
  obtain ⟨fd__law_falls, F__law_falls⟩ := c.def_ 14 (d := d__law_falls) rfl
  obtain ⟨fd__law_lows, F__law_lows⟩ := c.def_ 15 (d := d__law_lows) rfl
  obtain ⟨fd_by_primes, F_by_primes⟩ := c.def_ 16 (d := d_by_primes) rfl
  obtain ⟨fd__law_few_ways, F__law_few_ways⟩ := c.def_ 17 (d := d__law_few_ways) rfl
  obtain ⟨fd__law_due, F__law_due⟩ := c.def_ 18 (d := d__law_due) rfl
  obtain ⟨fd_many_turnings, F_many_turnings⟩ := c.def_ 19 (d := d_many_turnings) rfl
  obtain ⟨fd__law_tells, F__law_tells⟩ := c.def_ 20 (d := d__law_tells) rfl
  obtain ⟨fd_law, F_law⟩ := c.def_ 21 (d := d_law) rfl
  have e := hfa.symm.trans (He.glo_ok X G (c.fact 21 (f := .glo "law") rfl))
  cases e
  have b := FunD.bindsA (ps := ["_law_script"]) F_law fun _ _ _ _ _ _ us hl => match us, hl with | [_], _ => rfl
  have B : Bz K w mg := ⟨He.free_ok X G (c.fact 22 (f := .free "range") rfl), He.free_ok X G (c.fact 23 (f := .free "len") rfl), He.free_ok X G (c.fact 24 (f := .free "abs") rfl), He.free_ok X G (c.fact 25 (f := .free "max") rfl), He.free_ok X G (c.fact 26 (f := .free "int") rfl), He.free_ok X G (c.fact 27 (f := .free "enumerate") rfl), He.free_ok X G (c.fact 28 (f := .free "tuple") rfl), He.free_ok X G (c.fact 29 (f := .free "sorted") rfl), He.free_ok X G (c.fact 30 (f := .free "set") rfl), He.free_ok X G (c.fact 31 (f := .free "isinstance") rfl), He.free_ok X G (c.fact 32 (f := .free "bool") rfl)⟩
  refine ⟨fd_law, fun s v => b s [v] rfl, fun base _ _ sr TB => ?_⟩
  have NS : SeerK P base := ⟨hP, sr⟩
  have G_power : Fn P w K mg base 1 "power" 2 m_power := ⟨⟨_, fd_power, ["number", "often"], He.glo_ok X G (c.fact 0 (f := .glo "power") rfl), F_power.kp, F_power.bindsN (fun _ _ _ _ _ _ us hl => match us, hl with | [_, _], _ => rfl), ok_power F_power B NS⟩⟩
  have G_how_often : Fn P w K mg base 1 "how_often" 2 m_how_often := ⟨⟨_, fd_how_often, ["n", "prime"], He.glo_ok X G (c.fact 1 (f := .glo "how_often") rfl), F_how_often.kp, F_how_often.bindsN (fun _ _ _ _ _ _ us hl => match us, hl with | [_, _], _ => rfl), ok_how_often F_how_often B NS⟩⟩
  have G__law_pen : Fn P w K mg base 1 "_law_pen" 1 m__law_pen := ⟨⟨_, fd__law_pen, ["_law_script"], He.glo_ok X G (c.fact 2 (f := .glo "_law_pen") rfl), F__law_pen.kp, F__law_pen.bindsN (fun _ _ _ _ _ _ us hl => match us, hl with | [_], _ => rfl), ok__law_pen F__law_pen B NS⟩⟩
  have G__law_take : Fn P w K mg base 1 "_law_take" 2 m__law_take := ⟨⟨_, fd__law_take, ["_law_pen_here", "_law_many"], He.glo_ok X G (c.fact 3 (f := .glo "_law_take") rfl), F__law_take.kp, F__law_take.bindsN (fun _ _ _ _ _ _ us hl => match us, hl with | [_, _], _ => rfl), ok__law_take F__law_take B NS⟩⟩
  have G__law_measure : Fn P w K mg base 1 "_law_measure" 2 m__law_measure := ⟨⟨_, fd__law_measure, ["_law_a", "_law_b"], He.glo_ok X G (c.fact 4 (f := .glo "_law_measure") rfl), F__law_measure.kp, F__law_measure.bindsN (fun _ _ _ _ _ _ us hl => match us, hl with | [_, _], _ => rfl), ok__law_measure F__law_measure B NS⟩⟩
  have G__law_few : Fn P w K mg base 1 "_law_few" 2 m__law_few := ⟨⟨_, fd__law_few, ["_law_house", "_law_prime"], He.glo_ok X G (c.fact 5 (f := .glo "_law_few") rfl), F__law_few.kp, F__law_few.bindsN (fun _ _ _ _ _ _ us hl => match us, hl with | [_, _], _ => rfl), ok__law_few F__law_few B NS⟩⟩
  have G__law_led : Fn P w K mg base 1 "_law_led" 2 m__law_led := ⟨⟨_, fd__law_led, ["_law_way", "_law_a"], He.glo_ok X G (c.fact 6 (f := .glo "_law_led") rfl), F__law_led.kp, F__law_led.bindsN (fun _ _ _ _ _ _ us hl => match us, hl with | [_, _], _ => rfl), ok__law_led F__law_led B NS⟩⟩
  have G__law_primes : Fn P w K mg base 1 "_law_primes" 1 m__law_primes := ⟨⟨_, fd__law_primes, ["_law_n"], He.glo_ok X G (c.fact 7 (f := .glo "_law_primes") rfl), F__law_primes.kp, F__law_primes.bindsN (fun _ _ _ _ _ _ us hl => match us, hl with | [_], _ => rfl), ok__law_primes F__law_primes B NS⟩⟩
  have G__law_often : Fn P w K mg base 1 "_law_often" 2 m__law_often := ⟨⟨_, fd__law_often, ["_law_n", "_law_prime"], He.glo_ok X G (c.fact 8 (f := .glo "_law_often") rfl), F__law_often.kp, F__law_often.bindsN (fun _ _ _ _ _ _ us hl => match us, hl with | [_, _], _ => rfl), ok__law_often F__law_often B NS⟩⟩
  have G_primes_of : Fn P w K mg base 2 "primes_of" 1 m_primes_of := ⟨⟨_, fd_primes_of, ["n"], He.glo_ok X G (c.fact 9 (f := .glo "primes_of") rfl), F_primes_of.kp, F_primes_of.bindsN (fun _ _ _ _ _ _ us hl => match us, hl with | [_], _ => rfl), ok_primes_of F_primes_of B NS G_how_often G_power⟩⟩
  have G_many_of_prime : Fn P w K mg base 2 "many_of_prime" 2 m_many_of_prime := ⟨⟨_, fd_many_of_prime, ["prime", "powers"], He.glo_ok X G (c.fact 10 (f := .glo "many_of_prime") rfl), F_many_of_prime.kp, F_many_of_prime.bindsN (fun _ _ _ _ _ _ us hl => match us, hl with | [_, _], _ => rfl), ok_many_of_prime F_many_of_prime B NS G_power⟩⟩
  have G__law_great : Fn P w K mg base 2 "_law_great" 1 m__law_great := ⟨⟨_, fd__law_great, ["_law_pen_here"], He.glo_ok X G (c.fact 11 (f := .glo "_law_great") rfl), F__law_great.kp, F__law_great.bindsN (fun _ _ _ _ _ _ us hl => match us, hl with | [_], _ => rfl), ok__law_great F__law_great B NS G__law_take G__law_measure⟩⟩
  have G__law_counted : Fn P w K mg base 2 "_law_counted" 1 m__law_counted := ⟨⟨_, fd__law_counted, ["_law_house"], He.glo_ok X G (c.fact 12 (f := .glo "_law_counted") rfl), F__law_counted.kp, F__law_counted.bindsN (fun _ _ _ _ _ _ us hl => match us, hl with | [_], _ => rfl), ok__law_counted F__law_counted B NS G__law_measure⟩⟩
  have G__law_all : Fn P w K mg base 2 "_law_all" 1 m__law_all := ⟨⟨_, fd__law_all, ["_law_house"], He.glo_ok X G (c.fact 13 (f := .glo "_law_all") rfl), F__law_all.kp, F__law_all.bindsN (fun _ _ _ _ _ _ us hl => match us, hl with | [_], _ => rfl), ok__law_all F__law_all B NS G__law_measure⟩⟩
  have G__law_falls : Fn P w K mg base 2 "_law_falls" 2 m__law_falls := ⟨⟨_, fd__law_falls, ["_law_way", "_law_some"], He.glo_ok X G (c.fact 14 (f := .glo "_law_falls") rfl), F__law_falls.kp, F__law_falls.bindsN (fun _ _ _ _ _ _ us hl => match us, hl with | [_, _], _ => rfl), ok__law_falls F__law_falls B NS G__law_led⟩⟩
  have G__law_lows : Fn P w K mg base 2 "_law_lows" 1 m__law_lows := ⟨⟨_, fd__law_lows, ["_law_house"], He.glo_ok X G (c.fact 15 (f := .glo "_law_lows") rfl), F__law_lows.kp, F__law_lows.bindsN (fun _ _ _ _ _ _ us hl => match us, hl with | [_], _ => rfl), ok__law_lows F__law_lows B NS G__law_primes G__law_few⟩⟩
  have G_by_primes : Fn P w K mg base 3 "by_primes" 1 m_by_primes := ⟨⟨_, fd_by_primes, ["house"], He.glo_ok X G (c.fact 16 (f := .glo "by_primes") rfl), F_by_primes.kp, F_by_primes.bindsN (fun _ _ _ _ _ _ us hl => match us, hl with | [_], _ => rfl), ok_by_primes F_by_primes B NS G_primes_of⟩⟩
  have G__law_few_ways : Fn P w K mg base 3 "_law_few_ways" 2 m__law_few_ways := ⟨⟨_, fd__law_few_ways, ["_law_pen_here", "_law_most"], He.glo_ok X G (c.fact 17 (f := .glo "_law_few_ways") rfl), F__law_few_ways.kp, F__law_few_ways.bindsN (fun _ _ _ _ _ _ us hl => match us, hl with | [_, _], _ => rfl), ok__law_few_ways F__law_few_ways B NS G__law_take G__law_counted⟩⟩
  have G__law_due : Fn P w K mg base 3 "_law_due" 1 m__law_due := ⟨⟨_, fd__law_due, ["_law_house"], He.glo_ok X G (c.fact 18 (f := .glo "_law_due") rfl), F__law_due.kp, F__law_due.bindsN (fun _ _ _ _ _ _ us hl => match us, hl with | [_], _ => rfl), ok__law_due F__law_due B NS G__law_counted G__law_primes G__law_often⟩⟩
  have G_many_turnings : Fn P w K mg base 4 "many_turnings" 1 m_many_turnings := ⟨⟨_, fd_many_turnings, ["house"], He.glo_ok X G (c.fact 19 (f := .glo "many_turnings") rfl), F_many_turnings.kp, F_many_turnings.bindsN (fun _ _ _ _ _ _ us hl => match us, hl with | [_], _ => rfl), ok_many_turnings F_many_turnings B NS G_by_primes G_many_of_prime⟩⟩
  have G__law_tells : Fn P w K mg base 5 "_law_tells" 2 m__law_tells := ⟨⟨_, fd__law_tells, ["_law_house", "_law_due_here"], He.glo_ok X G (c.fact 20 (f := .glo "_law_tells") rfl), F__law_tells.kp, F__law_tells.bindsN (fun _ _ _ _ _ _ us hl => match us, hl with | [_, _], _ => rfl), ok__law_tells F__law_tells B NS G_many_turnings⟩⟩
  exact ok_law F_law B NS G__law_pen G__law_few_ways G__law_lows G__law_all G__law_falls G__law_tells G__law_due G__law_take G__law_great
theorem sp_law {K : PySem.W.Frag} {mg : Str → Option Value} {ns : List Int} (hl : ∃ r, m_law [.v (.list (ns.map .int))] = .ok (.v (.bool true)) r) (H : Hp) (a : Addr) (hS : SqL K H a (ns.map V.int)) (tb : LamX.Tabs (TabT.T K) H) : spG K mg 1 m_law [.ref a] H (fun v _ => v = .bl true) fun _ _ _ => False :=
  sp_start hl hS tb
end K61
namespace K61.F
open PySem Pu L2
/-! ### primes, how often they divide -/
def prm (p : Nat) : Prop := 2 ≤ p ∧ ∀ d, d ∣ p → d = 1 ∨ d = p
theorem prm_co {p a : Nat} (hp : prm p) (h : ¬ p ∣ a) : Nat.Coprime p a := by
  have h1 := hp.2 _ (Nat.gcd_dvd_left p a)
  rcases h1 with h1 | h1
  · exact h1
  · exact absurd (h1 ▸ Nat.gcd_dvd_right p a) h
theorem prm_mul {p a b : Nat} (hp : prm p) (h : p ∣ a * b) : p ∣ a ∨ p ∣ b := by
  by_cases ha : p ∣ a
  · exact .inl ha
  · exact .inr ((prm_co hp ha).dvd_of_dvd_mul_left h)
theorem prm_ex : ∀ n : Nat, 2 ≤ n → ∃ p, prm p ∧ p ∣ n := by
  intro n
  induction n using Nat.strongRecOn with
  | ind n ih =>
    intro h
    by_cases hp : prm n
    · exact ⟨n, hp, Nat.dvd_refl _⟩
    · have : ∃ d, d ∣ n ∧ d ≠ 1 ∧ d ≠ n := by
        refine Classical.byContradiction fun z => hp ⟨h, fun d hd => ?_⟩
        refine Classical.byContradiction fun y => z ⟨d, hd, fun e => y (.inl e), fun e => y (.inr e)⟩
      obtain ⟨d, hd, d1, d2⟩ := this
      have hd0 : d ≠ 0 := by
        intro e
        subst e
        have := Nat.eq_zero_of_zero_dvd hd
        omega
      have hle := Nat.le_of_dvd (by omega) hd
      obtain ⟨p, h1, h2⟩ := ih d (by omega) (by omega)
      exact ⟨p, h1, Nat.dvd_trans h2 hd⟩
def vpF (p : Nat) : Nat → Nat → Nat
  | 0, _ => 0
  | f + 1, n => if 2 ≤ p ∧ 1 ≤ n ∧ n % p = 0 then vpF p f (n / p) + 1 else 0
def vp (p n : Nat) : Nat := vpF p n n
theorem vpF_eq (p : Nat) : ∀ (f g n : Nat), n ≤ f → n ≤ g → vpF p f n = vpF p g n := by
  intro f
  induction f with
  | zero =>
    intro g n h1 h2
    have : n = 0 := by omega
    subst this
    cases g with
    | zero => rfl
    | succ g => simp [vpF]
  | succ f ih =>
    intro g n h1 h2
    cases g with
    | zero =>
      have : n = 0 := by omega
      subst this
      simp [vpF]
    | succ g =>
      unfold vpF
      by_cases h : 2 ≤ p ∧ 1 ≤ n ∧ n % p = 0
      · rw [if_pos h, if_pos h]
        have : n / p < n := Nat.div_lt_self (by omega) (by omega)
        rw [ih g (n / p) (by omega) (by omega)]
      · rw [if_neg h, if_neg h]
theorem vp_mulp {p n : Nat} (hp : 2 ≤ p) (hn : 1 ≤ n) : vp p (p * n) = vp p n + 1 := by
  unfold vp
  have h2 : n < p * n := by
    have : 2 * n ≤ p * n := Nat.mul_le_mul_right _ hp
    omega
  obtain ⟨f, hf⟩ : ∃ f, p * n = f + 1 := ⟨p * n - 1, by omega⟩
  rw [hf]
  conv => lhs; unfold vpF
  rw [← hf, if_pos ⟨hp, by omega, Nat.mul_mod_right p n⟩, Nat.mul_div_cancel_left _ (by omega)]
  rw [vpF_eq p f n n (by omega) (Nat.le_refl _)]
theorem vp_no {p n : Nat} (h : ¬ p ∣ n) : vp p n = 0 := by
  unfold vp
  cases n with
  | zero => rfl
  | succ n =>
    unfold vpF
    rw [if_neg fun z => h (Nat.dvd_of_mod_eq_zero z.2.2)]
theorem vp_pow {p : Nat} (hp : 2 ≤ p) {n : Nat} (hn : 1 ≤ n) (k : Nat) : vp p (p ^ k * n) = k + vp p n := by
  induction k with
  | zero => simp
  | succ k ih =>
    have : 1 ≤ p ^ k * n := Nat.mul_pos (Nat.pow_pos (by omega)) hn
    rw [Nat.pow_succ, Nat.mul_comm (p ^ k), Nat.mul_assoc, vp_mulp hp this, ih]
    omega
/-- n is p so often times what p does not divide -/
theorem vp_ex {p n : Nat} (hp : 2 ≤ p) (hn : 1 ≤ n) : ∃ m, n = p ^ vp p n * m ∧ ¬ p ∣ m := by
  induction n using Nat.strongRecOn with
  | ind n ih =>
    by_cases h : p ∣ n
    · obtain ⟨q, rfl⟩ := h
      have hq : 1 ≤ q := by
        rcases Nat.eq_zero_or_pos q with z | z
        · subst z; simp at hn
        · exact z
      have hlt : q < p * q := by
        have : 2 * q ≤ p * q := Nat.mul_le_mul_right _ hp
        omega
      obtain ⟨m, e, hm⟩ := ih q hlt hq
      refine ⟨m, ?_, hm⟩
      rw [vp_mulp hp hq, Nat.pow_succ, Nat.mul_comm (p ^ _), Nat.mul_assoc, ← e]
    · exact ⟨n, by rw [vp_no h]; simp, h⟩
theorem vp_uni {p n k m : Nat} (hp : 2 ≤ p) (hn : 1 ≤ n) (e : n = p ^ k * m) (hm : ¬ p ∣ m) : vp p n = k := by
  have hm1 : 1 ≤ m := by
    rcases Nat.eq_zero_or_pos m with z | z
    · subst z; rw [Nat.mul_zero] at e; omega
    · exact z
  rw [e, vp_pow hp hm1, vp_no hm, Nat.add_zero]
theorem vp_mul {p a b : Nat} (hp : prm p) (ha : 1 ≤ a) (hb : 1 ≤ b) : vp p (a * b) = vp p a + vp p b := by
  obtain ⟨m, e1, h1⟩ := vp_ex hp.1 ha
  obtain ⟨n, e2, h2⟩ := vp_ex hp.1 hb
  refine vp_uni (m := m * n) hp.1 (Nat.mul_pos ha hb) ?_ ?_
  · rw [Nat.pow_add]
    conv => lhs; rw [e1, e2]
    simp only [Nat.mul_assoc, Nat.mul_left_comm, Nat.mul_comm]
  · intro z
    rcases prm_mul hp z with z | z
    · exact h1 z
    · exact h2 z
theorem vp_one {p : Nat} (hp : 2 ≤ p) : vp p 1 = 0 := vp_no fun z => by
  have := Nat.le_of_dvd (by omega) z
  omega
theorem vp_self {p : Nat} (hp : 2 ≤ p) (k : Nat) : vp p (p ^ k) = k := by
  have := vp_pow hp (n := 1) (by omega) k
  rw [Nat.mul_one, vp_one hp] at this
  omega
theorem prm_eq {p q : Nat} (hp : prm p) (hq : prm q) (h : p ∣ q) : p = q := by
  rcases hq.2 p h with e | e
  · have := hp.1
    omega
  · exact e
theorem prm_pow {p a k : Nat} (hp : prm p) (h : p ∣ a ^ k) : p ∣ a := by
  induction k with
  | zero =>
    rw [Nat.pow_zero] at h
    have := Nat.le_of_dvd (by omega) h
    have := hp.1
    omega
  | succ k ih =>
    rw [Nat.pow_succ] at h
    rcases prm_mul hp h with z | z
    · exact ih z
    · exact z
theorem vp_other {p q : Nat} (hp : prm p) (hq : prm q) (h : p ≠ q) (k : Nat) : vp p (q ^ k) = 0 := vp_no fun z => h (prm_eq hp hq (prm_pow hp z))
theorem vp_pos {p n : Nat} (hp : 2 ≤ p) (hn : 1 ≤ n) : 0 < vp p n ↔ p ∣ n := by
  constructor
  · intro h
    refine Classical.byContradiction fun z => ?_
    rw [vp_no z] at h
    omega
  · rintro ⟨q, rfl⟩
    have hq : 1 ≤ q := by
      rcases Nat.eq_zero_or_pos q with z | z
      · subst z; simp at hn
      · exact z
    rw [vp_mulp hp hq]
    omega
theorem vp_dvd {p a b : Nat} (hp : prm p) (hb : 1 ≤ b) (h : a ∣ b) : vp p a ≤ vp p b := by
  obtain ⟨c, rfl⟩ := h
  have ha : 1 ≤ a := by
    rcases Nat.eq_zero_or_pos a with z | z
    · subst z; simp at hb
    · exact z
  have hc : 1 ≤ c := by
    rcases Nat.eq_zero_or_pos c with z | z
    · subst z; simp at hb
    · exact z
  rw [vp_mul hp ha hc]
  omega
/-- numbers by how often primes divide them -/
theorem vp_le_dvd : ∀ (a b : Nat), 1 ≤ a → 1 ≤ b → (∀ p, prm p → vp p a ≤ vp p b) → a ∣ b := by
  intro a
  induction a using Nat.strongRecOn with
  | ind a ih =>
    intro b ha hb h
    rcases Nat.lt_or_ge a 2 with h2 | h2
    · have : a = 1 := by omega
      subst this
      exact Nat.one_dvd _
    · obtain ⟨p, hp, a', rfl⟩ := prm_ex a h2
      have ha' : 1 ≤ a' := by
        rcases Nat.eq_zero_or_pos a' with z | z
        · subst z; simp at ha
        · exact z
      have hpb : p ∣ b := by
        have := h p hp
        rw [vp_mulp hp.1 ha'] at this
        exact (vp_pos hp.1 hb).mp (by omega)
      obtain ⟨b', rfl⟩ := hpb
      have hb' : 1 ≤ b' := by
        rcases Nat.eq_zero_or_pos b' with z | z
        · subst z; simp at hb
        · exact z
      have hlt : a' < p * a' := by
        have := hp.1
        have : 2 * a' ≤ p * a' := Nat.mul_le_mul_right _ hp.1
        omega
      refine Nat.mul_dvd_mul_left p (ih a' hlt b' ha' hb' fun q hq => ?_)
      have := h q hq
      rw [vp_mul hq (by have := hp.1; omega) ha', vp_mul hq (by have := hp.1; omega) hb'] at this
      omega
theorem vp_eq {a b : Nat} (ha : 1 ≤ a) (hb : 1 ≤ b) (h : ∀ p, prm p → vp p a = vp p b) : a = b := Nat.dvd_antisymm (vp_le_dvd a b ha hb fun p hp => Nat.le_of_eq (h p hp)) (vp_le_dvd b a hb ha fun p hp => Nat.le_of_eq (h p hp).symm)
theorem vp_gcd {p a b : Nat} (hp : prm p) (ha : 1 ≤ a) (hb : 1 ≤ b) : vp p (Nat.gcd a b) = min (vp p a) (vp p b) := by
  have hg : 1 ≤ Nat.gcd a b := Nat.gcd_pos_of_pos_left _ ha
  have h1 := vp_dvd hp ha (Nat.gcd_dvd_left a b)
  have h2 := vp_dvd hp hb (Nat.gcd_dvd_right a b)
  have h3 : p ^ min (vp p a) (vp p b) ∣ Nat.gcd a b := by
    refine Nat.dvd_gcd ?_ ?_
    · obtain ⟨m, e, _⟩ := vp_ex hp.1 ha
      conv => rhs; rw [e]
      exact Nat.dvd_trans (Nat.pow_dvd_pow p (Nat.min_le_left _ _)) (Nat.dvd_mul_right _ _)
    · obtain ⟨m, e, _⟩ := vp_ex hp.1 hb
      conv => rhs; rw [e]
      exact Nat.dvd_trans (Nat.pow_dvd_pow p (Nat.min_le_right _ _)) (Nat.dvd_mul_right _ _)
  have h4 := vp_dvd hp hg h3
  rw [vp_self hp.1] at h4
  omega
theorem vp_lcm {p a b : Nat} (hp : prm p) (ha : 1 ≤ a) (hb : 1 ≤ b) : vp p (Nat.lcm a b) = max (vp p a) (vp p b) := by
  have hg : 1 ≤ Nat.gcd a b := Nat.gcd_pos_of_pos_left _ ha
  have hl : 1 ≤ Nat.lcm a b := Nat.lcm_pos ha hb
  have h1 := vp_mul hp hg hl
  rw [Nat.gcd_mul_lcm, vp_mul hp ha hb, vp_gcd hp ha hb] at h1
  omega
end K61.F
namespace K61.F
open PySem Pu L2
/-! ### the one form -/
theorem pw_uniqN {l m : List Nat} (hl : l.Pairwise (· ≤ ·)) (hm : m.Pairwise (· ≤ ·)) (h : l.Perm m) : l = m := by
  induction l generalizing m with
  | nil => exact h.nil_eq
  | cons x xs ih =>
    cases m with
    | nil => exact absurd h.symm.nil_eq (by simp)
    | cons y ys =>
      rw [List.pairwise_cons] at hl hm
      have e : x = y := by
        have a : x ∈ y :: ys := h.mem_iff.mp (by simp)
        have b : y ∈ x :: xs := h.mem_iff.mpr (by simp)
        rcases List.mem_cons.mp a with e | e
        · exact e
        · rcases List.mem_cons.mp b with e2 | e2
          · exact e2.symm
          · have := hm.1 x e
            have := hl.1 y e2
            omega
      subst e
      rw [ih hl.2 hm.2 h.cons_inv]
def PV (q : Nat) (xs : List Nat) : List Nat := (xs.map (vp q)).filter fun k => decide (0 < k)
theorem PV_app (q : Nat) (xs ys : List Nat) : PV q (xs ++ ys) = PV q xs ++ PV q ys := by simp [PV]
structure IsF (hs F : List Nat) : Prop where
  two : ∀ f ∈ F, 2 ≤ f
  ch : F.Pairwise (· ∣ ·)
  pv : ∀ q, prm q → (PV q F).Perm (PV q hs)
theorem pv_len (q : Nat) (xs : List Nat) : (PV q xs).length ≤ xs.length := by
  have := List.length_filter_le (fun k => decide (0 < k)) (xs.map (vp q))
  rw [List.length_map] at this
  exact this
theorem filt_all {xs : List Nat} (h : ∀ x ∈ xs, 0 < x) : xs.filter (fun k => decide (0 < k)) = xs := List.filter_eq_self.mpr fun x hx => by simpa using h x hx
theorem len_le {hs gs F G : List Nat} (hF : IsF hs F) (hG : IsF gs G) (h : ∀ q, prm q → (PV q hs).Perm (PV q gs)) : F.length ≤ G.length := by
  cases F with
  | nil => simp
  | cons f F =>
    obtain ⟨q, hq, hd⟩ := prm_ex f (hF.two f (by simp))
    have hall : ∀ x ∈ f :: F, 0 < vp q x := by
      intro x hx
      have h2 := hF.two x hx
      rcases List.mem_cons.mp hx with e | e
      · rw [e]
        exact (vp_pos hq.1 (by have := hF.two f (by simp); omega)).mpr hd
      · have := (List.pairwise_cons.mp hF.ch).1 x e
        exact (vp_pos hq.1 (by omega)).mpr (Nat.dvd_trans hd this)
    have e1 : (PV q (f :: F)).length = (f :: F).length := by
      unfold PV
      rw [filt_all fun k hk => by
        obtain ⟨x, hx, rfl⟩ := List.mem_map.mp hk
        exact hall x hx]
      simp
    have e2 := (hF.pv q hq).length_eq
    have e3 := (h q hq).length_eq
    have e4 := (hG.pv q hq).length_eq
    have e5 := pv_len q G
    omega
theorem zer_perm : ∀ (l : List Nat), l.Perm (List.replicate (l.length - (l.filter fun k => decide (0 < k)).length) 0 ++ l.filter fun k => decide (0 < k))
  | [] => by simp
  | x :: xs => by
    have ih := zer_perm xs
    have hle := List.length_filter_le (fun k => decide (0 < k)) xs
    by_cases hx : 0 < x
    · rw [List.filter_cons_of_pos (by simpa using hx), List.length_cons, List.length_cons]
      rw [show xs.length + 1 - ((xs.filter fun k => decide (0 < k)).length + 1) = xs.length - (xs.filter fun k => decide (0 < k)).length by omega]
      exact (ih.cons x).trans List.perm_middle.symm
    · have : x = 0 := by omega
      subst this
      rw [List.filter_cons_of_neg (by simp), List.length_cons, show xs.length + 1 - (xs.filter fun k => decide (0 < k)).length = (xs.length - (xs.filter fun k => decide (0 < k)).length) + 1 by omega, List.replicate_succ]
      exact ih.cons 0
theorem pos_uniq {l m : List Nat} (hl : l.Pairwise (· ≤ ·)) (hm : m.Pairwise (· ≤ ·)) (hn : l.length = m.length) (h : (l.filter fun k => decide (0 < k)).Perm (m.filter fun k => decide (0 < k))) : l = m := by
  refine pw_uniqN hl hm ((zer_perm l).trans (List.Perm.trans ?_ (zer_perm m).symm))
  rw [hn, h.length_eq]
  exact h.append_left _
theorem vp_sorted {q : Nat} (hq : prm q) {F : List Nat} (h2 : ∀ f ∈ F, 1 ≤ f) (h : F.Pairwise (· ∣ ·)) : (F.map (vp q)).Pairwise (· ≤ ·) := by
  induction F with
  | nil => simp
  | cons f F ih =>
    rw [List.pairwise_cons] at h
    rw [List.map_cons, List.pairwise_cons]
    refine ⟨fun k hk => ?_, ih (fun x hx => h2 x (by simp [hx])) h.2⟩
    obtain ⟨x, hx, rfl⟩ := List.mem_map.mp hk
    exact vp_dvd hq (h2 x (by simp [hx])) (h.1 x hx)
theorem form_uniq {hs gs F G : List Nat} (hF : IsF hs F) (hG : IsF gs G) (h : ∀ q, prm q → (PV q hs).Perm (PV q gs)) : F = G := by
  have hl : F.length = G.length := Nat.le_antisymm (len_le hF hG h) (len_le hG hF fun q hq => (h q hq).symm)
  have hv : ∀ q, prm q → F.map (vp q) = G.map (vp q) := fun q hq => pos_uniq (vp_sorted hq (fun f hf => by have := hF.two f hf; omega) hF.ch) (vp_sorted hq (fun f hf => by have := hG.two f hf; omega) hG.ch) (by simp [hl]) ((hF.pv q hq).trans ((h q hq).trans (hG.pv q hq).symm))
  apply List.ext_getElem hl
  intro i h1 h2
  refine vp_eq (by have := hF.two F[i] (List.getElem_mem h1); omega) (by have := hG.two G[i] (List.getElem_mem h2); omega) fun q hq => ?_
  have e := hv q hq
  have e1 : (F.map (vp q))[i]? = (G.map (vp q))[i]? := by rw [e]
  rw [List.getElem?_map, List.getElem?_map, List.getElem?_eq_getElem h1, List.getElem?_eq_getElem h2] at e1
  exact Option.some.inj e1
/-! ### the sweep of measures and multiples -/
def gnn (xs : List Nat) (i : Nat) : Nat := xs.getD i 0
def sw (r : List Nat) (f l : Nat) : List Nat := (r.set f (Nat.gcd (gnn r f) (gnn r l))).set l (Nat.lcm (gnn r f) (gnn r l))
def swI (n f : Nat) (r : List Nat) : Nat → List Nat
  | 0 => r
  | k + 1 => sw (swI n f r k) f (f + 1 + k)
def swO (n : Nat) (r : List Nat) : Nat → List Nat
  | 0 => r
  | f + 1 => swI n f (swO n r f) (n - (f + 1))
def frm (hs : List Nat) : List Nat := (swO hs.length hs hs.length).filter fun x => decide (1 < x)
theorem gnn_at {xs : List Nat} {i : Nat} (h : i < xs.length) : xs[i]? = some (gnn xs i) := by
  unfold gnn
  rw [List.getD_eq_getElem?_getD, List.getElem?_eq_getElem h]
  rfl
theorem gnn_mem {xs : List Nat} {i : Nat} (h : i < xs.length) : gnn xs i ∈ xs := List.mem_of_getElem? (gnn_at h)
theorem sw_len (r : List Nat) (f l : Nat) : (sw r f l).length = r.length := by simp [sw]
theorem sw_at {r : List Nat} {f l j : Nat} (hf : f < r.length) (hl : l < r.length) (hfl : f ≠ l) (hj : j < r.length) : gnn (sw r f l) j = if j = f then Nat.gcd (gnn r f) (gnn r l) else if j = l then Nat.lcm (gnn r f) (gnn r l) else gnn r j := by
  unfold sw
  have e : ∀ (xs : List Nat), gnn xs j = xs[j]?.getD 0 := fun xs => by unfold gnn; rw [List.getD_eq_getElem?_getD]
  rw [e, List.getElem?_set, List.getElem?_set]
  by_cases h1 : j = f
  · subst h1
    simp [Ne.symm hfl, hj]
  · by_cases h2 : j = l
    · subst h2
      simp [h1, hj]
    · rw [if_neg (Ne.symm h2), if_neg (Ne.symm h1), if_neg h1, if_neg h2, e]
theorem ex_perm {xs : List Nat} {i j : Nat} (hi : i < xs.length) (hj : j < xs.length) : ((xs.set i (min xs[i] xs[j])).set j (max xs[i] xs[j])).Perm xs := by
  by_cases h : xs[i] ≤ xs[j]
  · rw [Nat.min_eq_left h, Nat.max_eq_right h]
    have e1 : xs.set i xs[i] = xs := List.set_getElem_self hi
    rw [e1]
    have e2 : xs.set j xs[j] = xs := List.set_getElem_self hj
    rw [e2]
  · rw [Nat.min_eq_right (by omega), Nat.max_eq_left (by omega)]
    exact List.set_set_perm hi hj
theorem gnn_eq {xs : List Nat} {i : Nat} (h : i < xs.length) : gnn xs i = xs[i] := by
  have e := gnn_at h
  rw [List.getElem?_eq_getElem h] at e
  exact (Option.some.inj e).symm
theorem sw_vp {q : Nat} (hq : prm q) {r : List Nat} {f l : Nat} (h1 : ∀ x ∈ r, 1 ≤ x) (hf : f < r.length) (hl : l < r.length) : ((sw r f l).map (vp q)).Perm (r.map (vp q)) := by
  unfold sw
  have a1 := h1 _ (gnn_mem hf)
  have a2 := h1 _ (gnn_mem hl)
  rw [List.map_set, List.map_set, vp_gcd hq a1 a2, vp_lcm hq a1 a2]
  have := ex_perm (xs := r.map (vp q)) (i := f) (j := l) (by simpa using hf) (by simpa using hl)
  rw [List.getElem_map, List.getElem_map, ← gnn_eq hf, ← gnn_eq hl] at this
  exact this
theorem sw_pos {r : List Nat} {f l : Nat} (h1 : ∀ x ∈ r, 1 ≤ x) (hf : f < r.length) (hl : l < r.length) : ∀ x ∈ sw r f l, 1 ≤ x := by
  intro x hx
  have a1 := h1 _ (gnn_mem hf)
  have a2 := h1 _ (gnn_mem hl)
  unfold sw at hx
  rcases List.mem_or_eq_of_mem_set hx with h | h
  · rcases List.mem_or_eq_of_mem_set h with h | h
    · exact h1 x h
    · rw [h]
      exact Nat.gcd_pos_of_pos_left _ a1
  · rw [h]
    exact Nat.lcm_pos a1 a2
structure Sw (hs r : List Nat) (n f : Nat) : Prop where
  l : r.length = n
  p : ∀ x ∈ r, 1 ≤ x
  v : ∀ q, prm q → (r.map (vp q)).Perm (hs.map (vp q))
  d : ∀ i j, i < f → i < j → j < n → gnn r i ∣ gnn r j
theorem sw_in {hs r : List Nat} {n f : Nat} (S : Sw hs r n f) (hfn : f < n) : ∀ k, f + 1 + k ≤ n → Sw hs (swI n f r k) n f ∧ ∀ j, f < j → j < f + 1 + k → gnn (swI n f r k) f ∣ gnn (swI n f r k) j
  | 0, _ => ⟨S, fun j h1 h2 => by omega⟩
  | k + 1, h => by
    obtain ⟨S1, d1⟩ := sw_in S hfn k (by omega)
    have hf : f < (swI n f r k).length := by rw [S1.l]; exact hfn
    have hl : f + 1 + k < (swI n f r k).length := by rw [S1.l]; omega
    have at_ : ∀ j, j < n → gnn (swI n f r (k + 1)) j = _ := fun j hj => sw_at hf hl (by omega) (by rw [S1.l]; exact hj)
    refine ⟨⟨by unfold swI; rw [sw_len]; exact S1.l, sw_pos S1.p hf hl, fun q hq => (sw_vp hq S1.p hf hl).trans (S1.v q hq), fun i j hi hij hj => ?_⟩, fun j h1 h2 => ?_⟩
    · rw [at_ i (by omega), at_ j hj, if_neg (by omega), if_neg (by omega)]
      split
      · exact Nat.dvd_gcd (S1.d i f hi hi hfn) (S1.d i _ hi (by omega) (by omega))
      · split
        · exact Nat.dvd_trans (S1.d i f hi hi hfn) (Nat.dvd_lcm_left _ _)
        · exact S1.d i j hi hij hj
    · rw [at_ f hfn, at_ j (by omega), if_pos rfl, if_neg (by omega)]
      split
      · exact Nat.dvd_trans (Nat.gcd_dvd_left _ _) (Nat.dvd_lcm_left _ _)
      · exact Nat.dvd_trans (Nat.gcd_dvd_left _ _) (d1 j h1 (by omega))
theorem sw_out {hs : List Nat} (h1 : ∀ x ∈ hs, 1 ≤ x) : ∀ f, f ≤ hs.length → Sw hs (swO hs.length hs f) hs.length f
  | 0, _ => ⟨rfl, h1, fun _ _ => List.Perm.refl _, fun i j hi => by omega⟩
  | f + 1, h => by
    have S := sw_out h1 f (by omega)
    obtain ⟨S1, d1⟩ := sw_in S (by omega) (hs.length - (f + 1)) (by omega)
    refine ⟨S1.l, S1.p, S1.v, fun i j hi hij hj => ?_⟩
    by_cases e : i = f
    · subst e
      exact d1 j hij (by omega)
    · exact S1.d i j (by omega) hij hj
theorem pw_of {r : List Nat} {n : Nat} (hl : r.length = n) (h : ∀ i j, i < n → i < j → j < n → gnn r i ∣ gnn r j) : r.Pairwise (· ∣ ·) := by
  rw [List.pairwise_iff_getElem]
  intro i j hi hj hij
  have := h i j (by omega) hij (by omega)
  rwa [gnn_eq hi, gnn_eq hj] at this
theorem pv_filt {q : Nat} (hq : 2 ≤ q) : ∀ {r : List Nat}, (∀ x ∈ r, 1 ≤ x) → PV q (r.filter fun x => decide (1 < x)) = PV q r
  | [], _ => rfl
  | x :: r, h => by
    have ih := pv_filt hq (r := r) fun y hy => h y (by simp [hy])
    have hx := h x (by simp)
    by_cases h1 : 1 < x
    · rw [List.filter_cons_of_pos (by simpa using h1), show x :: r.filter (fun x => decide (1 < x)) = [x] ++ r.filter (fun x => decide (1 < x)) from rfl, show x :: r = [x] ++ r from rfl, PV_app, PV_app, ih]
    · have : x = 1 := by omega
      subst this
      rw [List.filter_cons_of_neg (by simp), ih, show 1 :: r = [1] ++ r from rfl, PV_app]
      simp [PV, vp_one hq]
theorem frm_is {hs : List Nat} (h1 : ∀ x ∈ hs, 1 ≤ x) : IsF hs (frm hs) := by
  have S := sw_out h1 hs.length (Nat.le_refl _)
  refine ⟨fun f hf => ?_, ?_, fun q hq => ?_⟩
  · have := (List.mem_filter.mp hf).2
    simp at this
    omega
  · exact (pw_of S.l S.d).filter _
  · unfold frm
    rw [pv_filt hq.1 S.p]
    exact (S.v q hq).filter _
end K61.F
namespace K61.F
open PySem Pu L2
abbrev T (xs : List Int) : D := .tuple (xs.map .int)
abbrev IN (xs : List Nat) : List Int := xs.map fun n : Nat => (n : Int)
abbrev N (xs : List Nat) : D := .tuple (xs.map fun n : Nat => .int (n : Int))
def B130 : Nat := 2 ^ 130
abbrev LN (xs : List Nat) : List D := xs.map fun n : Nat => .int (n : Int)
theorem lt_of_at {as : List Int} {i : Nat} {a : Int} (h : as[i]? = some a) : i < as.length := (List.getElem?_eq_some_iff.mp h).1
def Ho (hs : List Int) : Prop := hs.length ≤ 6 ∧ ∀ h ∈ hs, 1 ≤ h ∧ h ≤ 1000000
theorem Ho.at {hs : List Int} (H : Ho hs) {i : Nat} {h : Int} (e : hs[i]? = some h) : 1 ≤ h ∧ h ≤ 1000000 := H.2 h (List.mem_of_getElem? e)
def HoS (hs : List Nat) : Prop := hs.length ≤ 6 ∧ ∀ h ∈ hs, 1 ≤ h ∧ h ≤ 1000000
theorem toNs : ∀ xs : List Int, (∀ x ∈ xs, 0 ≤ x) → ∃ ns : List Nat, xs = IN ns
  | [], _ => ⟨[], rfl⟩
  | x :: xs, h => by
    obtain ⟨ns, e⟩ := toNs xs fun y hy => h y (by simp [hy])
    refine ⟨x.toNat :: ns, ?_⟩
    have := h x (by simp)
    rw [e]
    simp [IN]
    omega
theorem IN_mem {ns : List Nat} {n : Nat} (h : n ∈ ns) : (n : Int) ∈ IN ns := List.mem_map.mpr ⟨n, h, rfl⟩
end K61.F
namespace K61.F
open PySem Pu L2
/-! ### the primes of a number -/
@[simp] theorem intD_b (b : Bool) : intD (.bool b) = some (.int (if b then 1 else 0)) := rfl
structure Fac (n : Nat) (L : List (Nat × Nat)) : Prop where
  a : ∀ x ∈ L, prm x.1 ∧ x.1 ∣ n ∧ x.2 = vp x.1 n
  c : ∀ q, prm q → q ∣ n → ∃ e, (q, e) ∈ L
  o : L.Pairwise fun x y => x.1 < y.1
/-- under way: all primes below b are told -/
structure FacB (n m b : Nat) (L : List (Nat × Nat)) : Prop where
  a : ∀ x ∈ L, prm x.1 ∧ x.1 ∣ n ∧ x.2 = vp x.1 n ∧ x.1 < b
  c : ∀ q, prm q → q ∣ n → q < b → ∃ e, (q, e) ∈ L
  o : L.Pairwise fun x y => x.1 < y.1
  m1 : 1 ≤ m
  d : m ∣ n
  lo : ∀ q, prm q → q ∣ m → b ≤ q
  v : ∀ q, prm q → b ≤ q → vp q m = vp q n
theorem facB_step {n m b e : Nat} {L : List (Nat × Nat)} {m' : Nat} (hn : 1 ≤ n) (hb : 2 ≤ b) (F : FacB n m b L) (em : m = b ^ e * m') (hm' : ¬ b ∣ m') : FacB n m' (b + 1) (if 0 < e then L ++ [(b, e)] else L) := by
  have hm1 : 1 ≤ m' := by
    rcases Nat.eq_zero_or_pos m' with z | z
    · subst z
      have := F.m1
      simp [-po_comp] at em
      omega
    · exact z
  have hdm : m' ∣ m := ⟨b ^ e, by rw [em, Nat.mul_comm]⟩
  have hv : ∀ q, prm q → b + 1 ≤ q → vp q m' = vp q n := by
    intro q hq hqb
    rw [← F.v q hq (by omega), em]
    have hbq : vp q (b ^ e) = 0 := by
      refine vp_no fun z => ?_
      have := Nat.le_of_dvd (by omega) (prm_pow hq z)
      omega
    rw [vp_mul hq (Nat.pow_pos (by omega)) hm1, hbq, Nat.zero_add]
  by_cases he : 0 < e
  · rw [if_pos he]
    have hbm : b ∣ m := by
      rw [em]
      obtain ⟨e', rfl⟩ : ∃ e', e = e' + 1 := ⟨e - 1, by omega⟩
      rw [Nat.pow_succ, Nat.mul_comm (b ^ e'), Nat.mul_assoc]
      exact Nat.dvd_mul_right _ _
    have hbp : prm b := by
      obtain ⟨p, hp, hpb⟩ := prm_ex b hb
      have h1 := F.lo p hp (Nat.dvd_trans hpb hbm)
      have h2 := Nat.le_of_dvd (by omega) hpb
      have : p = b := by omega
      rw [← this]
      exact hp
    have hev : e = vp b n := by
      rw [← F.v b hbp (Nat.le_refl _)]
      exact (vp_uni hb F.m1 em hm').symm
    refine ⟨fun x hx => ?_, fun q hq hqn hqb => ?_, ?_, hm1, Nat.dvd_trans hdm F.d, fun q hq hqm => ?_, hv⟩
    · rw [List.mem_append] at hx
      rcases hx with hx | hx
      · have := F.a x hx
        exact ⟨this.1, this.2.1, this.2.2.1, by omega⟩
      · rw [List.mem_singleton.mp hx]
        exact ⟨hbp, Nat.dvd_trans hbm F.d, hev, by show b < b + 1; omega⟩
    · by_cases h : q < b
      · obtain ⟨e', h'⟩ := F.c q hq hqn h
        exact ⟨e', List.mem_append_left _ h'⟩
      · have : q = b := by omega
        subst this
        exact ⟨e, by simp⟩
    · rw [List.pairwise_append]
      refine ⟨F.o, by simp, fun x hx y hy => ?_⟩
      rw [List.mem_singleton.mp hy]
      exact (F.a x hx).2.2.2
    · have h1 := F.lo q hq (Nat.dvd_trans hqm hdm)
      rcases Nat.eq_or_lt_of_le h1 with h2 | h2
      · subst h2
        exact absurd hqm hm'
      · omega
  · rw [if_neg he]
    have e0 : e = 0 := by omega
    subst e0
    rw [Nat.pow_zero, Nat.one_mul] at em
    subst em
    refine ⟨fun x hx => ?_, fun q hq hqn hqb => ?_, F.o, hm1, F.d, fun q hq hqm => ?_, hv⟩
    · have := F.a x hx
      exact ⟨this.1, this.2.1, this.2.2.1, by omega⟩
    · by_cases h : q < b
      · exact F.c q hq hqn h
      · have : q = b := by omega
        subst this
        -- q divides n, not m: its often in m is that in n
        have h1 := F.v q hq (Nat.le_refl _)
        rw [vp_no hm'] at h1
        have := (vp_pos hq.1 hn).mpr hqn
        omega
    · have h1 := F.lo q hq hqm
      rcases Nat.eq_or_lt_of_le h1 with h2 | h2
      · subst h2
        exact absurd hqm hm'
      · omega
theorem facB_end {n m b : Nat} {L : List (Nat × Nat)} (hn : 1 ≤ n) (hb : 2 ≤ b) (F : FacB n m b L) (h : m < b * b) : Fac n (if 1 < m then L ++ [(m, 1)] else L) := by
  by_cases hm : 1 < m
  · rw [if_pos hm]
    have hmp : prm m := by
      obtain ⟨p, hp, hpm⟩ := prm_ex m (by omega)
      obtain ⟨c, rfl⟩ := hpm
      have h1 := F.lo p hp (Nat.dvd_mul_right _ _)
      rcases Nat.lt_or_ge c 2 with hc | hc
      · have : c = 1 := by
          rcases Nat.eq_zero_or_pos c with z | z
          · subst z; simp [-po_comp] at hm
          · omega
        subst this
        rw [Nat.mul_one]
        exact hp
      · obtain ⟨p2, hp2, h2⟩ := prm_ex c hc
        have h3 := F.lo p2 hp2 (Nat.dvd_trans h2 (Nat.dvd_mul_left _ _))
        have h4 := Nat.le_of_dvd (by omega) h2
        have h5 : b * b ≤ p * c := Nat.mul_le_mul h1 (by omega)
        omega
    have hbm := F.lo m hmp (Nat.dvd_refl _)
    have hv1 : vp m n = 1 := by
      rw [← F.v m hmp hbm]
      have := vp_self hmp.1 1
      rwa [Nat.pow_one] at this
    refine ⟨fun x hx => ?_, fun q hq hqn => ?_, ?_⟩
    · rw [List.mem_append] at hx
      rcases hx with hx | hx
      · have := F.a x hx
        exact ⟨this.1, this.2.1, this.2.2.1⟩
      · rw [List.mem_singleton.mp hx]
        exact ⟨hmp, F.d, hv1.symm⟩
    · by_cases h1 : q < b
      · obtain ⟨e', h'⟩ := F.c q hq hqn h1
        exact ⟨e', List.mem_append_left _ h'⟩
      · have h2 := F.v q hq (by omega)
        have h3 := (vp_pos hq.1 hn).mpr hqn
        rw [← h2] at h3
        have h4 := prm_eq hq hmp ((vp_pos hq.1 F.m1).mp h3)
        subst h4
        exact ⟨1, by simp⟩
    · rw [List.pairwise_append]
      refine ⟨F.o, by simp, fun x hx y hy => ?_⟩
      rw [List.mem_singleton.mp hy]
      have := (F.a x hx).2.2.2
      show x.1 < m
      omega
  · rw [if_neg hm]
    have m1 : m = 1 := by have := F.m1; omega
    refine ⟨fun x hx => ?_, fun q hq hqn => ?_, F.o⟩
    · have := F.a x hx
      exact ⟨this.1, this.2.1, this.2.2.1⟩
    · by_cases h1 : q < b
      · exact F.c q hq hqn h1
      · have h2 := F.v q hq (by omega)
        have h3 := (vp_pos hq.1 hn).mpr hqn
        rw [← h2, m1, vp_one hq.1] at h3
        omega
theorem facB_0 {n : Nat} (hn : 1 ≤ n) : FacB n n 2 [] := ⟨by simp, fun q hq _ h => by have := hq.1; omega, by simp, hn, Nat.dvd_refl _, fun q hq _ => hq.1, fun _ _ _ => rfl⟩
theorem fac_len {n : Nat} (hn : 1 ≤ n) {L : List (Nat × Nat)} (h : ∀ x ∈ L, 2 ≤ x.1 ∧ x.1 ≤ n) (ho : L.Pairwise fun x y => x.1 < y.1) : L.length ≤ n := by
  have key : ∀ (L : List (Nat × Nat)) (lo : Nat), (∀ x ∈ L, lo ≤ x.1 ∧ x.1 ≤ n) → L.Pairwise (fun x y => x.1 < y.1) → L.length + lo ≤ n + 1 ∨ L = [] := by
    intro L
    induction L with
    | nil => intro lo _ _; exact .inr rfl
    | cons x L ih =>
      intro lo h ho
      rw [List.pairwise_cons] at ho
      have h1 := h x (by simp [-po_comp])
      rcases ih (x.1 + 1) (fun y hy => ⟨ho.1 y hy, (h y (by simp [-po_comp, hy])).2⟩) ho.2 with h2 | h2
      · left
        simp [-po_comp]
        omega
      · subst h2
        left
        simp [-po_comp]
        omega
  rcases key L 2 h ho with h | h
  · omega
  · subst h
    simp [-po_comp]
abbrev PR (x : Nat × Nat) : D := .tuple [.int (x.1 : Int), .int (x.2 : Int)]
theorem nlog {n : Nat} (h : n < 2 ^ 60) : n.log2 < 9000 := log2_s n (by omega)
end K61.F
namespace K61.F
open PySem Pu L2
/-! ### few primes -/
def pd : List Nat → Nat
  | [] => 1
  | x :: xs => x * pd xs
theorem pd_pos {xs : List Nat} (h : ∀ x ∈ xs, 1 ≤ x) : 1 ≤ pd xs := by
  induction xs with
  | nil => exact Nat.le_refl 1
  | cons x xs ih => exact Nat.mul_pos (h x (by simp [-po_comp])) (ih fun y hy => h y (by simp [-po_comp, hy]))
theorem pd_app (xs ys : List Nat) : pd (xs ++ ys) = pd xs * pd ys := by
  induction xs with
  | nil => simp [-po_comp, pd]
  | cons x xs ih => simp [-po_comp, pd, ih, Nat.mul_assoc]
theorem vp_pd {q : Nat} (hq : prm q) {xs : List Nat} (h : ∀ x ∈ xs, 1 ≤ x) : vp q (pd xs) = (xs.map (vp q)).sum := by
  induction xs with
  | nil => simp [-po_comp, pd, vp_one hq.1]
  | cons x xs ih =>
    rw [List.map_cons, List.sum_cons, ← ih fun y hy => h y (by simp [-po_comp, hy])]
    exact vp_mul hq (h x (by simp [-po_comp])) (pd_pos fun y hy => h y (by simp [-po_comp, hy]))
def fc : Nat → Nat
  | 0 => 1
  | n + 1 => (n + 1) * fc n
theorem pd_fc : ∀ (xs : List Nat) (lo : Nat), (∀ x ∈ xs, lo ≤ x) → xs.Pairwise (· < ·) → fc (lo - 1 + xs.length) ≤ fc (lo - 1) * pd xs ∨ lo = 0
  | [], lo, _, _ => .inl (by simp [-po_comp, pd])
  | x :: xs, lo, h, hp => by
    rcases Nat.eq_zero_or_pos lo with z | z
    · exact .inr z
    left
    rw [List.pairwise_cons] at hp
    have h1 := h x (by simp [-po_comp])
    rcases pd_fc xs (lo + 1) (fun y hy => by have := hp.1 y hy; omega) hp.2 with h2 | h2
    · rw [show lo + 1 - 1 = lo by omega] at h2
      have e1 : lo - 1 + (x :: xs).length = lo + xs.length := by simp [-po_comp]; omega
      rw [e1]
      have e2 : fc lo = lo * fc (lo - 1) := by
        obtain ⟨k, rfl⟩ : ∃ k, lo = k + 1 := ⟨lo - 1, by omega⟩
        rfl
      rw [e2] at h2
      have h3 : lo * fc (lo - 1) * pd xs ≤ x * fc (lo - 1) * pd xs := Nat.mul_le_mul_right _ (Nat.mul_le_mul_right _ h1)
      have e3 : x * fc (lo - 1) * pd xs = fc (lo - 1) * pd (x :: xs) := by
        simp only [pd, Nat.mul_assoc, Nat.mul_left_comm, Nat.mul_comm]
      omega
    · omega
theorem sum_one {q : Nat} : ∀ {ps : List Nat}, ps.Nodup → (∀ p ∈ ps, prm p) → prm q → (ps.map (vp q)).sum = if q ∈ ps then 1 else 0
  | [], _, _, _ => by simp [-po_comp]
  | p :: ps, hn, hp, hq => by
    rw [List.nodup_cons] at hn
    have ih := sum_one (q := q) hn.2 (fun x hx => hp x (by simp [-po_comp, hx])) hq
    rw [List.map_cons, List.sum_cons, ih]
    by_cases e : q = p
    · subst e
      have := vp_self hq.1 1
      rw [Nat.pow_one] at this
      rw [this, if_neg hn.1, if_pos (by simp [-po_comp])]
    · have := vp_other hq (hp p (by simp [-po_comp])) e 1
      rw [Nat.pow_one] at this
      rw [this]
      simp [-po_comp, e]
theorem few_primes {n : Nat} (hn : 1 ≤ n) (hn2 : n ≤ 10 ^ 6) {ps : List Nat} (h : ∀ p ∈ ps, prm p ∧ p ∣ n) (ho : ps.Pairwise (· < ·)) : ps.length ≤ 8 := by
  have hnd : ps.Nodup := ho.imp fun h => Nat.ne_of_lt h
  have hd : pd ps ∣ n := vp_le_dvd _ _ (pd_pos fun x hx => by have := (h x hx).1.1; omega) hn fun q hq => by
    rw [vp_pd hq fun x hx => by have := (h x hx).1.1; omega, sum_one hnd (fun p hp => (h p hp).1) hq]
    split
    · rename_i hm
      exact (vp_pos hq.1 hn).mpr (h q hm).2
    · omega
  have h1 := Nat.le_of_dvd (by omega) hd
  rcases pd_fc ps 2 (fun x hx => (h x hx).1.1) ho with h2 | h2
  · have h3 : fc (1 + ps.length) ≤ 10 ^ 6 := by
      have : fc (2 - 1) * pd ps = pd ps := by simp [-po_comp, fc]
      rw [show (2 : Nat) - 1 = 1 from rfl] at h2 this
      omega
    refine Classical.byContradiction fun z => ?_
    have h4 : ∀ k, fc 10 ≤ fc (10 + k) := by
      intro k
      induction k with
      | zero => exact Nat.le_refl _
      | succ k ih =>
        have : fc (10 + (k + 1)) = (10 + k + 1) * fc (10 + k) := rfl
        have h5 : 1 * fc (10 + k) ≤ (10 + k + 1) * fc (10 + k) := Nat.mul_le_mul_right _ (by omega)
        omega
    have h6 := h4 (ps.length - 9)
    rw [show 10 + (ps.length - 9) = 1 + ps.length by omega] at h6
    have : fc 10 = 3628800 := rfl
    omega
  · omega
theorem Fac.len {n : Nat} (hn : 1 ≤ n) (hn2 : n ≤ 10 ^ 6) {L : List (Nat × Nat)} (F : Fac n L) : L.length ≤ 8 := by
  have := few_primes hn hn2 (ps := L.map (·.1)) (fun p hp => by
    obtain ⟨x, hx, rfl⟩ := List.mem_map.mp hp
    exact ⟨(F.a x hx).1, (F.a x hx).2.1⟩) (by
    rw [List.pairwise_map]
    exact F.o)
  simpa using this
/-! ### a dict of lists -/
theorem vK_self (kvs : List (Key × D)) (k : Key) (d : D) : vK (pK kvs k d) k = some d := by
  unfold pK
  split
  · rename_i h
    unfold vK
    induction kvs with
    | nil => simp [-po_comp] at h
    | cons kv kvs ih =>
      rw [List.map_cons]
      by_cases e : kv.1 = k
      · rw [if_pos e, List.find?_cons_of_pos (by simpa using e)]
        rfl
      · rw [if_neg e, List.find?_cons_of_neg (by simpa using e)]
        exact ih (by simpa [e] using h)
  · rename_i h
    unfold vK
    rw [List.find?_append]
    have : kvs.find? (fun kv => decide (kv.1 = k)) = none := by
      rw [List.find?_eq_none]
      intro x hx z
      exact h (List.any_eq_true.mpr ⟨x, hx, z⟩)
    rw [this]
    simp [-po_comp]
theorem vK_map {k k' : Key} {d : D} (h : k' ≠ k) : ∀ kvs : List (Key × D), vK (kvs.map fun kv => if kv.1 = k then (kv.1, d) else kv) k' = vK kvs k' := by
  intro kvs
  unfold vK
  induction kvs with
  | nil => rfl
  | cons kv kvs ih =>
    rw [List.map_cons]
    by_cases e : kv.1 = k
    · rw [if_pos e, List.find?_cons_of_neg (by simp [-po_comp, e, Ne.symm h]), List.find?_cons_of_neg (by simp [-po_comp, e, Ne.symm h])]
      exact ih
    · rw [if_neg e]
      by_cases e2 : kv.1 = k'
      · rw [List.find?_cons_of_pos (by simpa using e2), List.find?_cons_of_pos (by simpa using e2)]
      · rw [List.find?_cons_of_neg (by simpa using e2), List.find?_cons_of_neg (by simpa using e2)]
        exact ih
theorem vK_ne {kvs : List (Key × D)} {k k' : Key} {d : D} (h : k' ≠ k) : vK (pK kvs k d) k' = vK kvs k' := by
  unfold pK
  split
  · exact vK_map h kvs
  · unfold vK
    rw [List.find?_append]
    cases hf : kvs.find? fun kv => decide (kv.1 = k') with
    | some x => simp [-po_comp]
    | none => simp [-po_comp, h, Ne.symm h]
theorem vK_none {kvs : List (Key × D)} {k : Key} (h : k ∉ kvs.map (·.1)) : vK kvs k = none := by
  unfold vK
  rw [List.find?_eq_none.mpr fun x hx z => h (List.mem_map.mpr ⟨x, hx, by simpa using z⟩)]
  rfl
theorem keys_in {kvs : List (Key × D)} {k : Key} {d : D} (h : k ∈ kvs.map (·.1)) : (pK kvs k d).map (·.1) = kvs.map (·.1) := by
  unfold pK
  have h1 : (kvs.any fun kv => decide (kv.1 = k)) = true := by
    obtain ⟨x, hx, e⟩ := List.mem_map.mp h
    exact List.any_eq_true.mpr ⟨x, hx, by simpa using e⟩
  rw [if_pos h1, List.map_map]
  apply List.map_congr_left
  intro x _
  simp only [Function.comp]
  split <;> rfl
theorem keys_new {kvs : List (Key × D)} {k : Key} {d : D} (h : k ∉ kvs.map (·.1)) : (pK kvs k d).map (·.1) = kvs.map (·.1) ++ [k] := by
  unfold pK
  rw [if_neg fun z => h (by
    obtain ⟨x, hx, z⟩ := List.any_eq_true.mp z
    exact List.mem_map.mpr ⟨x, hx, by simpa using z⟩)]
  simp [-po_comp]
/-! ### for each prime how often -/
structure Dk (kvs : List (Key × D)) (P : Nat → List Nat) : Prop where
  ex : ∃ ps : List Nat, kvs.map (·.1) = ps.map (fun p : Nat => (Sum.inl (p : Int) : Key)) ∧ ps.Nodup ∧ (∀ q ∈ ps, prm q ∧ P q ≠ [] ∧ ∃ es : List Nat, vK kvs (.inl (q : Int)) = some (.list (LN es)) ∧ es.Pairwise (· ≤ ·) ∧ es.Perm (P q)) ∧ ∀ q, prm q → P q ≠ [] → q ∈ ps
theorem isort_N (xs : List Nat) : ∃ ys : List Nat, isort (IN xs) = IN ys ∧ ys.Pairwise (· ≤ ·) ∧ ys.Perm xs := by
  have h1 := isort_perm (IN xs)
  have h2 := isort_pw (IN xs)
  have hnn : ∀ z ∈ isort (IN xs), 0 ≤ z := fun z hz => by
    obtain ⟨x, _, rfl⟩ := List.mem_map.mp (h1.mem_iff.mp hz)
    omega
  obtain ⟨ys, hy⟩ := toNs _ hnn
  rw [hy] at h1 h2
  refine ⟨ys, hy, ?_, ?_⟩
  · rw [List.pairwise_map] at h2
    exact h2.imp fun h => by omega
  · have := h1.map Int.toNat
    rw [List.map_map, List.map_map] at this
    have e : ∀ zs : List Nat, zs.map (Int.toNat ∘ fun n : Nat => (n : Int)) = zs := fun zs => by
      conv => rhs; rw [← List.map_id zs]
      apply List.map_congr_left
      intro z _
      simp [-po_comp]
    rw [e, e] at this
    exact this
theorem inl_inj {p q : Nat} : ((Sum.inl (p : Int) : Key) = .inl (q : Int)) ↔ p = q := by
  constructor
  · intro h
    cases h
    rfl
  · intro h
    rw [h]
theorem Dk.get {kvs : List (Key × D)} {P : Nat → List Nat} (H : Dk kvs P) {p : Nat} (hp : prm p) : ∃ es : List Nat, (vK kvs (.inl (p : Int))).getD (.list []) = .list (LN es) ∧ es.Perm (P p) := by
  obtain ⟨ps, hk, hn, h1, h2⟩ := H.ex
  by_cases h : p ∈ ps
  · obtain ⟨_, _, es, e1, _, e3⟩ := h1 p h
    exact ⟨es, by rw [e1]; rfl, e3⟩
  · have : vK kvs (.inl (p : Int)) = none := vK_none fun z => by
      rw [hk] at z
      obtain ⟨x, hx, e⟩ := List.mem_map.mp z
      rw [inl_inj.mp e] at hx
      exact h hx
    rw [this]
    refine ⟨[], rfl, ?_⟩
    have : P p = [] := Classical.byContradiction fun z => h (h2 p hp z)
    rw [this]
theorem Dk.put {kvs : List (Key × D)} {P : Nat → List Nat} (H : Dk kvs P) {p e : Nat} (hp : prm p) {es : List Nat} (h1 : es.Pairwise (· ≤ ·)) (h2 : es.Perm (P p ++ [e])) : Dk (pK kvs (.inl (p : Int)) (.list (LN es))) (fun q => if q = p then P p ++ [e] else P q) := by
  obtain ⟨ps, hk, hn, a1, a2⟩ := H.ex
  have hmem : (Sum.inl (p : Int) : Key) ∈ kvs.map (·.1) ↔ p ∈ ps := by
    rw [hk]
    constructor
    · intro z
      obtain ⟨x, hx, e⟩ := List.mem_map.mp z
      rw [inl_inj.mp e] at hx
      exact hx
    · intro z
      exact List.mem_map.mpr ⟨p, z, rfl⟩
  have val : ∀ q, q ≠ p → vK (pK kvs (.inl (p : Int)) (.list (LN es))) (.inl (q : Int)) = vK kvs (.inl (q : Int)) := fun q hq => vK_ne fun z => hq (inl_inj.mp z)
  have old : ∀ q ∈ ps, prm q ∧ (if q = p then P p ++ [e] else P q) ≠ [] ∧ ∃ fs : List Nat, vK (pK kvs (.inl (p : Int)) (.list (LN es))) (.inl (q : Int)) = some (.list (LN fs)) ∧ fs.Pairwise (· ≤ ·) ∧ fs.Perm (if q = p then P p ++ [e] else P q) := by
    intro q hq
    by_cases e1 : q = p
    · subst e1
      rw [if_pos rfl]
      exact ⟨hp, by simp, es, vK_self _ _ _, h1, h2⟩
    · rw [if_neg e1, val q e1]
      exact a1 q hq
  by_cases hm : p ∈ ps
  · refine ⟨⟨ps, ?_, hn, old, fun q hq hne => ?_⟩⟩
    · rw [keys_in (hmem.mpr hm), hk]
    · by_cases e1 : q = p
      · rw [e1]; exact hm
      · rw [if_neg e1] at hne
        exact a2 q hq hne
  · refine ⟨⟨ps ++ [p], ?_, ?_, fun q hq => ?_, fun q hq hne => ?_⟩⟩
    · rw [keys_new (fun z => hm (hmem.mp z)), hk]
      simp [-po_comp]
    · rw [List.nodup_append]
      refine ⟨hn, by simp, fun x hx y hy => ?_⟩
      rw [List.mem_singleton.mp hy]
      intro z
      rw [z] at hx
      exact hm hx
    · rw [List.mem_append] at hq
      rcases hq with hq | hq
      · exact old q hq
      · rw [List.mem_singleton.mp hq, if_pos rfl]
        exact ⟨hp, by simp, es, vK_self _ _ _, h1, h2⟩
    · by_cases e1 : q = p
      · rw [e1]; simp [-po_comp]
      · rw [if_neg e1] at hne
        exact List.mem_append_left _ (a2 q hq hne)
theorem Dk.cong {kvs : List (Key × D)} {P Q : Nat → List Nat} (H : Dk kvs P) (h : ∀ q, prm q → P q = Q q) : Dk kvs Q := by
  obtain ⟨ps, hk, hn, a1, a2⟩ := H.ex
  refine ⟨⟨ps, hk, hn, fun q hq => ?_, fun q hq hne => a2 q hq (by rw [h q hq]; exact hne)⟩⟩
  have := a1 q hq
  rw [h q this.1] at this
  exact this
end K61.F
namespace K61.F
open PySem Pu L2
/-! ### by primes -/
structure BP (hs : List Nat) (B : List (Nat × List Nat)) : Prop where
  a : ∀ x ∈ B, prm x.1 ∧ x.2.Pairwise (· ≤ ·) ∧ x.2.Perm (PV x.1 hs) ∧ PV x.1 hs ≠ []
  c : ∀ q, prm q → PV q hs ≠ [] → ∃ es, (q, es) ∈ B
  o : B.Pairwise fun x y => x.1 < y.1
abbrev BD (x : Nat × List Nat) : D := .tuple [.int (x.1 : Int), N x.2]
theorem pv_one {q o : Nat} (hq : prm q) (ho : 1 ≤ o) {L : List (Nat × Nat)} (F : Fac o L) : (L.filter fun x => decide (x.1 = q)).map (·.2) = PV q [o] := by
  classical
  have key : ∀ L : List (Nat × Nat), (∀ x ∈ L, prm x.1 ∧ x.1 ∣ o ∧ x.2 = vp x.1 o) → L.Pairwise (fun x y => x.1 < y.1) → (L.filter fun x => decide (x.1 = q)).map (·.2) = if (∃ e, (q, e) ∈ L) then [vp q o] else [] := by
    intro L
    induction L with
    | nil => intro _ _; simp [-po_comp]
    | cons x L ih =>
      intro h hp
      rw [List.pairwise_cons] at hp
      have ih := ih (fun y hy => h y (by simp [-po_comp, hy])) hp.2
      by_cases e : x.1 = q
      · rw [List.filter_cons_of_pos (by simpa using e)]
        have no : ¬ ∃ e, (q, e) ∈ L := by
          rintro ⟨e', he⟩
          have := hp.1 _ he
          simp [-po_comp] at this
          omega
        rw [List.map_cons, ih, if_neg no, if_pos ⟨x.2, by rw [← e]; simp⟩]
        have := (h x (by simp [-po_comp])).2.2
        rw [this, e]
      · rw [List.filter_cons_of_neg (by simpa using e), ih]
        have : (∃ e, (q, e) ∈ x :: L) ↔ ∃ e, (q, e) ∈ L := by
          constructor
          · rintro ⟨e', he⟩
            rcases List.mem_cons.mp he with z | z
            · rw [← z] at e
              exact absurd rfl e
            · exact ⟨e', z⟩
          · rintro ⟨e', he⟩
            exact ⟨e', List.mem_cons_of_mem _ he⟩
        simp only [this]
  rw [key L F.a F.o]
  unfold PV
  by_cases hd : q ∣ o
  · rw [if_pos (F.c q hq hd)]
    have := (vp_pos hq.1 ho).mpr hd
    simp [-po_comp, this]
  · have : ¬ ∃ e, (q, e) ∈ L := by
      rintro ⟨e, he⟩
      exact hd (F.a _ he).2.1
    rw [if_neg this]
    simp [-po_comp, vp_no hd]
end K61.F
namespace K61.F
open PySem Pu L2
theorem power_ok {X : Exn → En → Prop} {p e : Nat} (hp : p ≤ 10 ^ 6) (he : e ≤ 10 ^ 6) : Wp X (m_power [.v (.int (p : Int)), .v (.int (e : Int))]) fun rv _ => rv = .v (.int ((p ^ e : Nat) : Int)) := by
  refine po_fnK fun Y K hY hK _ => ?_
  unfold b_power
  refine po_step fun K1 h1 _ _ _ => ?_
  simp [-po_comp]
  refine h1 _ ?_
  refine po_step fun K2 h2 _ _ _ => ?_
  simp [-po_comp]
  refine ⟨by omega, ?_⟩
  refine po_rngK (fun i r => ∃ s, r = [.v (.int (p : Int)), .v (.int (e : Int)), .v (.int ((p ^ i : Nat) : Int)), s] ∧ s.isIo = false) _ _ ⟨.unk, by simp, rfl⟩ ?_ ?_
  · rintro i r hi ⟨s, rfl, qs⟩
    refine ⟨[.v (.int (p : Int)), .v (.int (e : Int)), .v (.int ((p ^ i : Nat) : Int)), .v (.int (i : Int))], by simp [-po_comp, qs], fun K3 h3 _ _ _ => ?_⟩
    have hm : mulOk ((p ^ i : Nat) : Int) (p : Int) := mulOk_r ⟨by omega, by omega⟩
    rw [Int.natCast_pow] at hm
    simp [-po_comp]
    refine ⟨hm, h3 _ ⟨.v (.int (i : Int)), ?_, rfl⟩⟩
    simp [-po_comp, Int.pow_succ]
  · rintro r ⟨s, rfl, qs⟩
    refine h2 _ ?_
    simp [-po_comp]
    exact hK _ _ _ rfl (by simp [-po_comp])
theorem often_ok {X : Exn → En → Prop} {m b : Nat} (hm : 1 ≤ m) (hm2 : m ≤ 10 ^ 6) (hb : 2 ≤ b) (hb2 : b ≤ 10 ^ 6) : Wp X (m_how_often [.v (.int (m : Int)), .v (.int (b : Int))]) fun rv _ => ∃ e m' : Nat, rv = .v (.int (e : Int)) ∧ m = b ^ e * m' ∧ ¬ b ∣ m' ∧ 1 ≤ m' := by
  refine po_fnK fun Y K hY hK _ => ?_
  unfold b_how_often
  refine po_step fun K1 h1 _ _ _ => ?_
  simp [-po_comp]
  refine h1 _ ?_
  refine po_step fun K2 h2 _ _ _ => ?_
  refine po_while (fun t r => ∃ (m' e : Nat), r = [.v (.int m'), .v (.int b), .v (.int e)] ∧ 1 ≤ m' ∧ m = b ^ e * m' ∧ t = m') ?_ m _ ⟨m, 0, rfl, hm, by simp, rfl⟩
  rintro t r ⟨m', e, rfl, hm', em, ht⟩
  rw [ht]
  clear ht
  have hmle : m' ≤ m := by
    have : m' ∣ m := ⟨b ^ e, by rw [em, Nat.mul_comm]⟩
    exact Nat.le_of_dvd (by omega) this
  have hb0 : ¬ b = 0 := by omega
  simp [-po_comp, fmod_nat, hb0]
  have hdec2 : ((m' : Int) % (b : Int) = 0) ↔ m' % b = 0 := by
    rw [← Int.natCast_emod]
    omega
  simp only [hdec2]
  by_cases hd : m' % b = 0
  · rw [if_pos hd]
    obtain ⟨c, rfl⟩ := Nat.dvd_of_mod_eq_zero hd
    have hc1 : 1 ≤ c := by
      rcases Nat.eq_zero_or_pos c with z | z
      · subst z; simp [-po_comp] at hm'
      · exact z
    have hlt : c < b * c := by
      have : 2 * c ≤ b * c := Nat.mul_le_mul_right _ hb
      omega
    have ec : ((b : Int) * (c : Int)).fdiv (b : Int) = (c : Int) := by
      rw [← Int.natCast_mul, fdiv_nat, Nat.mul_div_cancel_left _ (by omega)]
    simp [-po_comp, po_seq, hb0, nlog (n := b) (by omega), ec]
    exact ⟨c, hlt, c, e + 1, ⟨rfl, by simp⟩, hc1, by rw [em, Nat.pow_succ, Nat.mul_assoc], rfl⟩
  · rw [if_neg hd]
    refine h2 _ ?_
    simp [-po_comp]
    exact hK _ _ _ rfl ⟨e, m', rfl, em, fun z => hd (Nat.mod_eq_zero_of_dvd z), hm'⟩
theorem primes_ok {X : Exn → En → Prop} {n : Nat} (hn : 1 ≤ n) (hn2 : n ≤ 10 ^ 6) : Wp X (m_primes_of [.v (.int n)]) fun rv _ => ∃ L, rv = .o (.l (L.map PR)) ∧ Fac n L := by
  refine po_fnK fun Y K hY hK _ => ?_
  unfold b_primes_of
  refine po_step fun K1 h1 _ _ _ => ?_
  simp [-po_comp]
  refine h1 _ ?_
  refine po_step fun K2 h2 _ _ _ => ?_
  simp [-po_comp]
  refine h2 _ ?_
  refine po_step fun K2b h2b _ _ _ => ?_
  simp [-po_comp]
  refine h2b _ ?_
  refine po_step fun K3 h3 _ _ _ => ?_
  refine po_while (fun t r => ∃ (m b : Nat) (L : List (Nat × Nat)) (s : Sl), r = [.v (.int n), .o (.l (L.map PR)), .v (.int m), .v (.int b), s] ∧ s.isIo = false ∧ 2 ≤ b ∧ b ≤ n + 1 ∧ m ≤ n ∧ FacB n m b L ∧ t = n + 1 - b) ?_ (n + 1 - 2) _ ⟨n, 2, [], .unk, rfl, rfl, by omega, by omega, Nat.le_refl _, facB_0 hn, rfl⟩
  rintro t r ⟨m, b, L, s, rfl, qs, hb, hbn, hmn, F, rfl⟩
  have hm1 : mulOk (b : Int) (b : Int) := mulOk_l ⟨by omega, by omega⟩
  have hle : ((b : Int) * (b : Int) ≤ (m : Int)) ↔ b * b ≤ m := by
    rw [← Int.natCast_mul]
    exact Int.ofNat_le
  have hLl : L.length ≤ n := fac_len hn (fun x hx => ⟨(F.a x hx).1.1, Nat.le_of_dvd (by omega) (F.a x hx).2.1⟩) F.o
  simp [-po_comp, hm1, hle]
  by_cases hc : b * b ≤ m
  · rw [if_pos hc]
    have hbm : b ≤ m := by
      have : 2 * b ≤ b * b := Nat.mul_le_mul_right _ hb
      omega
    rw [po_seq]
    simp [-po_comp]
    refine po_mono (often_ok F.m1 (by omega) hb (by omega)) ?_
    rintro _ _ ⟨e, m', rfl, em, hnd, hm'⟩
    simp [-po_comp, qs]
    have S := facB_step hn hb F em hnd
    have hmle : m' ≤ m := by
      have : m' ∣ m := ⟨b ^ e, by rw [em, Nat.mul_comm]⟩
      exact Nat.le_of_dvd (by have := F.m1; omega) this
    rw [po_seq]
    by_cases he : 0 < e
    · simp [-po_comp, he]
      rw [po_seq]
      simp [-po_comp]
      refine ⟨by omega, ?_⟩
      have hpw : 1 ≤ b ^ e := Nat.pow_pos (by omega)
      have hpl : b ^ e ≤ m := by
        rw [em]
        exact Nat.le_mul_of_pos_right _ hm'
      have hel : e ≤ 10 ^ 6 := by
        have : e < b ^ e := Nat.lt_pow_self (by omega)
        omega
      refine po_mono (power_ok (by omega) hel) ?_
      rintro _ _ rfl
      have ed : (m : Int).fdiv ((b ^ e : Nat) : Int) = (m' : Int) := by
        rw [fdiv_nat, em, Nat.mul_div_cancel_left _ hpw]
      have h0 : ¬ ((b ^ e : Nat) : Int) = 0 := by omega
      have hlog : ((b ^ e : Nat) : Int).natAbs.log2 < 9000 := by
        have : ((b ^ e : Nat) : Int).natAbs = b ^ e := by simp [-po_comp]
        rw [this]
        exact nlog (by omega)
      rw [data_v, M.opt_some, po_ok, po_fdivL, ed]
      refine ⟨h0, ?_⟩
      simp [-po_comp]
      rw [if_pos he] at S
      exact ⟨n + 1 - (b + 1), by omega, m', b + 1, L ++ [(b, e)], ⟨_, by simp [-po_comp]; rfl, rfl, by omega, by omega, by omega, S, rfl⟩⟩
    · simp [-po_comp, he]
      rw [if_neg he] at S
      have e0 : e = 0 := by omega
      subst e0
      rw [Nat.pow_zero, Nat.one_mul] at em
      subst em
      exact ⟨n + 1 - (b + 1), by omega, m, b + 1, L, ⟨_, by simp [-po_comp]; rfl, rfl, by omega, by omega, hmn, S, rfl⟩⟩
  · rw [if_neg hc]
    refine h3 _ ?_
    have E := facB_end hn hb F (by omega)
    refine po_step fun K4 h4 _ _ _ => ?_
    by_cases hm : 1 < m
    · rw [if_pos hm] at E
      simp [-po_comp, show (1 : Int) < (m : Int) by omega]
      refine ⟨by omega, h4 _ ?_⟩
      simp [-po_comp]
      exact hK _ _ _ rfl ⟨_, by simp, E⟩
    · rw [if_neg hm] at E
      simp [-po_comp, show ¬ (1 : Int) < (m : Int) by omega]
      refine h4 _ ?_
      simp [-po_comp]
      exact hK _ _ _ rfl ⟨_, rfl, E⟩
theorem sortAL_N (xs : List Nat) : ∃ ys : List Nat, sortAL [.list (LN xs)] = some (LN ys) ∧ ys.Pairwise (· ≤ ·) ∧ ys.Perm xs := by
  classical
  have pw : (xs.mergeSort fun a b => decide (a ≤ b)).Pairwise (· ≤ ·) := (List.pairwise_mergeSort (fun a b c h1 h2 => by
      have h1 := of_decide_eq_true h1
      have h2 := of_decide_eq_true h2
      exact decide_eq_true (Nat.le_trans h1 h2)) (fun a b => by
      rcases Nat.le_total a b with h | h
      · simp [-po_comp, h]
      · simp [-po_comp, h]) xs).imp fun h => of_decide_eq_true h
  refine ⟨xs.mergeSort fun a b => decide (a ≤ b), ?_, pw, List.mergeSort_perm xs _⟩
  show cI ((LN xs).length ≤ 1) (some (LN xs)) (cI (PySem.W.AllAlike (LN xs) ∧ PySem.W.Sortable (LN xs) ∧ ∀ d ∈ LN xs, SeqAt.shaped d = true) (some ((LN xs).mergeSort (PySem.W.dataLe false id))) none) = _
  rw [cI_eq]
  by_cases h1 : (LN xs).length ≤ 1
  · rw [if_pos h1]
    match xs, h1 with
    | [], _ => simp [-po_comp]
    | [a], _ => simp [-po_comp]
    | _ :: _ :: _, h1 => simp [-po_comp] at h1
  · rw [if_neg h1, cI_eq, if_pos]
    · have e : (fun a b : Nat => decide (a ≤ b)) = PySem.W.dataLe false fun a : Nat => PyData.int (a : Int) := by
        rw [PySem.W.dataLe_int]
        funext a b
        rw [Bool.eq_iff_iff, decide_eq_true_eq, decide_eq_true_eq]
        omega
      rw [e, ← List.map_mergeSort (r := PySem.W.dataLe false fun a : Nat => PyData.int (a : Int)) (s := PySem.W.dataLe false id) (f := fun a : Nat => PyData.int (a : Int)) (l := xs) fun a _ b _ => rfl]
    · refine ⟨fun d hd d' hd' => ?_, .inr fun d hd => ?_, fun d hd => ?_⟩
      · obtain ⟨a, _, rfl⟩ := List.mem_map.mp hd
        obtain ⟨b, _, rfl⟩ := List.mem_map.mp hd'
        rfl
      · obtain ⟨a, _, rfl⟩ := List.mem_map.mp hd
        exact ⟨(fun e => nomatch e), (fun _ e => nomatch e)⟩
      · obtain ⟨a, _, rfl⟩ := List.mem_map.mp hd
        rfl
theorem pby_ok {X : Exn → En → Prop} {hs : List Nat} (hl : hs.length ≤ 6) (hh : ∀ h ∈ hs, 1 ≤ h ∧ h ≤ 10 ^ 6) : Wp X (m_by_primes [.v (N hs)]) fun rv _ => ∃ B, rv = .o (.l (B.map BD)) ∧ BP hs B := by
  refine po_fnK fun Y K hY hK _ => ?_
  unfold b_by_primes
  refine po_step fun K1 h1 _ _ _ => ?_
  simp [-po_comp]
  refine h1 _ ?_
  refine po_step fun K2 h2 _ _ _ => ?_
  simp [-po_comp]
  refine po_forK (f := fun n : Nat => PyData.int (n : Int)) (fun done r => ∃ (kvs : List (Key × D)) (s2 s3 s4 : Sl), r = [.v (N hs), .o (.d kvs), s2, s3, s4] ∧ s2.isIo = false ∧ s3.isIo = false ∧ s3.own = none ∧ s4.isIo = false ∧ Dk kvs (fun q => PV q done) ∧ kvs.length ≤ 8 * done.length) hs _ ⟨[], .unk, .unk, .unk, rfl, rfl, rfl, rfl, rfl, ⟨⟨[], rfl, by simp, by simp, fun q _ h => absurd rfl h⟩⟩, by simp⟩ ?_ ?_
  · rintro done o rest r e ⟨kvs, s2, s3, s4, rfl, q2, q3, q3o, q4, H, hkl⟩
    have ho := hh o (by rw [e]; simp [-po_comp])
    have hdl : done.length < hs.length := by rw [e]; simp [-po_comp]
    refine ⟨[.v (N hs), .o (.d kvs), .v (.int (o : Int)), s3, s4], by simp [-po_comp, q2], fun K3 h3 _ _ _ => ?_⟩
    simp [-po_comp]
    refine po_mono (primes_ok ho.1 ho.2) ?_
    rintro _ _ ⟨L, rfl, F⟩
    have hLl := F.len ho.1 ho.2
    simp [-po_comp]
    refine po_forK (f := PR) (fun dn r => ∃ (kvs : List (Key × D)) (s3 s4 : Sl), r = [.v (N hs), .o (.d kvs), .v (.int (o : Int)), s3, s4] ∧ s3.isIo = false ∧ s3.own = none ∧ s4.isIo = false ∧ Dk kvs (fun q => PV q done ++ (dn.filter fun x => decide (x.1 = q)).map (·.2)) ∧ kvs.length ≤ 8 * done.length + dn.length) L _ ⟨kvs, s3, s4, rfl, q3, q3o, q4, by simpa using H, by simpa using hkl⟩ ?_ ?_
    · rintro dn ⟨p, ex⟩ rs r e2 ⟨kvs, s3, s4, rfl, q3, q3o, q4, H, hkl⟩
      have hp := (F.a (p, ex) (by rw [e2]; simp [-po_comp])).1
      simp only at hp
      have hdn : dn.length < L.length := by rw [e2]; simp [-po_comp]
      refine ⟨[.v (N hs), .o (.d kvs), .v (.int (o : Int)), .v (.int (p : Int)), .v (.int (ex : Int))], by simp [-po_comp, q3, q4], fun K4 h4 _ _ _ => ?_⟩
      obtain ⟨es, g1, g2⟩ := H.get hp
      obtain ⟨ys, t1, t2, t3⟩ := sortAL_N (es ++ [ex])
      have hes : es.length ≤ 16000 := by
        have := g2.length_eq
        have a1 := pv_len p done
        have a2 := List.length_filter_le (fun x : Nat × Nat => decide (x.1 = p)) dn
        simp only [List.length_append, List.length_map] at this
        omega
      have t1' : sortAL [.list (List.map (fun n : Nat => PyData.int (n : Int)) es ++ [.int (ex : Int)])] = some (LN ys) := by rw [← t1]; simp [-po_comp]
      simp [-po_comp, g1, t1']
      refine ⟨by omega, ?_⟩
      have hk2 : kvs.length < 16777216 := by omega
      simp [-po_comp, hk2]
      have P2 := H.put (e := ex) hp t2 (t3.trans (g2.append_right _))
      refine h4 _ ⟨_, _, _, rfl, rfl, rfl, rfl, P2.cong fun q hq => ?_, ?_⟩
      · by_cases eq : q = p
        · subst eq
          simp [-po_comp]
        · simp [-po_comp, eq, Ne.symm eq]
      · have hle : (pK kvs (.inl (p : Int)) (.list (LN ys))).length ≤ kvs.length + 1 := by
          unfold pK
          split <;> simp [-po_comp]
        simp [-po_comp]
        omega
    · rintro r ⟨kvs, s3, s4, rfl, q3, q3o, q4, H, hkl⟩
      refine h3 _ ⟨kvs, .v (.int (o : Int)), s3, s4, rfl, rfl, q3, q3o, q4, H.cong fun q hq => ?_, ?_⟩
      · rw [pv_one hq ho.1 F, PV_app]
      · simp [-po_comp]
        omega
  · rintro r ⟨kvs, s2, s3, s4, rfl, q2, q3, q3o, q4, H, hkl⟩
    refine h2 _ ?_
    obtain ⟨ps, hk, hn, a1, a2⟩ := H.ex
    obtain ⟨qs, t1, t2, t3⟩ := isort_N ps
    have hpl : ps.length = kvs.length := by
      have := congrArg List.length hk
      simpa using this.symm
    have ik : intKs (kvs.map (·.1)) = some (IN ps) := by
      rw [hk]
      have := intKs_mp (IN ps)
      rw [List.map_map] at this
      exact this
    have lt64 : (IN ps).length < 64 := by rw [List.length_map]; omega
    classical
    have hf : ∀ q ∈ qs, ∃ es : List Nat, vK kvs (.inl (q : Int)) = some (.list (LN es)) ∧ es.Pairwise (· ≤ ·) ∧ es.Perm (PV q hs) := fun q hq => (a1 q (t3.mem_iff.mp hq)).2.2
    let f : Nat → List Nat := fun q => if h : ∃ es : List Nat, vK kvs (.inl (q : Int)) = some (.list (LN es)) ∧ es.Pairwise (· ≤ ·) ∧ es.Perm (PV q hs) then Classical.choose h else []
    have hfq : ∀ q ∈ qs, vK kvs (.inl (q : Int)) = some (.list (LN (f q))) ∧ (f q).Pairwise (· ≤ ·) ∧ (f q).Perm (PV q hs) := fun q hq => by
      have h := hf q hq
      have : f q = Classical.choose h := dif_pos h
      rw [this]
      exact Classical.choose_spec h
    rw [sRet_ap, po_bind]
    refine po_LC1 (fun q : Nat => .int (q : Int)) (fun q : Nat => BD (q, f q)) qs ?_ ?_ ?_ ?_ ?_
    · simp [-po_comp, ik, lt64, t1]
      omega
    · simp [-po_comp, q3o]
    · have := t3.length_eq
      omega
    · intro q hq
      have := hfq q hq
      simp [-po_comp, this.1]
    rw [po_ok]
    refine hK _ _ _ rfl ⟨qs.map fun q => (q, f q), by simp, ⟨fun x hx => ?_, fun q hq hne => ?_, ?_⟩⟩
    · obtain ⟨q, hq, rfl⟩ := List.mem_map.mp hx
      have h3 := hfq q hq
      have h4 := a1 q (t3.mem_iff.mp hq)
      exact ⟨h4.1, h3.2.1, h3.2.2, h4.2.1⟩
    · exact ⟨f q, List.mem_map.mpr ⟨q, t3.mem_iff.mpr (a2 q hq hne), rfl⟩⟩
    · rw [List.pairwise_map]
      have hnd : qs.Nodup := t3.nodup_iff.mpr hn
      have h5 := t2.and hnd
      exact h5.imp fun {a b} h => by
        have h6 := h.1
        have h7 : a ≠ b := h.2
        show a < b
        omega
end K61.F
namespace K61.F
open PySem Pu L2
theorem strict_uniq : ∀ {l m : List (Nat × List Nat)}, l.Pairwise (fun x y => x.1 < y.1) → m.Pairwise (fun x y => x.1 < y.1) → (∀ x, x ∈ l ↔ x ∈ m) → l = m
  | [], [], _, _, _ => rfl
  | [], y :: m, _, _, h => by have := (h y).mpr (by simp); cases this
  | x :: l, [], _, _, h => by have := (h x).mp (by simp); cases this
  | x :: l, y :: m, h1, h2, h => by
    rw [List.pairwise_cons] at h1 h2
    have e : x = y := by
      rcases List.mem_cons.mp ((h x).mp (by simp)) with e | e
      · exact e
      · rcases List.mem_cons.mp ((h y).mpr (by simp)) with e2 | e2
        · exact e2.symm
        · have a := h2.1 x e
          have b := h1.1 y e2
          omega
    subst e
    have ih := strict_uniq h1.2 h2.2 fun z => by
      constructor
      · intro hz
        rcases List.mem_cons.mp ((h z).mp (by simp [hz])) with e | e
        · subst e
          have := h1.1 z hz
          omega
        · exact e
      · intro hz
        rcases List.mem_cons.mp ((h z).mpr (by simp [hz])) with e | e
        · subst e
          have := h2.1 z hz
          omega
        · exact e
    rw [ih]
theorem BP.uniq {hs gs : List Nat} {A B : List (Nat × List Nat)} (h1 : BP hs A) (h2 : BP gs B) (hp : ∀ q, prm q → (PV q hs).Perm (PV q gs)) : A = B := by
  have key : ∀ {hs gs : List Nat} {A B : List (Nat × List Nat)}, BP hs A → BP gs B → (∀ q, prm q → (PV q hs).Perm (PV q gs)) → ∀ x ∈ A, x ∈ B := by
    intro hs gs A B h1 h2 hp x hx
    obtain ⟨a1, a2, a3, a4⟩ := h1.a x hx
    have hne : PV x.1 gs ≠ [] := by
      intro z
      have := hp x.1 a1
      rw [z] at this
      exact a4 (List.perm_nil.mp this)
    obtain ⟨es, he⟩ := h2.c x.1 a1 hne
    obtain ⟨b1, b2, b3, b4⟩ := h2.a _ he
    have e : x.2 = es := pw_uniqN a2 b2 (a3.trans ((hp x.1 a1).trans b3.symm))
    have : x = (x.1, es) := by rw [← e]
    rw [this]
    exact he
  exact strict_uniq h1.o h2.o fun x => ⟨key h1 h2 hp x, key h2 h1 (fun q hq => (hp q hq).symm) x⟩
end K61.F
namespace K61.F
open PySem Pu L2
/-! ### turnings of one prime, plain -/
def lss (es : List Nat) (e : Nat) : Nat := (es.filter fun x => decide (x < e)).length
def upt (es : List Nat) (e : Nat) : Nat := (es.filter fun x => decide (x ≤ e)).length
def mn (es fs : List Nat) : Nat := (es.map fun a => (fs.map fun b => min a b).sum).sum
def Kl : List Nat → List Nat
  | [] => []
  | e :: t => (t.count e + 1) :: Kl t
/-- the factor of a place -/
def fct (p : Nat) (es : List Nat) (x : Nat × Nat) : Nat := (p ^ upt es x.1 - p ^ x.2) * p ^ (x.1 * (es.length - upt es x.1) + (x.1 - 1) * (es.length - lss es x.1))
def mop (p : Nat) (es : List Nat) : Nat := pd ((es.zipIdx 0).map (fct p es))
theorem upt_le (es : List Nat) (e : Nat) : upt es e ≤ es.length := List.length_filter_le _ _
theorem lss_le (es : List Nat) (e : Nat) : lss es e ≤ es.length := List.length_filter_le _ _
theorem sum_le {α : Type} {f g : α → Nat} : ∀ {l : List α}, (∀ x ∈ l, f x = g x) → (l.map f).sum = (l.map g).sum := fun {l} h => by rw [List.map_congr_left h]
theorem sum_add {α : Type} (f g : α → Nat) : ∀ l : List α, (l.map fun x => f x + g x).sum = (l.map f).sum + (l.map g).sum
  | [] => rfl
  | x :: l => by
    simp only [List.map_cons, List.sum_cons]
    rw [sum_add f g l]
    omega
theorem sum_swap {α β : Type} (f : α → β → Nat) : ∀ (l : List α) (m : List β), (l.map fun a => (m.map fun b => f a b).sum).sum = (m.map fun b => (l.map fun a => f a b).sum).sum
  | [], m => by
    induction m with
    | nil => rfl
    | cons x m ih => simpa using ih
  | x :: l, m => by
    simp only [List.map_cons, List.sum_cons]
    rw [sum_swap f l m, ← sum_add]
theorem sum_ind (p : Nat → Prop) [DecidablePred p] : ∀ l : List Nat, (l.map fun x => if p x then 1 else 0).sum = (l.filter fun x => decide (p x)).length
  | [] => rfl
  | x :: l => by
    rw [List.map_cons, List.sum_cons, sum_ind p l, List.filter_cons]
    by_cases h : p x
    · simp [h]; omega
    · simp [h]
theorem sum_mulI (p : Nat → Prop) [DecidablePred p] (c : Nat) : ∀ l : List Nat, (l.map fun x => if p x then c else 0).sum = c * (l.filter fun x => decide (p x)).length
  | [] => by simp
  | x :: l => by
    rw [List.map_cons, List.sum_cons, sum_mulI p c l, List.filter_cons]
    by_cases h : p x
    · simp [h, Nat.mul_add]; omega
    · simp [h]
theorem gt_len (es : List Nat) (e : Nat) : (es.filter fun x => decide (e < x)).length = es.length - upt es e := by
  unfold upt
  induction es with
  | nil => rfl
  | cons x es ih =>
    have := List.length_filter_le (fun x => decide (x ≤ e)) es
    rw [List.filter_cons, List.filter_cons]
    by_cases h : e < x
    · have h2 : ¬ x ≤ e := by omega
      simp [h, h2]
      omega
    · have h2 : x ≤ e := by omega
      simp [h, h2]
      omega
theorem ge_len (es : List Nat) (e : Nat) : (es.filter fun x => decide (e ≤ x)).length = es.length - lss es e := by
  unfold lss
  induction es with
  | nil => rfl
  | cons x es ih =>
    have := List.length_filter_le (fun x => decide (x < e)) es
    rw [List.filter_cons, List.filter_cons]
    by_cases h : e ≤ x
    · have h2 : ¬ x < e := by omega
      simp [h, h2]
      omega
    · have h2 : x < e := by omega
      simp [h, h2]
      omega
theorem mn_eq (es : List Nat) : mn es es = (es.map fun e => e * (es.length - upt es e)).sum + (es.map fun e => e * (es.length - lss es e)).sum := by
  have h1 : mn es es = (es.map fun a => (es.map fun b => (if a < b then a else 0) + (if b ≤ a then b else 0)).sum).sum := by
    unfold mn
    refine sum_le fun a _ => sum_le fun b _ => ?_
    by_cases h : a < b
    · rw [if_pos h, if_neg (by omega)]
      omega
    · rw [if_neg h, if_pos (by omega)]
      omega
  have h2 : ∀ a : Nat, (es.map fun b => (if a < b then a else 0) + (if b ≤ a then b else 0)).sum = a * (es.length - upt es a) + (es.map fun b => if b ≤ a then b else 0).sum := fun a => by
    rw [sum_add, sum_mulI (fun b => a < b) a es, gt_len]
  rw [h1, sum_le fun a _ => h2 a, sum_add]
  congr 1
  rw [sum_swap (fun a b => if b ≤ a then b else 0) es es]
  refine sum_le fun b _ => ?_
  rw [sum_mulI (fun a => b ≤ a) b es, ge_len]
theorem upt_sum (es : List Nat) : (es.map fun e => upt es e).sum = (es.map fun e => es.length - lss es e).sum := by
  have h1 : ∀ e, upt es e = (es.map fun x => if x ≤ e then 1 else 0).sum := fun e => (sum_ind (fun x => x ≤ e) es).symm
  have h2 : ∀ e, es.length - lss es e = (es.map fun x => if e ≤ x then 1 else 0).sum := fun e => by rw [← ge_len, ← sum_ind (fun x => e ≤ x) es]
  rw [sum_le fun e _ => h1 e, sum_le fun e _ => h2 e, sum_swap (fun e x => if x ≤ e then 1 else 0) es es]
/-! places of a sorted list -/
theorem Kl_at : ∀ {es : List Nat}, es.Pairwise (· ≤ ·) → ∀ c, (es.zipIdx c).map (fun x => upt es x.1 + c - x.2) = Kl es ∧ ∀ x ∈ es.zipIdx c, x.2 < upt es x.1 + c
  | [], _, _ => ⟨rfl, fun _ h => nomatch h⟩
  | e :: t, h, c => by
    rw [List.pairwise_cons] at h
    obtain ⟨i1, i2⟩ := Kl_at h.2 (c + 1)
    have u1 : ∀ x, x ∈ t → upt (e :: t) x = upt t x + 1 := fun x hx => by
      have := h.1 x hx
      simp [upt, List.filter_cons, this]
    have cnt : upt (e :: t) e = t.count e + 1 := by
      have e2 : (t.filter fun x => decide (x ≤ e)).length = t.count e := by
        rw [List.count, List.countP_eq_length_filter]
        congr 1
        refine List.filter_congr fun x hx => ?_
        have := h.1 x hx
        rw [Bool.eq_iff_iff]
        simp
        omega
      simp [upt, List.filter_cons]
      exact e2
    have zm : ∀ x ∈ t.zipIdx (c + 1), x.1 ∈ t := fun x hx => by
      have := List.mem_zipIdx (x := x.1) (i := x.2) hx
      rw [this.2.2]
      exact List.getElem_mem _
    rw [List.zipIdx_cons, List.map_cons]
    constructor
    · unfold Kl
      congr 1
      · show upt (e :: t) e + c - c = _
        rw [cnt]
        omega
      · rw [← i1]
        refine List.map_congr_left fun x hx => ?_
        show upt (e :: t) x.1 + c - x.2 = upt t x.1 + (c + 1) - x.2
        rw [u1 x.1 (zm x hx)]
        omega
    · intro x hx
      rcases List.mem_cons.mp hx with q | q
      · subst q
        show c < upt (e :: t) e + c
        rw [cnt]
        omega
      · have := i2 x q
        rw [u1 x.1 (zm x q)]
        omega
theorem pd_map_mul {α : Type} (f g : α → Nat) : ∀ l : List α, pd (l.map fun x => f x * g x) = pd (l.map f) * pd (l.map g)
  | [] => rfl
  | x :: l => by
    simp only [List.map_cons]
    show f x * g x * pd _ = f x * pd _ * (g x * pd _)
    rw [pd_map_mul f g l]
    grind
theorem pd_pow {α : Type} (p : Nat) (f : α → Nat) : ∀ l : List α, pd (l.map fun x => p ^ f x) = p ^ (l.map f).sum
  | [] => rfl
  | x :: l => by
    simp only [List.map_cons, List.sum_cons]
    show p ^ f x * pd _ = _
    rw [pd_pow p f l, Nat.pow_add]
theorem zip_fst (g : Nat → Nat) : ∀ (es : List Nat) (c : Nat), ((es.zipIdx c).map fun x => g x.1) = es.map g
  | [], _ => rfl
  | e :: t, c => by
    rw [List.zipIdx_cons, List.map_cons, zip_fst g t (c + 1), List.map_cons]
/-- one prime's turnings -/
theorem mop_eq {p : Nat} (hp : 2 ≤ p) {es : List Nat} (hs : es.Pairwise (· ≤ ·)) (h1 : ∀ e ∈ es, 1 ≤ e) : p ^ mn es es * pd ((Kl es).map fun k => p ^ k - 1) = mop p es * pd ((Kl es).map fun k => p ^ k) := by
  obtain ⟨k1, k2⟩ := Kl_at hs 0
  have k1 : (es.zipIdx 0).map (fun x => upt es x.1 - x.2) = Kl es := by
    rw [← k1]
    exact List.map_congr_left fun x _ => by simp
  have e1 : ∀ x ∈ es.zipIdx 0, fct p es x = (p ^ (upt es x.1 - x.2) - 1) * p ^ (x.2 + (x.1 * (es.length - upt es x.1) + (x.1 - 1) * (es.length - lss es x.1))) := fun x hx => by
    have hlt := k2 x hx
    unfold fct
    have : p ^ upt es x.1 = p ^ x.2 * p ^ (upt es x.1 - x.2) := by
      rw [← Nat.pow_add]
      congr 1
      omega
    rw [this, show p ^ x.2 * p ^ (upt es x.1 - x.2) - p ^ x.2 = p ^ x.2 * (p ^ (upt es x.1 - x.2) - 1) by rw [Nat.mul_sub, Nat.mul_one], Nat.pow_add]
    grind
  have e2 : pd ((Kl es).map fun k => p ^ k - 1) = pd ((es.zipIdx 0).map fun x => p ^ (upt es x.1 - x.2) - 1) := by
    rw [← k1, List.map_map]
    rfl
  have e3 : pd ((Kl es).map fun k => p ^ k) = p ^ ((es.zipIdx 0).map fun x => upt es x.1 - x.2).sum := by
    rw [← k1, List.map_map, ← pd_pow]
    rfl
  have e4 : mop p es = pd ((es.zipIdx 0).map fun x => p ^ (upt es x.1 - x.2) - 1) * p ^ ((es.zipIdx 0).map fun x => x.2 + (x.1 * (es.length - upt es x.1) + (x.1 - 1) * (es.length - lss es x.1))).sum := by
    unfold mop
    rw [List.map_congr_left e1, pd_map_mul, ← pd_pow]
  have e5 : mn es es = ((es.zipIdx 0).map fun x => x.2 + (x.1 * (es.length - upt es x.1) + (x.1 - 1) * (es.length - lss es x.1))).sum + ((es.zipIdx 0).map fun x => upt es x.1 - x.2).sum := by
    rw [← sum_add]
    have f1 : ∀ x ∈ es.zipIdx 0, x.2 + (x.1 * (es.length - upt es x.1) + (x.1 - 1) * (es.length - lss es x.1)) + (upt es x.1 - x.2) = (fun e => e * (es.length - upt es e) + ((e - 1) * (es.length - lss es e) + upt es e)) x.1 := fun x hx => by
      have := k2 x hx
      show _ = x.1 * (es.length - upt es x.1) + ((x.1 - 1) * (es.length - lss es x.1) + upt es x.1)
      omega
    rw [List.map_congr_left f1, zip_fst (fun e => e * (es.length - upt es e) + ((e - 1) * (es.length - lss es e) + upt es e)), sum_add, sum_add, upt_sum, ← sum_add, mn_eq]
    congr 1
    refine sum_le fun e he => ?_
    have := h1 e he
    obtain ⟨d, rfl⟩ : ∃ d, e = d + 1 := ⟨e - 1, by omega⟩
    rw [Nat.add_sub_cancel, Nat.add_mul, Nat.one_mul]
  rw [e2, e3, e4, e5, Nat.pow_add]
  grind
/-! by kinds -/
def upk (f : Nat → Nat) : Nat → Nat
  | 0 => 1
  | n + 1 => upk f n * f (n + 1)
theorem grp (f : Nat → Nat) : ∀ (es : List Nat) {xs : List Nat}, xs.Nodup → (∀ e ∈ es, e ∈ xs) → pd (xs.map fun x => upk f (es.count x)) = pd ((Kl es).map f)
  | [], xs, _, _ => by
    have : ∀ x ∈ xs, upk f (([] : List Nat).count x) = 1 := fun x _ => rfl
    rw [List.map_congr_left this]
    have : ∀ xs : List Nat, pd (xs.map fun _ => 1) = 1 := fun xs => by
      induction xs with
      | nil => rfl
      | cons x xs ih =>
        show 1 * pd _ = 1
        rw [ih]
    exact this xs
  | e :: t, xs, nd, hx => by
    have ih := grp f t nd fun y hy => hx y (List.mem_cons_of_mem _ hy)
    have he := hx e (List.mem_cons_self ..)
    unfold Kl
    show _ = f (t.count e + 1) * pd _
    rw [← ih]
    clear ih hx
    induction xs with
    | nil => cases he
    | cons x xs ihx =>
      rw [List.nodup_cons] at nd
      simp only [List.map_cons]
      show upk f ((e :: t).count x) * pd _ = f (t.count e + 1) * (upk f (t.count x) * pd _)
      by_cases c : x = e
      · subst c
        have same : ∀ y ∈ xs, upk f ((x :: t).count y) = upk f (t.count y) := fun y hy => by
          have ne : ¬ x = y := fun z => nd.1 (by rw [z]; exact hy)
          rw [List.count_cons]
          simp [ne]
        rw [List.map_congr_left same, List.count_cons_self]
        show upk f (t.count x) * f (t.count x + 1) * _ = _
        grind
      · have he2 : e ∈ xs := (List.mem_cons.mp he).resolve_left fun z => c z.symm
        have c2 : ¬ e = x := fun z => c z.symm
        have e3 : (e :: t).count x = t.count x := by
          rw [List.count_cons]
          simp [c2]
        rw [ihx nd.2 he2, e3]
        grind
end K61.F
namespace K61.Z
open PySem Pu L2
abbrev T (xs : List Int) : D := .tuple (xs.map .int)
theorem lt_of_at {as : List Int} {i : Nat} {a : Int} (h : as[i]? = some a) : i < as.length := (List.getElem?_eq_some_iff.mp h).1
theorem gcd_step (x y : Nat) : Nat.gcd y (x % y) = Nat.gcd x y := by
  rw [Nat.gcd_comm y (x % y), ← Nat.gcd_rec, Nat.gcd_comm]
theorem measure_ok {X : Exn → En → Prop} (a b : Nat) : Wp X (m__law_measure [.v (.int a), .v (.int b)]) fun rv _ => rv = .v (.int (Nat.gcd a b)) := by
  refine po_fn ?_
  unfold b__law_measure
  rw [po_seq]
  refine po_while (fun n r => ∃ x y : Nat, r = [.v (.int x), .v (.int y)] ∧ n = y ∧ Nat.gcd x y = Nat.gcd a b) ?_ b _ ⟨a, b, rfl, rfl, rfl⟩
  rintro n r ⟨x, y, rfl, hn, hg⟩
  simp
  split
  · refine ⟨by omega, x % y, by rw [hn]; exact Nat.mod_lt _ (by omega), y, x % y, ⟨rfl, ?_⟩, rfl, by rw [gcd_step]; exact hg⟩
    rw [Int.fmod_eq_emod_of_nonneg _ (by omega)]
    rfl
  · have : y = 0 := by omega
    subst this
    rw [Nat.gcd_zero_right] at hg
    rw [hg]
abbrev TT (rs : List (List Int)) : D := .tuple (rs.map fun r => T r)
def gi (xs : List Int) (i : Nat) : Int := xs.getD i 0
theorem gi_at {xs : List Int} {i : Nat} (h : i < xs.length) : xs[i]? = some (gi xs i) := by
  unfold gi
  rw [List.getD_eq_getElem?_getD, List.getElem?_eq_getElem h]
  rfl
abbrev WD (os ps : List Int) (ims : List (List Int)) : D := .tuple [T os, T ps, TT ims]
theorem gi_of {xs : List Int} {i : Nat} {x : Int} (h : xs[i]? = some x) : gi xs i = x := by
  unfold gi
  rw [List.getD_eq_getElem?_getD, h]
  rfl
def gg (o p : Int) : Int := (Nat.gcd o.toNat p.toNat : Nat)
def sh (o p : Int) : Int := p / gg o p
theorem gg_pos {o p : Int} (h : 1 ≤ o) : 1 ≤ gg o p := by
  have := Nat.gcd_pos_of_pos_left p.toNat (show 0 < o.toNat by omega)
  unfold gg
  omega
theorem gg_le {o p : Int} (h : 1 ≤ p) : gg o p ≤ p := by
  have := Nat.gcd_le_right o.toNat (show 0 < p.toNat by omega)
  unfold gg
  omega
theorem gg_dvd {o p : Int} (h : 1 ≤ p) : gg o p ∣ p := by
  have := Nat.gcd_dvd_right o.toNat p.toNat
  unfold gg
  have e : p = (p.toNat : Int) := by omega
  have h2 := Int.ofNat_dvd.mpr this
  rwa [← e] at h2
theorem gg_sh {o p : Int} (h : 1 ≤ p) : gg o p * sh o p = p := Int.mul_ediv_cancel' (gg_dvd h)
theorem sh_pos {o p : Int} (ho : 1 ≤ o) (h : 1 ≤ p) : 1 ≤ sh o p := by
  have h1 := gg_sh (o := o) h
  have h2 := gg_pos (p := p) ho
  rcases Int.lt_or_le 0 (sh o p) with h3 | h3
  · omega
  · have := Int.mul_nonneg (show 0 ≤ gg o p by omega) (show 0 ≤ - sh o p by omega)
    rw [Int.mul_neg, h1] at this
    omega
theorem sh_le {o p : Int} (ho : 1 ≤ o) (h : 1 ≤ p) : sh o p ≤ p := Int.ediv_le_self _ (by omega)
theorem measure_gg {X : Exn → En → Prop} {o p : Int} (ho : 1 ≤ o) (hp : 1 ≤ p) : Wp X (m__law_measure [.v (.int o), .v (.int p)]) fun rv _ => rv = .v (.int (gg o p)) := by
  have e1 : o = (o.toNat : Int) := by omega
  have e2 : p = (p.toNat : Int) := by omega
  have := measure_ok (X := X) o.toNat p.toNat
  rw [← e1, ← e2] at this
  exact this
/-! ### products -/
def pr : List Int → Int
  | [] => 1
  | x :: xs => x * pr xs
theorem pr_app (xs ys : List Int) : pr (xs ++ ys) = pr xs * pr ys := by
  induction xs with
  | nil => simp [pr]
  | cons x xs ih => simp [pr, ih, Int.mul_assoc]
theorem pr_pos {xs : List Int} (h : ∀ x ∈ xs, 1 ≤ x) : 1 ≤ pr xs := by
  induction xs with
  | nil => simp [pr]
  | cons x xs ih =>
    have h1 := h x (by simp)
    have h2 := ih fun y hy => h y (by simp [hy])
    have := Int.mul_le_mul h1 h2 (by omega) (by omega)
    simpa [pr] using this
theorem pr_pre {xs ys : List Int} (h : ∀ x ∈ xs ++ ys, 1 ≤ x) : pr xs ≤ pr (xs ++ ys) := by
  rw [pr_app]
  have h1 := pr_pos (xs := xs) fun x hx => h x (by simp [hx])
  have h2 := pr_pos (xs := ys) fun x hx => h x (by simp [hx])
  have := Int.mul_le_mul_of_nonneg_left h2 (show 0 ≤ pr xs by omega)
  omega
theorem pr_mem {xs : List Int} (h : ∀ x ∈ xs, 1 ≤ x) {x : Int} (hx : x ∈ xs) : x ≤ pr xs := by
  obtain ⟨a, b, rfl⟩ := List.append_of_mem hx
  rw [pr_app]
  have h1 := pr_pos (xs := a) fun y hy => h y (by simp [hy])
  have h2 := pr_pos (xs := b) fun y hy => h y (by simp [hy])
  have hx1 := h x hx
  have h3 := Int.mul_le_mul_of_nonneg_left h2 (show 0 ≤ x by omega)
  have h4 := Int.mul_le_mul h1 h3 (by omega) (by omega)
  simp only [pr]
  omega
theorem pr_le {B : Int} (hB : 1 ≤ B) {xs : List Int} (h : ∀ x ∈ xs, 1 ≤ x ∧ x ≤ B) : pr xs ≤ B ^ xs.length := by
  induction xs with
  | nil => simp [pr]
  | cons x xs ih =>
    have h1 := h x (by simp)
    have h2 := ih fun y hy => h y (by simp [hy])
    have h3 := pr_pos (xs := xs) fun y hy => (h y (by simp [hy])).1
    have := Int.mul_le_mul h1.2 h2 (by omega) (by omega)
    simp only [pr, List.length_cons, Int.pow_succ]
    rw [Int.mul_comm (B ^ xs.length)]
    exact this
theorem powL {B : Int} (hB : 1 ≤ B) {m n : Nat} (h : m ≤ n) : B ^ m ≤ B ^ n := by
  obtain ⟨k, rfl⟩ := Nat.le.dest h
  induction k with
  | zero => simp
  | succ k ih =>
    have ih := ih (by omega)
    have hp : 0 ≤ B ^ (m + k) := Int.pow_nonneg (by omega)
    have := Int.mul_le_mul_of_nonneg_left hB hp
    rw [← Nat.add_assoc, Int.pow_succ]
    omega
def Hs (hs : List Int) : Prop := hs.length ≤ 6 ∧ ∀ h ∈ hs, 1 ≤ h ∧ h ≤ 10 ^ 6
theorem Hs.gi {os : List Int} (H : Hs os) {i : Nat} (h : i < os.length) : 1 ≤ gi os i ∧ gi os i ≤ 10 ^ 6 := H.2 _ (List.mem_of_getElem? (gi_at h))
def cG (o : Int) (ps : List Int) : Int := pr (ps.map (gg o))
def cnt (os ps : List Int) : Int := pr (os.map fun o => cG o ps)
theorem gg_mem {o : Int} {ps : List Int} (ho : 1 ≤ o) : ∀ x ∈ ps.map (gg o), 1 ≤ x := fun x hx => by
  obtain ⟨p, _, rfl⟩ := List.mem_map.mp hx
  exact gg_pos ho
theorem cG_pos {o : Int} {ps : List Int} (ho : 1 ≤ o) : 1 ≤ cG o ps := pr_pos (gg_mem ho)
theorem cG_mem {os ps : List Int} (HO : Hs os) : ∀ x ∈ os.map (fun o => cG o ps), 1 ≤ x := fun x hx => by
  obtain ⟨o, h, rfl⟩ := List.mem_map.mp hx
  exact cG_pos (HO.2 o h).1
theorem cnt_pos {os ps : List Int} (HO : Hs os) : 1 ≤ cnt os ps := pr_pos (cG_mem HO)
theorem cG_cnt {os ps : List Int} (HO : Hs os) {o : Int} (ho : o ∈ os) : cG o ps ≤ cnt os ps := pr_mem (cG_mem HO) (List.mem_map_of_mem ho)
theorem cG_pre {o : Int} {ps qs : List Int} (ho : 1 ≤ o) : cG o ps ≤ cG o (ps ++ qs) := by
  unfold cG
  rw [List.map_append]
  exact pr_pre (by rw [← List.map_append]; exact gg_mem ho)
theorem cnt_pre {os qs ps : List Int} (HO : Hs (os ++ qs)) : cnt os ps ≤ cnt (os ++ qs) ps := by
  unfold cnt
  rw [List.map_append]
  exact pr_pre (by rw [← List.map_append]; exact cG_mem HO)
theorem cG_le {o : Int} {ps : List Int} (ho : 1 ≤ o) (HP : Hs ps) : cG o ps ≤ (10 ^ 6) ^ 6 := by
  have h1 := pr_le (B := 10 ^ 6) (by decide) (xs := ps.map (gg o)) fun x hx => by
    obtain ⟨p, hp, rfl⟩ := List.mem_map.mp hx
    have := HP.2 p hp
    have := gg_le (o := o) this.1
    exact ⟨gg_pos ho, by omega⟩
  rw [List.length_map] at h1
  exact Int.le_trans h1 (powL (by decide) HP.1)
theorem cnt_le {os ps : List Int} (HO : Hs os) (HP : Hs ps) : cnt os ps ≤ ((10 ^ 6) ^ 6) ^ 6 := by
  have h1 := pr_le (B := (10 ^ 6) ^ 6) (by decide) (xs := os.map fun o => cG o ps) fun x hx => by
    obtain ⟨o, ho, rfl⟩ := List.mem_map.mp hx
    exact ⟨cG_pos (HO.2 o ho).1, cG_le (HO.2 o ho).1 HP⟩
  rw [List.length_map] at h1
  exact Int.le_trans h1 (powL (by decide) HO.1)
/-! ### all rows, one more at the end -/
def ext {α : Type} (F : List (List α)) (G : List α) : List (List α) := F.flatMap fun x => G.map fun g => x ++ [g]
theorem ext_len {α : Type} (F : List (List α)) (G : List α) : (ext F G).length = F.length * G.length := by
  unfold ext
  induction F with
  | nil => simp
  | cons x F ih => rw [List.flatMap_cons, List.length_append, ih, List.length_map, List.length_cons, Nat.succ_mul, Nat.add_comm]
theorem ext_app {α : Type} (F F' : List (List α)) (G : List α) : ext (F ++ F') G = ext F G ++ ext F' G := List.flatMap_append
theorem ext_one {α : Type} (x : List α) (G : List α) : ext [x] G = G.map fun g => x ++ [g] := by simp [ext]
def shs (o p : Int) : List Int := (List.range (gg o p).toNat).map fun k : Nat => sh o p * k
def imF (o : Int) (ps : List Int) : List (List Int) := ps.foldl (fun F p => ext F (shs o p)) [[]]
theorem imF_app (o : Int) (ps : List Int) (p : Int) : imF o (ps ++ [p]) = ext (imF o ps) (shs o p) := by simp [imF]
def wyF (os ps : List Int) : List (List (List Int)) := os.foldl (fun F o => ext F (imF o ps)) [[]]
theorem wyF_app (os ps : List Int) (o : Int) : wyF (os ++ [o]) ps = ext (wyF os ps) (imF o ps) := by simp [wyF]
theorem rev_ind {α : Type} {P : List α → Prop} (h0 : P []) (hs : ∀ xs x, P xs → P (xs ++ [x])) (xs : List α) : P xs := by
  have key : ∀ n (xs : List α), xs.length = n → P xs := by
    intro n
    induction n with
    | zero => intro xs h; rw [List.length_eq_zero_iff.mp h]; exact h0
    | succ n ih =>
      intro xs h
      have hne : xs ≠ [] := by intro z; rw [z] at h; cases h
      rw [← List.dropLast_concat_getLast hne]
      exact hs _ _ (ih _ (by rw [List.length_dropLast]; omega))
  exact key _ xs rfl
theorem shs_len {o p : Int} (ho : 1 ≤ o) : ((shs o p).length : Int) = gg o p := by
  have := gg_pos (p := p) ho
  simp [shs]
  omega
theorem imF_len {o : Int} (ho : 1 ≤ o) (ps : List Int) : ((imF o ps).length : Int) = cG o ps := by
  induction ps using rev_ind with
  | h0 => simp [imF, cG, pr]
  | hs ps p ih =>
    rw [imF_app, ext_len]
    unfold cG at *
    rw [List.map_append, pr_app, ← ih]
    simp [pr, ← shs_len (p := p) ho]
theorem wyF_len {os : List Int} (ps : List Int) (H : ∀ o ∈ os, 1 ≤ o) : ((wyF os ps).length : Int) = cnt os ps := by
  induction os using rev_ind with
  | h0 => simp [wyF, cnt, pr]
  | hs os o ih =>
    rw [wyF_app, ext_len]
    have ih := ih fun o ho => H o (by simp [ho])
    unfold cnt at *
    rw [List.map_append, pr_app, ← ih]
    simp [pr, ← imF_len (H o (by simp)) ps]
theorem sixle {a : Nat} (h : (a : Int) ≤ 520) : a ≤ 520 := by omega
end K61.Z
namespace K61.Z
open PySem Pu L2
abbrev TS (F : List (List Int)) : List D := F.map fun x => T x
abbrev TTS (F : List (List (List Int))) : List D := F.map fun x => TT x
theorem ext_TS (F : List (List Int)) (x : List Int) (G : List Int) : TS (ext (F ++ [x]) G) = TS (ext F G) ++ G.map fun g => T (x ++ [g]) := by
  rw [ext_app, ext_one]
  simp [-po_comp, TS]
theorem ext_TTS (F : List (List (List Int))) (x : List (List Int)) (G : List (List Int)) : TTS (ext (F ++ [x]) G) = TTS (ext F G) ++ G.map fun g => TT (x ++ [g]) := by
  rw [ext_app, ext_one]
  simp [-po_comp, TTS]
theorem ext_le {α : Type} {F F' : List (List α)} {G : List α} {x : List α} {n : Nat} (h : (ext (F ++ x :: F') G).length ≤ n) : (ext F G).length + G.length ≤ n := by
  rw [ext_len, List.length_append, List.length_cons] at h
  rw [ext_len]
  have : (F.length + 1) * G.length ≤ (F.length + (F'.length + 1)) * G.length := Nat.mul_le_mul_right _ (by omega)
  rw [Nat.succ_mul] at this
  omega
theorem ext_mem {α : Type} {F : List (List α)} {G : List α} {x : List α} (h : x ∈ ext F G) : ∃ z g, z ∈ F ∧ g ∈ G ∧ x = z ++ [g] := by
  unfold ext at h
  obtain ⟨z, hz, hx⟩ := List.mem_flatMap.mp h
  obtain ⟨g, hg, rfl⟩ := List.mem_map.mp hx
  exact ⟨z, g, hz, hg, rfl⟩
theorem imF_mem {o : Int} (ho : 1 ≤ o) {ps x : List Int} (H : ∀ p ∈ ps, 1 ≤ p ∧ p ≤ 10 ^ 6) (h : x ∈ imF o ps) : x.length = ps.length ∧ ∀ y ∈ x, 0 ≤ y ∧ y ≤ 10 ^ 6 := by
  induction ps using rev_ind generalizing x with
  | h0 =>
    simp [-po_comp, imF] at h
    subst h
    simp [-po_comp]
  | hs ps p ih =>
    rw [imF_app] at h
    obtain ⟨z, g, hz, hg, rfl⟩ := ext_mem h
    have i1 := ih (fun p hp => H p (by simp [-po_comp, hp])) hz
    refine ⟨by simp [-po_comp, i1.1], fun y hy => ?_⟩
    rw [List.mem_append] at hy
    rcases hy with hy | hy
    · exact i1.2 y hy
    · rw [List.mem_singleton.mp hy]
      obtain ⟨k, hk, rfl⟩ := List.mem_map.mp hg
      have hk := List.mem_range.mp hk
      have hp := H p (by simp [-po_comp])
      have s1 := sh_pos ho hp.1
      have h1 := gg_sh (o := o) hp.1
      have hk2 : (k : Int) ≤ gg o p := by omega
      have := Int.mul_le_mul_of_nonneg_left hk2 (show 0 ≤ sh o p by omega)
      rw [Int.mul_comm (sh o p) (gg o p), h1] at this
      exact ⟨Int.mul_nonneg (by omega) (by omega), by omega⟩
theorem wyF_mem {os ps : List Int} {ims : List (List Int)} (HO : ∀ o ∈ os, 1 ≤ o) (H : ∀ p ∈ ps, 1 ≤ p ∧ p ≤ 10 ^ 6) (h : ims ∈ wyF os ps) : ims.length = os.length ∧ ∀ r ∈ ims, r.length = ps.length ∧ ∀ y ∈ r, 0 ≤ y ∧ y ≤ 10 ^ 6 := by
  induction os using rev_ind generalizing ims with
  | h0 =>
    simp [-po_comp, wyF] at h
    subst h
    simp [-po_comp]
  | hs os o ih =>
    rw [wyF_app] at h
    obtain ⟨z, g, hz, hg, rfl⟩ := ext_mem h
    have i1 := ih (fun o ho => HO o (by simp [-po_comp, ho])) hz
    refine ⟨by simp [-po_comp, i1.1], fun y hy => ?_⟩
    rw [List.mem_append] at hy
    rcases hy with hy | hy
    · exact i1.2 y hy
    · rw [List.mem_singleton.mp hy]
      exact imF_mem (HO o (by simp [-po_comp])) H hg
/-- the whole told -/
def allW (os ps : List Int) : List D := (wyF os ps).map fun ims => WD os ps ims
end K61.Z
namespace K61
open PySem Pu L2
theorem mulOk_b {i j : Int} {b c : Nat} (h1 : i.natAbs < 2 ^ b) (h2 : j.natAbs < 2 ^ c) (h : b + c < 100000000) : mulOk i j := by
  refine .inr (.inr ?_)
  have key : ∀ (z : Nat) (d : Nat), z < 2 ^ d → z.log2 ≤ d := fun z d hz => by
    by_cases h0 : z = 0
    · rw [h0]
      simp [-po_comp]
    · exact Nat.le_of_lt ((Nat.log2_lt h0).mpr hz)
  have := key _ _ h1
  have := key _ _ h2
  omega
theorem at0 (x y z : D) : atI [x, y, z] 0 = some x := rfl
theorem at1 (x y z : D) : atI [x, y, z] 1 = some y := rfl
theorem at2 (x y z : D) : atI [x, y, z] 2 = some z := rfl
theorem ix1 : ixN 3 1 = some 1 := rfl
theorem ix2 : ixN 3 2 = some 2 := rfl
abbrev T (xs : List Int) : D := .tuple (xs.map .int)
abbrev TT (rs : List (List Int)) : D := .tuple (rs.map fun r => T r)
def row (rs : List (List Int)) (i : Nat) : List Int := rs.getD i []
theorem get_vec {r : List Int} {k : Nat} (h : k < r.length) : r[k]? = some (St.vec r k) := by
  rw [List.getElem?_eq_getElem h, St.vec_get h]
def hI (h : List Nat) : List Int := h.map fun n : Nat => (n : Int)
theorem prd_snoc (h : List Nat) (n : Nat) : St.prd (h ++ [n]) = St.prd h * n := by simp [-po_comp, St.prd]
theorem hI_len (h : List Nat) : (hI h).length = h.length := by simp [-po_comp, hI]
theorem vec_snoc (a : List Int) (x : Int) (k : Nat) : St.vec (a ++ [x]) k = if k < a.length then St.vec a k else if k = a.length then x else 0 := by
  unfold St.vec
  rw [List.getD_eq_getElem?_getD, List.getD_eq_getElem?_getD, List.getElem?_append]
  by_cases h : k < a.length
  · simp [-po_comp, h]
  · by_cases h2 : k = a.length
    · simp [-po_comp, h2]
    · have : ¬ k - a.length = 0 := by omega
      simp [-po_comp, h, h2, this]
structure Hs (h : List Nat) : Prop where
  pos : ∀ n ∈ h, 1 ≤ n
  len : h.length ≤ 6
  lt : ∀ n ∈ h, n ≤ 1000000
abbrev WD (h g : List Nat) (I : List (List Int)) : D := .tuple [T (hI h), T (hI g), TT I]
theorem hI_at {h : List Nat} {k : Nat} (hk : k < h.length) : (hI h)[k]? = some ((h.getD k 0 : Nat) : Int) := by
  unfold hI
  rw [List.getElem?_map, List.getElem?_eq_getElem hk, List.getD_eq_getElem?_getD, List.getElem?_eq_getElem hk]
  rfl
theorem hs_at {h : List Nat} (H : Hs h) {k : Nat} (hk : k < h.length) : 1 ≤ h.getD k 0 ∧ h.getD k 0 ≤ 1000000 := by
  have hm : h.getD k 0 ∈ h := by
    rw [List.getD_eq_getElem?_getD, List.getElem?_eq_getElem hk]
    exact List.getElem_mem hk
  exact ⟨H.pos _ hm, H.lt _ hm⟩
theorem prd_b : ∀ {h : List Nat}, (∀ n ∈ h, n ≤ 1000000) → St.prd h ≤ 1000000 ^ h.length
  | [], _ => Nat.le_refl _
  | n :: h, hb => by
    rw [St.prd_cons, List.length_cons, Nat.pow_succ, Nat.mul_comm]
    exact Nat.mul_le_mul (prd_b fun m hm => hb m (List.mem_cons_of_mem _ hm)) (hb n (List.mem_cons_self ..))
theorem prd_lt {h : List Nat} (h6 : h.length ≤ 6) (hb : ∀ n ∈ h, n ≤ 1000000) : St.prd h < 2 ^ 200 := Nat.lt_of_le_of_lt (Nat.le_trans (prd_b hb) (Nat.pow_le_pow_right (by decide) h6)) (by decide +kernel)
theorem im_mem {o : Int} (ho : 1 ≤ o) {ps x : List Int} : (∀ p ∈ ps, 1 ≤ p) → x ∈ Z.imF o ps → x.length = ps.length ∧ ∀ j, j < ps.length → ∃ k : Nat, (k : Int) < Z.gg o (ps.getD j 0) ∧ St.vec x j = Z.sh o (ps.getD j 0) * k := by
  revert x
  induction ps using Z.rev_ind with
  | h0 =>
    intro x _ hx
    have : x = [] := by simpa [Z.imF] using hx
    subst this
    exact ⟨rfl, fun j hj => by simp [-po_comp] at hj⟩
  | hs ps p ih =>
    intro x hp hx
    rw [Z.imF_app] at hx
    obtain ⟨z, y, hz, hy, rfl⟩ := Z.ext_mem hx
    obtain ⟨l1, l2⟩ := ih (fun q hq => hp q (List.mem_append_left _ hq)) hz
    refine ⟨by simp [-po_comp, l1], fun j hj => ?_⟩
    rw [vec_snoc]
    rw [List.length_append, List.length_singleton] at hj
    by_cases c : j < ps.length
    · rw [if_pos (by omega), List.getD_eq_getElem?_getD, List.getElem?_append_left c, ← List.getD_eq_getElem?_getD]
      exact l2 j c
    · have : j = ps.length := by omega
      subst this
      rw [if_neg (by omega), if_pos l1.symm, List.getD_eq_getElem?_getD, List.getElem?_append_right (Nat.le_refl _)]
      simp [-po_comp]
      unfold Z.shs at hy
      obtain ⟨k, hk, rfl⟩ := List.mem_map.mp hy
      have hk := List.mem_range.mp hk
      exact ⟨k, by omega, rfl⟩
theorem wy_mem {os ps : List Int} {I : List (List Int)} : I ∈ Z.wyF os ps → I.length = os.length ∧ ∀ i, i < os.length → I.getD i [] ∈ Z.imF (os.getD i 0) ps := by
  revert I
  induction os using Z.rev_ind with
  | h0 =>
    intro I hx
    have : I = [] := by simpa [Z.wyF] using hx
    subst this
    exact ⟨rfl, fun j hj => by simp [-po_comp] at hj⟩
  | hs os o ih =>
    intro I hx
    rw [Z.wyF_app] at hx
    obtain ⟨z, y, hz, hy, rfl⟩ := Z.ext_mem hx
    obtain ⟨l1, l2⟩ := ih hz
    refine ⟨by simp [-po_comp, l1], fun j hj => ?_⟩
    rw [List.length_append, List.length_singleton] at hj
    by_cases c : j < os.length
    · rw [List.getD_eq_getElem?_getD (l := z ++ [y]), List.getElem?_append_left (by omega), ← List.getD_eq_getElem?_getD (l := z), List.getD_eq_getElem?_getD (l := os ++ [o]), List.getElem?_append_left c, ← List.getD_eq_getElem?_getD (l := os)]
      exact l2 j c
    · have : j = os.length := by omega
      subst this
      rw [List.getD_eq_getElem?_getD (l := z ++ [y]), List.getElem?_append_right (by omega), List.getD_eq_getElem?_getD (l := os ++ [o]), List.getElem?_append_right (Nat.le_refl _)]
      simp [-po_comp, l1]
      exact hy
theorem hI_get (h : List Nat) (k : Nat) : (hI h).getD k 0 = ((h.getD k 0 : Nat) : Int) := by
  unfold hI
  rw [List.getD_eq_getElem?_getD, List.getElem?_map, List.getD_eq_getElem?_getD]
  cases h[k]? <;> rfl
theorem zhs {h : List Nat} (H : Hs h) : Z.Hs (hI h) := ⟨by rw [hI_len]; exact H.len, fun x hx => by
  obtain ⟨n, hn, rfl⟩ := List.mem_map.mp hx
  have := H.pos n hn
  have := H.lt n hn
  omega⟩
open Classical in
noncomputable def tB (h : List Nat) (I : List (List Int)) : Bool := decide (∀ a, St.Th h a → St.led h h I a = St.nrm h (fun _ => 0) → a = St.nrm h fun _ => 0)
abbrev wysL (h : List Nat) : List (List (List Int)) := Z.wyF (hI h) (hI h)
end K61
namespace K61
open PySem Pu L2
theorem intsOf_map : ∀ xs : List Int, intsOf (xs.map .int) = some xs
  | [] => rfl
  | x :: xs => by
    show (intsOf (xs.map .int)).map (x :: ·) = _
    rw [intsOf_map xs]
    rfl
theorem fold_max : ∀ (xs : List Int) (x : Int), xs.foldl (fun a y => max a y) x ∈ x :: xs ∧ ∀ y ∈ x :: xs, y ≤ xs.foldl (fun a y => max a y) x := by
  intro xs
  induction xs with
  | nil => intro x; simp [-po_comp]
  | cons y ys ih =>
    intro x
    obtain ⟨h1, h2⟩ := ih (max x y)
    rw [List.foldl_cons]
    constructor
    · rcases List.mem_cons.mp h1 with e | e
      · rw [e]
        rcases Int.le_total x y with c | c
        · rw [Int.max_eq_right c]
          simp [-po_comp]
        · rw [Int.max_eq_left c]
          simp [-po_comp]
      · simp [-po_comp, e]
    · have h3 := h2 (max x y) (List.mem_cons_self ..)
      intro z hz
      rcases List.mem_cons.mp hz with rfl | hz
      · omega
      · rcases List.mem_cons.mp hz with rfl | hz
        · omega
        · exact h2 z (List.mem_cons_of_mem _ hz)
theorem max_nn {xs : List Int} (hne : xs ≠ []) (h : ∀ x ∈ xs, 0 ≤ x) : ∃ m, maxLT (.tuple (xs.map .int)) = some (.int m) ∧ (m = 0 ↔ ∀ x ∈ xs, x = 0) := by
  cases xs with
  | nil => exact absurd rfl hne
  | cons x xs =>
    obtain ⟨h1, h2⟩ := fold_max xs x
    refine ⟨xs.foldl (fun a y => max a y) x, ?_, ?_, ?_⟩
    · show (intsOf ((x :: xs).map .int)).bind _ = _
      rw [intsOf_map]
      rfl
    · intro e y hy
      have := h2 y hy
      have := h y hy
      omega
    · intro e
      exact e _ h1
theorem led_ok {X : Exn → En → Prop} {h g : List Nat} {I : List (List Int)} {a : List Int} (Hh : Hs h) (Hg : Hs g) (W : St.Way h g I) (ta : St.Th h a) : Wp X (m__law_led [.v (WD h g I), .v (T a)]) fun rv _ => rv = .v (T (St.led h g I a)) := by
  have h6 := Hh.len
  have g6 := Hg.len
  have wn := W.n
  have eg0 : (hI g).map PyData.int = g.map fun n : Nat => PyData.int (n : Int) := by simp [-po_comp, hI]
  refine po_fnK fun Y K hY hK _ => ?_
  unfold b__law_led
  refine po_step fun K1 h1 _ _ _ => ?_
  simp [-po_comp]
  refine h1 _ ?_
  refine po_step fun K2 h2 _ _ _ => ?_
  simp [-po_comp]
  refine po_LC1 (f := fun n : Nat => PyData.int (n : Int)) (g := fun _ => PyData.int 0) g (by simp [-po_comp, eg0]) (by simp [-po_comp, noOwn_cons]) (by omega) (fun n hn => by simp [-po_comp]) ?_
  simp [-po_comp]
  refine h2 _ ?_
  refine po_step fun K3 h3 _ _ _ => ?_
  simp [-po_comp, hI_len]
  refine ⟨by omega, ?_⟩
  have e0 : List.map (fun _ : Nat => PyData.int 0) g = ((List.range g.length).map fun j => St.ph I (St.vec a) 0 j).map .int := by
    refine List.ext_getElem (by simp [-po_comp]) fun i a1 a2 => ?_
    simp [-po_comp, St.ph]
  rw [e0]
  refine po_rngK (fun k r => ∃ s6, r = [.v (WD h g I), .v (T a), .v (T (hI h)), .v (T (hI g)), .v (TT I), .v (.list (((List.range g.length).map fun j => St.ph I (St.vec a) k j).map .int)), s6, .unk, .unk] ∧ s6.isIo = false) h.length _ ⟨.unk, rfl, rfl⟩ ?_ ?_
  · rintro k r hk ⟨s6, rfl, q6⟩
    refine ⟨[.v (WD h g I), .v (T a), .v (T (hI h)), .v (T (hI g)), .v (TT I), .v (.list (((List.range g.length).map fun j => St.ph I (St.vec a) k j).map .int)), .v (.int k), .unk, .unk], by simp [-po_comp, q6], fun K4 h4 _ _ _ => ?_⟩
    obtain ⟨hm, hl⟩ := W.len hk
    have tr := W.th _ hm
    have ea := get_vec (r := a) (k := k) (by rw [ta.1]; exact hk)
    have e0 : atI (I.map fun r => T r) (k : Int) = some (T (I.getD k [])) := by
      have : k < I.length := by omega
      rw [Pu.atI_nat, List.getElem?_map, List.getElem?_eq_getElem this, List.getD_eq_getElem?_getD, List.getElem?_eq_getElem this]
      rfl
    have e01 : atI (a.map PyData.int) (k : Int) = some (.int (St.vec a k)) := by rw [Pu.atI_nat, List.getElem?_map, ea]; rfl
    have eph : ∀ j, St.ph I (St.vec a) (k + 1) j = St.ph I (St.vec a) k j + St.vec a k * St.vec (I.getD k []) j := fun j => rfl
    have b1 := ta.2 k hk
    have b2 := (hs_at Hh hk).2
    simp only [eph] at h4
    generalize I.getD k [] = row at *
    simp [-po_comp, hI_len]
    refine po_LC1 (f := fun j : Nat => PyData.int (j : Int)) (g := fun j : Nat => PyData.int (St.ph I (St.vec a) k j + St.vec a k * St.vec row j)) (List.range g.length) ?_ (by simp [-po_comp, noOwn_cons]) (by simp [-po_comp]; omega) ?_ ?_
    · simp [-po_comp, hI_len, rng_map]
      omega
    · intro j hj
      have hj : j < g.length := List.mem_range.mp hj
      have er : (row.map PyData.int)[j]? = some (.int (St.vec row j)) := by
        rw [List.getElem?_map, get_vec (by rw [tr.1]; exact hj)]
        rfl
      have b3 := tr.2 j hj
      have b4 := (hs_at Hg hj).2
      have mo : mulOk (St.vec a k) (St.vec row j) := mulOk_b (b := 20) (c := 20) (Nat.lt_of_le_of_lt (m := 1000000) (by omega) (by decide)) (Nat.lt_of_le_of_lt (m := 1000000) (by omega) (by decide)) (by decide)
      have e5 : atI (row.map PyData.int) (j : Int) = some (.int (St.vec row j)) := by rw [Pu.atI_nat]; exact er
      have e6 : atI (((List.range g.length).map fun j => PyData.int (St.ph I (St.vec a) k j))) (j : Int) = some (.int (St.ph I (St.vec a) k j)) := by
        rw [Pu.atI_nat, List.getElem?_map, List.getElem?_range hj]
        rfl
      have e7 : atI ((List.range g.length).map (PyData.int ∘ fun j => St.ph I (St.vec a) k j)) (j : Int) = some (.int (St.ph I (St.vec a) k j)) := e6
      simp [-po_comp, e0, e01, e5, e6, e7, mo, hj]
    simp [-po_comp]
    refine h4 _ ⟨.v (.int k), by simp, rfl⟩
  · rintro r ⟨s6, rfl, q6⟩
    refine h3 _ ?_
    simp
    refine po_compM (g := fun p : Int × Nat => PyData.int (St.ph I (St.vec a) h.length p.2 % p.1)) (fun r => ∃ x y, r = [.v (WD h g I), .v (T a), .v (T (hI h)), .v (T (hI g)), .v (TT I), .v (.list (((List.range g.length).map fun j => St.ph I (St.vec a) h.length j).map .int)), s6, x, y]) ((hI g).zipIdx 0) [] _ ⟨.unk, .unk, by simp⟩ (by simp [-po_comp, hI_len]; omega) ?_ ?_
    · rintro ⟨n, j⟩ hp r ⟨x, y, rfl⟩
      have e1 := List.mem_zipIdx_iff_getElem?.mp hp
      have hj : j < g.length := by rw [← hI_len]; exact (List.getElem?_eq_some_iff.mp e1).1
      have en := Option.some.inj (e1.symm.trans (hI_at hj))
      have n1 := (hs_at Hg hj).1
      have n0 : 1 ≤ n := by
        show (1 : Int) ≤ n
        have : n = ((g.getD j 0 : Nat) : Int) := en
        omega
      refine ⟨[.v (WD h g I), .v (T a), .v (T (hI h)), .v (T (hI g)), .v (TT I), .v (.list (((List.range g.length).map fun j => St.ph I (St.vec a) h.length j).map .int)), s6, .v (.int n), .v (.int j)], by simp, ?_⟩
      have e7 : atI ((List.range g.length).map (PyData.int ∘ fun j => St.ph I (St.vec a) h.length j)) (j : Int) = some (.int (St.ph I (St.vec a) h.length j)) := by
        rw [Pu.atI_nat, List.getElem?_map, List.getElem?_range hj]
        rfl
      simp [-po_comp, hj, e7, show ¬ n = 0 by omega, Int.fmod_eq_emod_of_nonneg _ (show 0 ≤ n by omega)]
    · rintro r ⟨x, y, rfl⟩
      simp [-po_comp]
      refine hK _ _ _ rfl ?_
      have e : ((hI g).zipIdx 0).map (fun p : Int × Nat => PyData.int (St.ph I (St.vec a) h.length p.2 % p.1)) = (St.led h g I a).map .int := by
        unfold St.led St.nrm
        refine List.ext_getElem (by simp [-po_comp, hI_len]) fun i a1 a2 => ?_
        have hi : i < g.length := by simpa [hI_len] using a1
        simp [-po_comp, hI, hi]
      first | rw [e] | simp [-po_comp, e]
theorem falls_ok {X : Exn → En → Prop} {h : List Nat} {I L : List (List Int)} (H : Hs h) (W : St.Way h h I) (hL : ∀ a ∈ L, St.Th h a) (hne : L ≠ [] → h ≠ []) : Wp X (m__law_falls [.v (WD h h I), .v (.list (L.map fun a => T a))]) fun rv _ => rv = .v (.bool (decide (∃ a ∈ L, St.led h h I a = St.nrm h fun _ => 0))) := by
  refine po_fnK fun Y K hY hK _ => ?_
  unfold b__law_falls
  refine po_step fun K1 h1 r1 _ _ => ?_
  simp [-po_comp]
  refine po_forK (f := fun a : List Int => T a) (fun done r => ∃ s2, r = [.v (WD h h I), .v (.list (L.map fun a => T a)), s2] ∧ s2.isIo = false ∧ ∀ a ∈ done, ¬ St.led h h I a = St.nrm h fun _ => 0) L _ ⟨.unk, rfl, rfl, by simp⟩ ?_ ?_
  · rintro done a rest r e ⟨s2, rfl, q2, hd⟩
    have ta := hL a (by rw [e]; simp [-po_comp])
    refine ⟨[.v (WD h h I), .v (.list (L.map fun a => T a)), .v (T a)], by simp [-po_comp, q2], fun K2 h2 r2 _ _ => ?_⟩
    simp [-po_comp]
    refine po_mono (led_ok H H W ta) ?_
    rintro _ _ rfl
    have tl := St.led_th H.pos a (h := h) (I := I)
    obtain ⟨m, em, hm⟩ := max_nn (xs := St.led h h I a) (fun c => by
      have := hne (by rw [e]; simp [-po_comp])
      have hl := tl.1
      rw [c] at hl
      exact this (List.length_eq_zero_iff.mp hl.symm)) fun x hx => by
      obtain ⟨k, hk, rfl⟩ := List.mem_iff_getElem.mp hx
      have := (tl.2 k (by rw [← tl.1]; exact hk)).1
      rw [St.vec_get hk] at this
      exact this
    have key : m = 0 ↔ St.led h h I a = St.nrm h fun _ => 0 := by
      rw [hm]
      constructor
      · intro q
        refine St.vec_eq0 tl fun k hk => ?_
        rw [St.vec_get (by rw [tl.1]; exact hk)]
        exact q _ (List.getElem_mem _)
      · intro q x hx
        rw [q] at hx
        obtain ⟨k, hk, rfl⟩ := List.mem_iff_getElem.mp hx
        have hk2 : k < h.length := by rw [St.nrm_len] at hk; exact hk
        rw [← St.vec_get hk, St.vec_nrm hk2, Int.zero_emod]
    simp [-po_comp, em]
    by_cases c : m = 0
    · simp [-po_comp, c]
      refine r2 _ _ (r1 _ _ (hK _ _ _ rfl ?_))
      have : ∃ a ∈ L, St.led h h I a = St.nrm h fun _ => 0 := ⟨a, by rw [e]; simp, key.mp c⟩
      simp only [this, decide_true]
    · simp [-po_comp, c]
      refine h2 _ ⟨.v (T a), rfl, rfl, fun b hb => ?_⟩
      rcases List.mem_append.mp hb with hb | hb
      · exact hd b hb
      · rw [List.mem_singleton.mp hb]
        exact fun q => c (key.mpr q)
  · rintro r ⟨s2, rfl, q2, hd⟩
    refine h1 _ ?_
    simp [-po_comp]
    refine hK _ _ _ rfl ?_
    have : ¬ ∃ a ∈ L, St.led h h I a = St.nrm h fun _ => 0 := fun ⟨a, ha, e⟩ => hd a ha e
    simp only [this, decide_false]
end K61
namespace K61
open PySem Pu L2
abbrev TL (F : List (List Int)) : List D := F.map fun x => T x
def exg (p n : Nat) (x : List Int) : List (List Int) := (List.range (St.mny p n x)).map fun k => x ++ [((k : Nat) : Int) * ((n / p : Nat) : Int)]
theorem exl_eq (p n : Nat) (F : List (List Int)) : St.exl p n F = F.flatMap (exg p n) := rfl
theorem exl_snoc (p n : Nat) (F : List (List Int)) (x : List Int) : St.exl p n (F ++ [x]) = St.exl p n F ++ exg p n x := by
  rw [exl_eq, exl_eq, List.flatMap_append]
  simp [-po_comp]
theorem mny_le {p n : Nat} (hp : 2 ≤ p) (hn : 1 ≤ n) (x : List Int) : St.mny p n x ≤ n := by
  unfold St.mny
  split
  · next d =>
    have := Nat.le_of_dvd (by omega) (Nat.dvd_of_mod_eq_zero d)
    split <;> omega
  · omega
theorem exl_len {p n : Nat} (hp : 2 ≤ p) (hn : 1 ≤ n) : ∀ F : List (List Int), (St.exl p n F).length ≤ F.length * n
  | [] => by simp [-po_comp, St.exl]
  | x :: F => by
    have := exl_len hp hn F
    have h1 := mny_le hp hn x
    rw [exl_eq] at this ⊢
    rw [List.flatMap_cons, List.length_append, List.length_cons, Nat.succ_mul]
    simp [-po_comp, exg] at this ⊢
    omega
theorem few_len {p : Nat} (hp : 2 ≤ p) (h : List Nat) : (∀ n ∈ h, 1 ≤ n) → (St.few h p).length ≤ St.prd h := by
  induction h using St.rev_ind with
  | h0 => intro _; simp [-po_comp, St.few, St.prd]
  | hs h n ih =>
    intro hh
    have h1 := ih fun m hm => hh m (List.mem_append_left _ hm)
    rw [St.few_snoc, prd_snoc]
    exact Nat.le_trans (exl_len hp (hh n (by simp [-po_comp])) _) (Nat.mul_le_mul_right _ h1)
theorem prd_pre {a b : List Nat} (hb : ∀ n ∈ b, 1 ≤ n) : St.prd a ≤ St.prd (a ++ b) := by
  induction b using St.rev_ind with
  | h0 => simp [-po_comp]
  | hs b n ih =>
    rw [← List.append_assoc, prd_snoc]
    exact Nat.le_trans (ih fun m hm => hb m (List.mem_append_left _ hm)) (Nat.le_mul_of_pos_right _ (hb n (by simp [-po_comp])))
theorem few_ok {X : Exn → En → Prop} {h : List Nat} {p : Nat} (H : Hs h) (hp : 2 ≤ p) (hp2 : p ≤ 1000000) (hpr : St.prd h ≤ 520) : Wp X (m__law_few [.v (T (hI h)), .v (.int p)]) fun rv _ => rv = .v (.list (TL ((St.few h p).drop 1))) := by
  have h6 := H.len
  refine po_fnK fun Y K hY hK _ => ?_
  unfold b__law_few
  refine po_step fun K1 h1 _ _ _ => ?_
  simp [-po_comp]
  refine h1 _ ?_
  refine po_step fun K2 h2 _ _ _ => ?_
  simp [-po_comp]
  have e : (hI h).map PyData.int = h.map fun n : Nat => PyData.int (n : Int) := by simp [-po_comp, hI]
  rw [e]
  refine po_forK (fun done r => ∃ s3 s4 s5 s6, r = [.v (T (hI h)), .v (.int p), .o (.l (TL (St.few done p))), s3, s4, s5, s6, .unk] ∧ s3.isIo = false ∧ s4.isIo = false ∧ s5.isIo = false ∧ s6.isIo = false) h _ ⟨.unk, .unk, .unk, .unk, by simp [-po_comp, St.few], rfl, rfl, rfl, rfl⟩ ?_ ?_
  · rintro done n rest r e ⟨s3, s4, s5, s6, rfl, q3, q4, q5, q6⟩
    have n1 := H.pos n (by rw [e]; simp [-po_comp])
    have n2 := H.lt n (by rw [e]; simp [-po_comp])
    have hd1 : ∀ m ∈ done ++ [n], 1 ≤ m := fun m hm => H.pos m (by
      rw [e]
      rcases List.mem_append.mp hm with hm | hm
      · simp [-po_comp, hm]
      · simp [-po_comp] at hm
        simp [-po_comp, hm])
    have hlen : (St.few (done ++ [n]) p).length ≤ 520 := by
      refine Nat.le_trans (few_len hp _ hd1) (Nat.le_trans (prd_pre (b := rest) fun m hm => H.pos m (by rw [e]; simp [-po_comp, hm])) ?_)
      rw [show (done ++ [n]) ++ rest = h by rw [e]; simp]
      exact hpr
    have tf := St.few_th hp done fun m hm => hd1 m (by simp [-po_comp, hm])
    have dl : done.length < 6 := by
      have := congrArg List.length e
      simp [-po_comp] at this
      omega
    rw [St.few_snoc] at hlen
    refine ⟨[.v (T (hI h)), .v (.int p), .o (.l (TL (St.few done p))), .v (.int n), s4, s5, s6, .unk], by simp [-po_comp, q3], fun K3 h3 _ _ _ => ?_⟩
    have h3' := h3
    refine po_step fun K4 h4 _ _ _ => ?_
    simp [-po_comp, q4]
    refine h4 _ ?_
    refine po_step fun K5 h5 _ _ _ => ?_
    simp [-po_comp]
    have hfew : St.few (done ++ [n]) p = St.exl p n (St.few done p) := St.few_snoc ..
    obtain ⟨F, hF⟩ : ∃ F, F = St.few done p := ⟨_, rfl⟩
    rw [← hF] at hlen hfew tf ⊢
    refine po_forK (f := fun x : List Int => T x) (fun dn r => ∃ s5 s6 : Sl, r = [.v (T (hI h)), .v (.int p), .v (.list (TL F)), .v (.int n), .o (.l (TL (St.exl p n dn))), s5, s6, .unk] ∧ s5.isIo = false ∧ s6.isIo = false) F _ ⟨s5, s6, by simp [-po_comp, St.exl], q5, q6⟩ ?_ ?_
    · rintro dn x rs r e2 ⟨s5, s6, rfl, q5, q6⟩
      have tx := tf x (by rw [e2]; simp [-po_comp])
      have hl2 : (St.exl p n dn).length + (exg p n x).length ≤ 520 := by
        rw [e2, exl_eq, List.flatMap_append, List.flatMap_cons] at hlen
        rw [exl_eq]
        simp only [List.length_append] at hlen
        omega
      refine ⟨[.v (T (hI h)), .v (.int p), .v (.list (TL F)), .v (.int n), .o (.l (TL (St.exl p n dn))), .v (T x), s6, .unk], by simp [-po_comp, q5], fun K6 h6' _ _ _ => ?_⟩
      refine po_step fun K7 h7 _ _ _ => ?_
      simp [-po_comp, q6]
      refine h7 _ ?_
      have fin : ∀ m : Nat, m = St.mny p n x → Wp Y (sExtend 4 (oComp (iBy rng1 (aCons (getS 6) aNil)) [7] (gN 7) yes (Pu.bin addD (getS 5) (eTup (aCons (Pu.bin mulD (getS 7) (Pu.bin fdivLD (getS 3) (getS 1))) aNil)))) [.v (T (hI h)), .v (.int p), .v (.list (TL F)), .v (.int n), .o (.l (TL (St.exl p n dn))), .v (T x), .v (.int m), .unk]) K6 := by
        rintro m hm
        have mle : m ≤ 1000000 := by rw [hm]; exact Nat.le_trans (mny_le hp n1 x) n2
        simp [-po_comp]
        refine po_LC1 (fun k : Nat => .int k) (fun k : Nat => T (x ++ [(k : Int) * ((n / p : Nat) : Int)])) (List.range m) ?_ (by simp [-po_comp, noOwn_cons]) (by simp [-po_comp]; omega) ?_ ?_
        · simp [-po_comp, rng_map]
          omega
        · intro k hk
          have hk := List.mem_range.mp hk
          have hx6 := tx.1
          have hnp : n / p ≤ 1000000 := Nat.le_trans (Nat.div_le_self ..) n2
          have mo : mulOk (k : Int) ((n / p : Nat) : Int) := mulOk_b (b := 20) (c := 20) (by rw [Int.natAbs_natCast]; exact Nat.lt_of_le_of_lt (m := 1000000) (by omega) (by decide)) (by rw [Int.natAbs_natCast]; exact Nat.lt_of_le_of_lt hnp (by decide)) (by decide)
          have ed : (n : Int).fdiv (p : Int) = ((n / p : Nat) : Int) := fdiv_nat ..
          simp only [Int.natCast_ediv] at mo ed
          simp [-po_comp, show ¬ p = 0 by omega, ed, mo]
          omega
        have e3 : (exg p n x).map (fun y => T y) = (List.range m).map fun k : Nat => T (x ++ [(k : Int) * ((n / p : Nat) : Int)]) := by
          unfold exg
          rw [← hm, List.map_map]
          rfl
        rw [← e3]
        simp [-po_comp]
        refine ⟨by omega, h6' _ ⟨.v (T x), .v (.int m), ?_, rfl, rfl⟩⟩
        rw [exl_snoc]
        simp [-po_comp]
      have em : (n : Int).fmod (p : Int) = ((n % p : Nat) : Int) := by
        rw [Int.fmod_eq_emod_of_nonneg _ (by omega)]
        rfl
      refine po_step fun K8 h8 _ _ _ => ?_
      by_cases d : n % p = 0
      · obtain ⟨m, em2, hm⟩ := max_nn (xs := x ++ [0]) (by simp [-po_comp]) fun y hy => by
          rcases List.mem_append.mp hy with hy | hy
          · obtain ⟨k, hk, rfl⟩ := List.mem_iff_getElem.mp hy
            have := (tx.2 k (by rw [← tx.1]; exact hk)).1
            rw [St.vec_get hk] at this
            exact this
          · rw [List.mem_singleton.mp hy]
            decide
        have hmz : m = 0 ↔ St.mz x = true := by
          rw [hm]
          unfold St.mz
          rw [List.all_eq_true]
          constructor
          · intro q y hy
            exact decide_eq_true (q y (by simp [-po_comp, hy]))
          · intro q y hy
            rcases List.mem_append.mp hy with hy | hy
            · exact of_decide_eq_true (q y hy)
            · exact List.mem_singleton.mp hy
        have em3 : maxLT (.tuple (x.map PyData.int ++ [PyData.int 0])) = some (.int m) := by
          rw [← em2, List.map_append]
          rfl
        have d' : (n : Int) % (p : Int) = 0 := by
          have : ((n % p : Nat) : Int) = 0 := by rw [d]; rfl
          exact this
        have hx6 := tx.1
        have a21 : atI [PyData.int p, PyData.int 2] 1 = some (.int 2) := rfl
        have a20 : atI [PyData.int p, PyData.int 2] 0 = some (.int p) := rfl
        by_cases c : St.mz x = true
        · have m0 := hmz.mpr c
          have := fin 2 (by unfold St.mny; rw [if_pos d, if_pos c])
          simp [-po_comp, em, d, d', show ¬ p = 0 by omega, em3, m0, a20, a21]
          refine ⟨by omega, ?_⟩
          exact h8 _ this
        · have m0 : ¬ m = 0 := fun q => c (hmz.mp q)
          have := fin p (by unfold St.mny; rw [if_pos d, if_neg c])
          simp [-po_comp, em, d, d', show ¬ p = 0 by omega, em3, m0, a20, a21]
          refine ⟨by omega, ?_⟩
          exact h8 _ this
      · have := fin 1 (by unfold St.mny; rw [if_neg d])
        have d' : ¬ (n : Int) % (p : Int) = 0 := fun q => d (by
          have : ((n % p : Nat) : Int) = 0 := q
          omega)
        simp [-po_comp, em, d, d', show ¬ p = 0 by omega]
        exact h8 _ this
    · rintro r ⟨s5, s6, rfl, q5, q6⟩
      refine h5 _ ?_
      simp [-po_comp]
      exact h3 _ ⟨.v (.int n), .unk, s5, s6, by rw [hfew], rfl, rfl, q5, q6⟩
  · rintro r ⟨s3, s4, s5, s6, rfl, q3, q4, q5, q6⟩
    refine h2 _ ?_
    simp [-po_comp]
    refine hK _ _ _ rfl ?_
    rw [show (1 : Int) = ((1 : Nat) : Int) from rfl, cutL_drop]
    simp [-po_comp]
end K61
namespace K61
open PySem Pu L2
theorem prm_mul {p a b : Nat} (hp : St.prm p) (h : p ∣ a * b) : p ∣ a ∨ p ∣ b := by
  by_cases ha : p ∣ a
  · exact .inl ha
  · exact .inr ((St.prm_co hp ha).dvd_of_dvd_mul_left h)
abbrev PI (ps : List Nat) : List D := ps.map fun p : Nat => .int (p : Int)
structure Pr (n : Nat) (ps : List Nat) (m d : Nat) : Prop where
  d2 : 2 ≤ d
  m1 : 1 ≤ m
  mn : m ≤ n
  two : ∀ p ∈ ps, St.prm p ∧ p ∣ n
  dv : m ∣ n
  len : ps.length ≤ d
  all : ∀ q, St.prm q → q ∣ n → q ∈ ps ∨ q ∣ m
  low : ∀ q, St.prm q → q ∣ m → d ≤ q
  lt : ∀ p ∈ ps, p < d
  ord : ps.Pairwise (· < ·)
theorem primes_ok {X : Exn → En → Prop} {n : Nat} (n1 : 1 ≤ n) (n2 : n ≤ 1000000) : Wp X (m__law_primes [.v (.int n)]) fun rv _ => ∃ ps : List Nat, rv = .o (.l (PI ps)) ∧ (∀ p ∈ ps, St.prm p ∧ p ∣ n) ∧ ps.length ≤ 1002 ∧ (∀ q, St.prm q → q ∣ n → q ∈ ps) ∧ ps.Pairwise (· < ·) := by
  refine po_fnK fun Y K hY hK _ => ?_
  unfold b__law_primes
  refine po_step fun K1 h1 _ _ _ => ?_
  simp [-po_comp]
  refine h1 _ ?_
  refine po_step fun K2 h2 _ _ _ => ?_
  simp [-po_comp]
  refine h2 _ ?_
  refine po_step fun K3 h3 _ _ _ => ?_
  refine po_while (fun v r => ∃ (ps : List Nat) (m d : Nat), r = [.v (.int m), .o (.l (PI ps)), .v (.int d)] ∧ v = 2000 - d ∧ d ≤ 1001 ∧ Pr n ps m d) ?_ (2000 - 2) _ ⟨[], n, 2, rfl, rfl, by omega, ⟨by omega, n1, Nat.le_refl _, by simp, Nat.dvd_refl _, by simp, fun q hq hd => .inr hd, fun q hq hd => hq.1, by simp, List.Pairwise.nil⟩⟩
  rintro v r ⟨ps, m, d, rfl, hv, d30, P⟩
  have mo : mulOk (d : Int) (d : Int) := mulOk_b (b := 20) (c := 20) (by rw [Int.natAbs_natCast]; exact Nat.lt_of_le_of_lt (m := 1001) (by omega) (by decide)) (by rw [Int.natAbs_natCast]; exact Nat.lt_of_le_of_lt (m := 1001) (by omega) (by decide)) (by decide)
  simp [-po_comp, mo]
  have hcast : ((d : Int) * (d : Int) ≤ (m : Int)) ↔ d * d ≤ m := by
    rw [← Int.natCast_mul]
    exact Int.ofNat_le
  by_cases c : d * d ≤ m
  · rw [if_pos (hcast.mpr c)]
    have dd : d ≤ 1000 := by
      refine Classical.byContradiction fun e => ?_
      have : 1001 * 1001 ≤ d * d := Nat.mul_le_mul (by omega) (by omega)
      have := P.mn
      omega
    have d2 := P.d2
    have em : ∀ m : Nat, (m : Int).fmod (d : Int) = ((m % d : Nat) : Int) := fun m => by
      rw [Int.fmod_eq_emod_of_nonneg _ (by omega)]
      rfl
    have ediv : ∀ m : Nat, (m : Int).fdiv (d : Int) = ((m / d : Nat) : Int) := fun m => fdiv_nat ..
    have ez : ∀ m : Nat, (((m % d : Nat) : Int) = 0) ↔ m % d = 0 := fun m => by omega
    obtain ⟨qs, hqs⟩ : ∃ qs, qs = if m % d = 0 then ps ++ [d] else ps := ⟨_, rfl⟩
    refine po_step fun K4 h4 _ _ _ => ?_
    have st1 : Wp Y (sIf (tBool (Pu.bin eqD (Pu.bin modD (getS 0) (getS 2)) (M.ret (.int 0)))) (sAppend 1 (getS 2)) sNil [.v (.int m), .o (.l (PI ps)), .v (.int d)]) fun fl r => fl = .nx ∧ r = [.v (.int m), .o (.l (PI qs)), .v (.int d)] := by
      have pl := P.len
      by_cases e : m % d = 0
      · rw [if_pos e] at hqs
        subst hqs
        simp [-po_comp, em, ez, e, show ¬ d = 0 by omega, -Int.natCast_emod]
        omega
      · rw [if_neg e] at hqs
        subst hqs
        simp [-po_comp, em, ez, e, show ¬ d = 0 by omega, -Int.natCast_emod]
    refine po_mono st1 ?_
    rintro _ _ ⟨rfl, rfl⟩
    refine h4 _ ?_
    refine po_step fun K5 h5 _ _ _ => ?_
    refine po_while (fun v r => ∃ m' : Nat, r = [.v (.int m'), .o (.l (PI qs)), .v (.int d)] ∧ v = m' ∧ 1 ≤ m' ∧ m' ≤ m ∧ (∀ q, St.prm q → q ∣ m → q ∣ d ∨ q ∣ m') ∧ m' ∣ m) ?_ m _ ⟨m, rfl, rfl, P.m1, Nat.le_refl _, fun q _ hd => .inr hd, Nat.dvd_refl _⟩
    rintro w r ⟨m', rfl, hw, a1, a2, a3, a4⟩
    by_cases e : m' % d = 0
    · obtain ⟨k, hk⟩ := Nat.dvd_of_mod_eq_zero e
      have k1 : 1 ≤ k := by
        rcases Nat.eq_zero_or_pos k with z | z
        · rw [z] at hk
          omega
        · exact z
      have ek : m' / d = k := by rw [hk]; exact Nat.mul_div_cancel_left _ (by omega)
      have klt : k < m' := by
        have := Nat.mul_le_mul_right k (show 2 ≤ d from d2)
        omega
      simp [-po_comp, em, ez, e, ediv, ek, show ¬ d = 0 by omega, -Int.natCast_emod, -Int.natCast_ediv]
      refine ⟨k, by omega, k, rfl, rfl, k1, by omega, fun q hq hd => ?_, Nat.dvd_trans ⟨d, by rw [hk, Nat.mul_comm]⟩ a4⟩
      rcases a3 q hq hd with z | z
      · exact .inl z
      · rw [hk] at z
        rcases prm_mul hq z with z | z
        · exact .inl z
        · exact .inr z
    · simp [-po_comp, em, ez, e, show ¬ d = 0 by omega, -Int.natCast_emod]
      refine h5 _ ?_
      simp [-po_comp]
      refine ⟨2000 - (d + 1), by omega, qs, m', d + 1, by simp, rfl, by omega, ⟨by omega, a1, by have := P.mn; omega, fun p hp => ?_, Nat.dvd_trans a4 P.dv, ?_, fun q hq hd => ?_, fun q hq hd => ?_, fun p hp => ?_, ?_⟩⟩
      · rw [hqs] at hp
        split at hp
        · next z =>
          rcases List.mem_append.mp hp with hp | hp
          · exact P.two p hp
          · rw [List.mem_singleton.mp hp]
            have z1 := Nat.dvd_of_mod_eq_zero z
            obtain ⟨q, hq, hqd⟩ := St.prm_ex d P.d2
            have l1 := P.low q hq (Nat.dvd_trans hqd z1)
            have l2 := Nat.le_of_dvd (by omega) hqd
            have l3 : q = d := by omega
            rw [l3] at hq
            exact ⟨hq, Nat.dvd_trans z1 P.dv⟩
        · exact P.two p hp
      · have := P.len
        rw [hqs]
        split
        · simp [-po_comp]
          omega
        · omega
      · rcases P.all q hq hd with z | z
        · left
          rw [hqs]
          split
          · simp [-po_comp, z]
          · exact z
        · rcases a3 q hq z with y | y
          · left
            have l1 := P.low q hq z
            have l2 := Nat.le_of_dvd (by omega) y
            have : q = d := by omega
            subst this
            rw [hqs, if_pos (Nat.mod_eq_zero_of_dvd z)]
            simp [-po_comp]
          · exact .inr y
      · have l1 := P.low q hq (Nat.dvd_trans hd a4)
        rcases Nat.lt_or_ge d q with z | z
        · exact z
        · have : q = d := by omega
          subst this
          exact absurd (Nat.mod_eq_zero_of_dvd hd) e
      · rw [hqs] at hp
        split at hp
        · rcases List.mem_append.mp hp with hp | hp
          · have := P.lt p hp
            omega
          · rw [List.mem_singleton.mp hp]
            omega
        · have := P.lt p hp
          omega
      · rw [hqs]
        split
        · rw [List.pairwise_append]
          exact ⟨P.ord, List.pairwise_singleton _ _, fun a ha b hb => by
            rw [List.mem_singleton.mp hb]
            exact P.lt a ha⟩
        · exact P.ord
  · rw [if_neg (fun e => c (hcast.mp e))]
    refine h3 _ ?_
    have m1 := P.m1
    have pl := P.len
    have lastm : ∀ q, St.prm q → q ∣ m → q = m ∧ 1 < m := fun q hq z => by
        obtain ⟨k, hk⟩ := z
        have q1 := P.low q hq ⟨k, hk⟩
        have q2 := hq.1
        have k1 : k = 1 := by
          refine Classical.byContradiction fun e => ?_
          have k2 : 2 ≤ k := by
            rcases Nat.eq_zero_or_pos k with z | z
            · rw [z] at hk
              omega
            · omega
          obtain ⟨r, hr, hrk⟩ := St.prm_ex k k2
          have r1 := P.low r hr (Nat.dvd_trans hrk ⟨q, by rw [hk, Nat.mul_comm]⟩)
          have r2 := Nat.le_of_dvd (by omega) hrk
          have := Nat.mul_le_mul q1 (show d ≤ k by omega)
          omega
        rw [k1, Nat.mul_one] at hk
        exact ⟨hk.symm, by omega⟩
    have last : ∀ q, St.prm q → q ∣ n → q ∈ ps ∨ (q = m ∧ 1 < m) := fun q hq hd => by
      rcases P.all q hq hd with z | z
      · exact .inl z
      · exact .inr (lastm q hq z)
    refine po_step fun K4 h4 _ _ _ => ?_
    by_cases e : 1 < m
    · have e' : (1 : Int) < (m : Int) := by omega
      simp [-po_comp]
      rw [if_pos e']
      refine ⟨by omega, h4 _ ?_⟩
      simp [-po_comp]
      refine hK _ _ _ rfl ⟨ps ++ [m], by simp, fun p hp => ?_, by simp [-po_comp]; omega, fun q hq hd => ?_, ?_⟩
      · rcases List.mem_append.mp hp with hp | hp
        · exact P.two p hp
        · rw [List.mem_singleton.mp hp]
          obtain ⟨q, hq, hqd⟩ := St.prm_ex m (by omega)
          rw [(lastm q hq hqd).1] at hq
          exact ⟨hq, P.dv⟩
      · rcases last q hq hd with z | z
        · simp [-po_comp, z]
        · simp [-po_comp, z.1]
      · obtain ⟨q, hq, hqd⟩ := St.prm_ex m (by omega)
        have q1 := P.low q hq hqd
        have q2 := (lastm q hq hqd).1
        rw [List.pairwise_append]
        exact ⟨P.ord, List.pairwise_singleton _ _, fun a ha b hb => by
          rw [List.mem_singleton.mp hb]
          have := P.lt a ha
          omega⟩
    · have e' : ¬ (1 : Int) < (m : Int) := by omega
      simp [-po_comp]
      rw [if_neg e']
      refine h4 _ ?_
      simp [-po_comp]
      refine hK _ _ _ rfl ⟨ps, rfl, P.two, by omega, fun q hq hd => ?_, P.ord⟩
      rcases last q hq hd with z | z
      · exact z
      · exact absurd z.2 e
def lowL (h : List Nat) (ps : List Nat) : List (List Int) := ps.flatMap fun p => (St.few h p).drop 1
theorem lows_ok {X : Exn → En → Prop} {h : List Nat} (H : Hs h) (hpr : St.prd h ≤ 520) : Wp X (m__law_lows [.v (T (hI h))]) fun rv _ => ∃ ps : List Nat, rv = .v (.list (TL (lowL h ps))) ∧ (∀ p ∈ ps, 2 ≤ p ∧ p ≤ St.prd h) ∧ ∀ q, St.prm q → q ∣ St.prd h → q ∈ ps := by
  have h6 := H.len
  refine po_fnK fun Y K hY hK _ => ?_
  unfold b__law_lows
  refine po_step fun K1 h1 _ _ _ => ?_
  simp [-po_comp]
  refine h1 _ ?_
  refine po_step fun K2 h2 _ _ _ => ?_
  simp [-po_comp]
  have e : (hI h).map PyData.int = h.map fun n : Nat => PyData.int (n : Int) := by simp [-po_comp, hI]
  rw [e]
  refine po_forK (fun done r => ∃ s, r = [.v (T (hI h)), .v (.int (St.prd done : Nat)), s, .unk, .unk] ∧ s.isIo = false) h _ ⟨.unk, by simp [-po_comp, St.prd], rfl⟩ ?_ ?_
  · rintro done x rest r e ⟨s, rfl, q⟩
    have hx := H.lt x (by rw [e]; simp [-po_comp])
    have hd : St.prd done < 2 ^ 200 := prd_lt (by have := congrArg List.length e; simp [-po_comp] at this; omega) fun n hn => H.lt n (by rw [e]; simp [-po_comp, hn])
    refine ⟨[.v (T (hI h)), .v (.int (St.prd done : Nat)), .v (.int x), .unk, .unk], by simp [-po_comp, q], fun K3 h3 _ _ _ => ?_⟩
    have m1 : mulOk (St.prd done : Int) (x : Int) := mulOk_b (b := 200) (c := 20) (by rw [Int.natAbs_natCast]; exact hd) (by rw [Int.natAbs_natCast]; exact Nat.lt_of_le_of_lt hx (by decide)) (by decide)
    simp [-po_comp, m1]
    exact h3 _ ⟨.v (.int x), by rw [prd_snoc]; simp, rfl⟩
  · rintro r ⟨s, rfl, q⟩
    refine h2 _ ?_
    refine po_step fun K3 h3 _ _ _ => ?_
    simp [-po_comp]
    refine h3 _ ?_
    refine po_step fun K4 h4 _ _ _ => ?_
    simp [-po_comp]
    refine po_mono (primes_ok (St.prd_pos h H.pos) (by omega)) ?_
    rintro _ _ ⟨ps, rfl, hp1', hp2, hp3, _⟩
    have hp1 : ∀ p ∈ ps, 2 ≤ p ∧ p ≤ St.prd h := fun p hp => ⟨(hp1' p hp).1.1, Nat.le_of_dvd (St.prd_pos h H.pos) (hp1' p hp).2⟩
    simp [-po_comp]
    refine po_forK (fun done r => ∃ s4, r = [.v (T (hI h)), .v (.int (St.prd h : Nat)), s, .v (.list (TL (lowL h done))), s4] ∧ s4.isIo = false ∧ (lowL h done).length ≤ 520 * done.length) ps _ ⟨.unk, rfl, rfl, by simp [-po_comp, lowL]⟩ ?_ ?_
    · rintro done p rest r e ⟨s4, rfl, q4, hl⟩
      have hp := hp1 p (by rw [e]; simp [-po_comp])
      have dl : done.length < 1003 := by
        have := congrArg List.length e
        simp [-po_comp] at this
        omega
      have fl := few_len hp.1 h H.pos
      refine ⟨[.v (T (hI h)), .v (.int (St.prd h : Nat)), s, .v (.list (TL (lowL h done))), .v (.int p)], by simp [-po_comp, q4], fun K5 h5 _ _ _ => ?_⟩
      simp [-po_comp]
      refine po_mono (few_ok H hp.1 (by omega) hpr) ?_
      rintro _ _ rfl
      simp [-po_comp]
      have el : lowL h (done ++ [p]) = lowL h done ++ (St.few h p).drop 1 := by
        unfold lowL
        rw [List.flatMap_append]
        simp [-po_comp]
      refine ⟨by omega, h5 _ ⟨.v (.int p), ?_, rfl, ?_⟩⟩
      · rw [el]
        simp [-po_comp]
      · rw [el]
        simp [-po_comp]
        omega
    · rintro r ⟨s4, rfl, q4, hl⟩
      refine h4 _ ?_
      simp [-po_comp]
      exact hK _ _ _ rfl ⟨ps, rfl, hp1, hp3⟩
open Classical in
theorem tB_iff {h : List Nat} {I : List (List Int)} : tB h I = true ↔ ∀ a, St.Th h a → St.led h h I a = St.nrm h (fun _ => 0) → a = St.nrm h fun _ => 0 := by
  unfold tB
  exact decide_eq_true_iff
theorem cnt_ge {h : List Nat} (H : Hs h) : (St.prd h : Int) ≤ Z.cnt (hI h) (hI h) := by
  have ZH := zhs H
  have g1 : ∀ o ∈ hI h, o ≤ Z.cG o (hI h) := fun o ho => by
    have o1 := (ZH.2 o ho).1
    have hm : Z.gg o o ∈ (hI h).map (Z.gg o) := List.mem_map.mpr ⟨o, ho, rfl⟩
    have := Z.pr_mem (Z.gg_mem (ps := hI h) o1) hm
    have e : Z.gg o o = o := by
      unfold Z.gg
      rw [Nat.gcd_self]
      omega
    rw [e] at this
    exact this
  have key : ∀ xs : List Nat, (∀ n ∈ xs, 1 ≤ n) → (∀ n ∈ xs, (n : Int) ≤ Z.cG n (hI h)) → (St.prd xs : Int) ≤ Z.pr ((hI xs).map fun o => Z.cG o (hI h)) := by
    intro xs
    induction xs using St.rev_ind with
    | h0 => intro _ _; simp [-po_comp, St.prd, hI, Z.pr]
    | hs xs x ih =>
      intro p1 p2
      have i1 := ih (fun n hn => p1 n (by simp [-po_comp, hn])) fun n hn => p2 n (by simp [-po_comp, hn])
      have i2 := p2 x (by simp [-po_comp])
      have e : hI (xs ++ [x]) = hI xs ++ [(x : Int)] := by simp [-po_comp, hI]
      rw [prd_snoc, e, List.map_append, Z.pr_app]
      have : Z.pr ([(x : Int)].map fun o => Z.cG o (hI h)) = Z.cG x (hI h) := by simp [-po_comp, Z.pr]
      rw [this, Int.natCast_mul]
      exact Int.mul_le_mul i1 i2 (by omega) (Int.le_trans (by omega) i1)
  exact key h H.pos fun n hn => g1 _ (List.mem_map.mpr ⟨n, hn, rfl⟩)
end K61
namespace K61.Z
open PySem Pu L2
theorem counted_ok {X : Exn → En → Prop} {os : List Int} (HO : Hs os) : Wp X (m__law_counted [.v (T os)]) fun rv _ => rv = .v (.int (cnt os os)) := by
  refine po_fnK fun Y K hY hK _ => ?_
  unfold b__law_counted
  refine po_step fun K1 h1 _ _ _ => ?_
  simp [-po_comp]
  refine h1 _ ?_
  refine po_step fun K2 h2 _ _ _ => ?_
  simp [-po_comp]
  refine po_forK (fun done r => ∃ s3 s4 : Sl, r = [.v (T os), .v (.int (cnt done os)), s3, s4] ∧ s3.isIo = false ∧ s4.isIo = false) os _ ⟨.unk, .unk, by simp [-po_comp, cnt, pr], rfl, rfl⟩ ?_ ?_
  · rintro done o rest r e ⟨s3, s4, rfl, q3, q4⟩
    have ho := HO.2 o (by rw [e]; simp [-po_comp])
    have HD : Hs (done ++ [o]) := by
      have e2 : os = (done ++ [o]) ++ rest := by rw [e]; simp [-po_comp]
      refine ⟨?_, fun x hx => HO.2 x (by rw [e2]; exact List.mem_append_left _ hx)⟩
      have := HO.1
      rw [e2, List.length_append] at this
      omega
    have HD0 : Hs done := ⟨by have := HD.1; rw [List.length_append] at this; omega, fun x hx => HD.2 x (by simp [-po_comp, hx])⟩
    refine ⟨[.v (T os), .v (.int (cnt done os)), .v (.int o), s4], by simp [-po_comp, q3], fun K3 h3 _ _ _ => ?_⟩
    simp [-po_comp]
    refine po_forK (fun dn r => ∃ s4 : Sl, r = [.v (T os), .v (.int (cnt done os * cG o dn)), .v (.int o), s4] ∧ s4.isIo = false) os _ ⟨s4, by simp [-po_comp, cG, pr], q4⟩ ?_ ?_
    · rintro dn p rest r e ⟨s4, rfl, q4⟩
      have hp := HO.2 p (by rw [e]; simp [-po_comp])
      have c1 := cnt_pos (ps := os) HD0
      have c2 := cG_pos (ps := dn) ho.1
      have hle : cnt done os * cG o dn ≤ ((10 ^ 6) ^ 6) ^ 6 := by
        have a1 : cG o dn ≤ cG o os := by
          conv => rhs; rw [e]
          exact cG_pre ho.1
        have a2 : cnt done os * cG o os = cnt (done ++ [o]) os := by
          unfold cnt
          rw [List.map_append, pr_app]
          simp [-po_comp, pr]
        have a3 := cnt_le HD HO
        have a4 := Int.mul_le_mul_of_nonneg_left a1 (show 0 ≤ cnt done os by omega)
        omega
      have hge : 0 ≤ cnt done os * cG o dn := Int.mul_nonneg (by omega) (by omega)
      have g1 := gg_pos (o := o) (p := p) ho.1
      have g2 := gg_le (o := o) (p := p) hp.1
      have hm : mulOk (cnt done os * cG o dn) (gg o p) := mulOk_r ⟨by omega, by omega⟩
      refine ⟨[.v (T os), .v (.int (cnt done os * cG o dn)), .v (.int o), .v (.int p)], by simp [-po_comp, q4], fun K4 h4 _ _ _ => ?_⟩
      simp [-po_comp]
      refine po_mono (measure_gg ho.1 hp.1) ?_
      rintro _ _ rfl
      simp [-po_comp, hm]
      refine h4 _ ⟨.v (.int p), ?_, rfl⟩
      simp [-po_comp, cG, pr_app, pr, Int.mul_assoc]
    · rintro r ⟨s4, rfl, q4⟩
      refine h3 _ ⟨.v (.int o), s4, ?_, rfl, q4⟩
      simp [-po_comp, cnt, pr_app, pr]
  · rintro r ⟨s3, s4, rfl, q3, q4⟩
    refine h2 _ ?_
    simp [-po_comp]
    exact hK _ _ _ rfl rfl
theorem all_ok {X : Exn → En → Prop} {os : List Int} (HO : Hs os) (hc : cnt os os ≤ 520) : Wp X (m__law_all [.v (T os)]) fun rv _ => rv = .o (.l (allW os os)) := by
  refine po_fnK fun Y K hY hK _ => ?_
  unfold b__law_all
  have hp6 := HO.1
  have HO1 : ∀ o ∈ os, 1 ≤ o := fun o ho => (HO.2 o ho).1
  have hwl : (wyF os os).length ≤ 520 := sixle (by rw [wyF_len os HO1]; exact hc)
  refine po_step fun K1 h1 _ _ _ => ?_
  simp [-po_comp]
  refine h1 _ ?_
  refine po_step fun K2 h2 _ _ _ => ?_
  simp [-po_comp]
  refine po_forK (fun done r => ∃ s2 s3 s4 s5 s6 s7 : Sl, r = [.v (T os), .o (.l (TTS (wyF done os))), s2, s3, s4, s5, s6, s7, .unk, .unk, .unk] ∧ s2.isIo = false ∧ s3.isIo = false ∧ s4.isIo = false ∧ s5.isIo = false ∧ s6.isIo = false ∧ s7.isIo = false ∧ s7.own = none) os _ ⟨.unk, .unk, .unk, .unk, .unk, .unk, by simp [-po_comp, wyF], rfl, rfl, rfl, rfl, rfl, rfl, rfl⟩ ?_ ?_
  · rintro done o rest r e ⟨s2, s3, s4, s5, s6, s7, rfl, q2, q3, q4, q5, q6, q7, q7o⟩
    have ho := HO.2 o (by rw [e]; simp [-po_comp])
    have hco : cG o os ≤ 520 := by have := cG_cnt (ps := os) HO (o := o) (by rw [e]; simp [-po_comp]); omega
    have e1 : os = (done ++ [o]) ++ rest := by rw [e]; simp [-po_comp]
    have hle : (wyF (done ++ [o]) os).length ≤ 520 := sixle (by
      rw [wyF_len os fun x hx => HO1 x (by rw [e1]; exact List.mem_append_left _ hx)]
      have := cnt_pre (os := done ++ [o]) (qs := rest) (ps := os) (by rw [← e1]; exact HO)
      rw [← e1] at this
      omega)
    rw [wyF_app] at hle
    rw [wyF_app]
    have hil : (imF o os).length ≤ 520 := sixle (by rw [imF_len ho.1]; exact hco)
    refine ⟨[.v (T os), .o (.l (TTS (wyF done os))), .v (.int o), s3, s4, s5, s6, s7, .unk, .unk, .unk], by simp [-po_comp, q2], fun K3 h3 _ _ _ => ?_⟩
    refine po_step fun K4 h4 _ _ _ => ?_
    simp [-po_comp, q3]
    refine h4 _ ?_
    refine po_step fun K5 h5 _ _ _ => ?_
    simp [-po_comp]
    refine po_forK (fun dq r => ∃ s4 s5 s6 s7 : Sl, r = [.v (T os), .o (.l (TTS (wyF done os))), .v (.int o), .o (.l (TS (imF o dq))), s4, s5, s6, s7, .unk, .unk, .unk] ∧ s4.isIo = false ∧ s5.isIo = false ∧ s6.isIo = false ∧ s7.isIo = false ∧ s7.own = none) os _ ⟨s4, s5, s6, s7, by simp [-po_comp, imF], q4, q5, q6, q7, q7o⟩ ?_ ?_
    · rintro dq p rest2 r ep ⟨s4, s5, s6, s7, rfl, q4, q5, q6, q7, q7o⟩
      have hp := HO.2 p (by rw [ep]; simp [-po_comp])
      have g1 := gg_pos (o := o) (p := p) ho.1
      have g2 := gg_le (o := o) (p := p) hp.1
      have s1 := sh_pos ho.1 hp.1
      have s2 := sh_le ho.1 hp.1
      have ef : p.fdiv (gg o p) = sh o p := Int.fdiv_eq_ediv_of_nonneg _ (by omega)
      have hle2 : (imF o (dq ++ [p])).length ≤ 520 := sixle (by
        rw [imF_len ho.1]
        have : cG o (dq ++ [p]) ≤ cG o os := by
          conv => rhs; rw [ep, show dq ++ p :: rest2 = (dq ++ [p]) ++ rest2 by simp]
          exact cG_pre ho.1
        omega)
      rw [imF_app] at hle2
      rw [imF_app]
      refine ⟨[.v (T os), .o (.l (TTS (wyF done os))), .v (.int o), .o (.l (TS (imF o dq))), .v (.int p), s5, s6, s7, .unk, .unk, .unk], by simp [-po_comp, q4], fun K6 h6 _ _ _ => ?_⟩
      refine po_step fun K7 h7 _ _ _ => ?_
      simp [-po_comp]
      refine po_mono (measure_gg ho.1 hp.1) ?_
      rintro _ _ rfl
      simp [-po_comp, q5]
      refine h7 _ ?_
      refine po_step fun K8 h8 _ _ _ => ?_
      simp [-po_comp, q6]
      refine h8 _ ?_
      refine po_step fun K9 h9 _ _ _ => ?_
      simp [-po_comp]
      refine po_forK (f := fun x : List Int => T x) (fun dn r => ∃ s7 : Sl, r = [.v (T os), .o (.l (TTS (wyF done os))), .v (.int o), .v (.list (TS (imF o dq))), .v (.int p), .v (.int (gg o p)), .o (.l (TS (ext dn (shs o p)))), s7, .unk, .unk, .unk] ∧ s7.isIo = false ∧ s7.own = none) (imF o dq) _ ⟨s7, rfl, q7, q7o⟩ ?_ ?_
      · rintro dn x rs r e2 ⟨s7, rfl, q7, q7o⟩
        have hl2 := ext_le (F := dn) (x := x) (F' := rs) (G := shs o p) (n := 520) (by rw [← e2]; exact hle2)
        rw [ext_TS]
        refine ⟨[.v (T os), .o (.l (TTS (wyF done os))), .v (.int o), .v (.list (TS (imF o dq))), .v (.int p), .v (.int (gg o p)), .o (.l (TS (ext dn (shs o p)))), .v (T x), .unk, .unk, .unk], by simp [-po_comp, q7], fun K10 h10 _ _ _ => ?_⟩
        have hxl : x.length ≤ 6 := by
          have hx : x ∈ imF o dq := by rw [e2]; simp [-po_comp]
          have := (imF_mem ho.1 (fun p hp => HO.2 p (by rw [ep]; simp [-po_comp, hp])) hx).1
          have h6 := HO.1
          rw [ep, List.length_append] at h6
          omega
        simp [-po_comp]
        refine po_LC1 (fun k : Nat => .int k) (fun k : Nat => T (x ++ [sh o p * k])) (List.range (gg o p).toNat) ?_ ?_ ?_ ?_ ?_
        · simp [-po_comp, rng_map]
          omega
        · simp [-po_comp]
        · simp [-po_comp]
          omega
        · intro k hk
          have hk := List.mem_range.mp hk
          have hm : mulOk (k : Int) (sh o p) := mulOk_l ⟨by omega, by omega⟩
          simp [-po_comp, hm, Int.mul_comm, show ¬ gg o p = 0 by omega, ef]
          omega
        have e3 : (shs o p).map (fun g => T (x ++ [g])) = (List.range (gg o p).toNat).map fun k : Nat => T (x ++ [sh o p * k]) := by
          unfold shs
          rw [List.map_map]
          rfl
        rw [← e3]
        have hl3 : (ext dn (shs o p)).length + (shs o p).length ≤ 16777216 := by omega
        simp [-po_comp]
        refine ⟨hl3, h10 _ ⟨.v (T x), by simp, rfl, rfl⟩⟩
      · rintro r ⟨s7, rfl, q7, q7o⟩
        refine h9 _ ?_
        simp [-po_comp]
        exact h6 _ ⟨.v (.int p), .v (.int (gg o p)), .unk, s7, rfl, rfl, rfl, rfl, q7, q7o⟩
    rintro r ⟨s4, s5, s6, s7, rfl, q4, q5, q6, q7, q7o⟩
    refine h5 _ ?_
    refine po_step fun K6 h6 _ _ _ => ?_
    simp [-po_comp, q6]
    refine h6 _ ?_
    refine po_step fun K7 h7 _ _ _ => ?_
    simp [-po_comp]
    refine po_forK (f := fun x : List (List Int) => TT x) (fun dn r => ∃ s7 E3 : Sl, r = [.v (T os), .v (.list (TTS (wyF done os))), .v (.int o), E3, s4, s5, .o (.l (TTS (ext dn (imF o os)))), s7, .unk, .unk, .unk] ∧ s7.isIo = false ∧ s7.own = none ∧ (E3 = .o (.l (TS (imF o os))) ∨ E3 = .v (.list (TS (imF o os))))) (wyF done os) _ ⟨s7, _, rfl, q7, q7o, .inl rfl⟩ ?_ ?_
    · rintro dn x rs r e2 ⟨s7, E3, rfl, q7, q7o, hE⟩
      have hl2 := ext_le (F := dn) (x := x) (F' := rs) (G := imF o os) (n := 520) (by rw [← e2]; exact hle)
      rw [ext_TTS]
      have hxl : x.length ≤ 6 := by
        have hx : x ∈ wyF done os := by rw [e2]; simp [-po_comp]
        have := (wyF_mem (fun o ho => HO1 o (by rw [e]; simp [-po_comp, ho])) HO.2 hx).1
        have h6 := HO.1
        rw [e, List.length_append] at h6
        omega
      refine ⟨[.v (T os), .v (.list (TTS (wyF done os))), .v (.int o), E3, s4, s5, .o (.l (TTS (ext dn (imF o os)))), .v (TT x), .unk, .unk, .unk], by simp [-po_comp, q7], fun K8 h8 _ _ _ => ?_⟩
      have hf : frzE 3 [.v (T os), .v (.list (TTS (wyF done os))), .v (.int o), E3, s4, s5, .o (.l (TTS (ext dn (imF o os)))), .v (TT x), .unk, .unk, .unk] = [.v (T os), .v (.list (TTS (wyF done os))), .v (.int o), .v (.list (TS (imF o os))), s4, s5, .o (.l (TTS (ext dn (imF o os)))), .v (TT x), .unk, .unk, .unk] := by
        rcases hE with rfl | rfl <;> rfl
      rw [frz_ap, hf]
      simp [-po_comp]
      refine po_LC1 (fun y : List Int => T y) (fun y : List Int => TT (x ++ [y])) (imF o os) ?_ ?_ ?_ ?_ ?_
      · simp [-po_comp]
      · simp [-po_comp]
      · omega
      · intro y hy
        simp [-po_comp]
        omega
      have hl3 : (ext dn (imF o os)).length + (imF o os).length ≤ 16777216 := by omega
      simp [-po_comp]
      refine ⟨hl3, h8 _ ⟨.v (TT x), _, by simp, rfl, rfl, .inr rfl⟩⟩
    · rintro r ⟨s7, E3, rfl, q7, q7o, hE⟩
      refine h7 _ ?_
      simp [-po_comp]
      refine h3 _ ⟨.v (.int o), E3, s4, s5, .unk, s7, rfl, rfl, ?_, q4, q5, rfl, q7, q7o⟩
      rcases hE with rfl | rfl <;> rfl
  · rintro r ⟨s2, s3, s4, s5, s6, s7, rfl, q2, q3, q4, q5, q6, q7, q7o⟩
    refine h2 _ ?_
    simp [-po_comp]
    refine po_LC1 (fun x : List (List Int) => TT x) (fun x : List (List Int) => WD os os x) (wyF os os) ?_ ?_ ?_ ?_ ?_
    · simp [-po_comp]
    · simp [-po_comp]
    · omega
    · intro x hx
      simp [-po_comp]
    exact hK _ _ _ rfl rfl
end K61.Z
namespace K61.V
open PySem Pu L2
/-! ### the pen -/
def PenT (cs : List Int) (b : Nat) (c : Ct) : Prop := ∃ a l : Int, c = .l [.list (cs.map .int), .int a, .int l] ∧ 0 ≤ a ∧ a ≤ b ∧ 0 ≤ l
theorem PenT.le {cs : List Int} {n m : Nat} {c : Ct} (h : PenT cs n c) (hm : n ≤ m) : PenT cs m c := by
  obtain ⟨a, l, h1, h2, h3, h4⟩ := h
  exact ⟨a, l, h1, h2, by omega, h4⟩
def DrT (cs : List Int) (b : Nat) (n : Nat) (rv : RV) (z : List Sl) : Prop := ∃ (k : Nat) (c : Ct) (t : List Sl), rv = .v (.int k) ∧ k < n ∧ z = .io c :: t ∧ PenT cs (b + 1) c
theorem at0 (x y z : D) : atI [x, y, z] 0 = some x := rfl
theorem at1 (x y z : D) : atI [x, y, z] 1 = some y := rfl
theorem at2 (x y z : D) : atI [x, y, z] 2 = some z := rfl
theorem ix1 : ixN 3 1 = some 1 := rfl
theorem ix2 : ixN 3 2 = some 2 := rfl
theorem take_ok {X : Exn → En → Prop} {cs : List Int} {b : Nat} {p : Ct} {n : Nat} (hp : PenT cs b p) (hb : b < 1000000) (hn : 0 < n) (hn2 : n < 2 ^ 1900) : Wp X (m__law_take [.io p, .v (.int n)]) (DrT cs b n) := by
  obtain ⟨a, l, rfl, ha, hab, hl⟩ := hp
  refine po_fn ?_
  unfold b__law_take
  have hn' : ¬ (n : Int) = 0 := by omega
  have hlog : n.log2 < 9000 := by
    have : n.log2 < 1900 := PySem.Flt.log2_lt_of (by decide) hn2
    omega
  have hm : ∀ x, mulOk x a := fun x => mulOk_r ⟨by omega, by omega⟩
  have fk : ∀ x : Int, ∃ k : Nat, x.fmod n = (k : Int) ∧ k < n := fun x => by
    obtain ⟨h1, h2⟩ := fmod_pos x (show (0 : Int) < n by omega)
    obtain ⟨k, hk⟩ := Int.eq_ofNat_of_zero_le h1
    exact ⟨k, hk, by omega⟩
  have fin : ∀ (x a' l' : Int) (t : List Sl), 0 ≤ a' → a' ≤ b + 1 → 0 ≤ l' → DrT cs b n (.v (.int (x.fmod n))) (.io (.l [.list (cs.map .int), .int a', .int l']) :: t) := fun x a' l' t h1 h2 h3 => by
    obtain ⟨k, e, hk⟩ := fk x
    exact ⟨k, _, t, by rw [e], hk, rfl, a', l', rfl, h1, by omega, h3⟩
  have f1 : ∀ x : Int, DrT cs b n (.v (.int (x.fmod n))) [.io (.l [.list (cs.map .int), .int a, .int (l.fdiv n)]), .v (.int n)] := fun x => fin x _ _ _ ha (by omega) (fdiv_nn hl (by omega))
  have f2 : ∀ x y : Int, 0 ≤ y → DrT cs b n (.v (.int (x.fmod n))) [.io (.l [.list (cs.map .int), .int (a + 1), .int (y.fdiv n)]), .v (.int n)] := fun x y hy => fin x _ _ _ (by omega) (by omega) (fdiv_nn hy (by omega))
  have f3 : ∀ x : Int, DrT cs b n (.v (.int (x.fmod n))) [.io (.l [.list (cs.map .int), .int (a + 1), .int l]), .v (.int n)] := fun x => fin x _ _ _ (by omega) (by omega) hl
  have n0 : ¬ n = 0 := by omega
  have m1 : ∀ x y : Int, mulOk (x.fmod 2147483647) y := fun x y => mulOk_l (by have := fmod_pos x (n := 2147483647) (by decide); omega)
  have m2 : ∀ x y : Int, mulOk (x.fmod 2147483629) y := fun x y => mulOk_l (by have := fmod_pos x (n := 2147483629) (by decide); omega)
  by_cases hc : cs = []
  · subst hc
    simp at f1 f2 f3
    simp [po_seq, hn', hlog, at0, at1, at2, ix1, ix2, hm, ha, Int.not_lt.mpr ha, f1, f2, f3, n0, m1, m2]
  · have hlen : 0 < cs.length := List.length_pos_iff.mpr hc
    obtain ⟨c, hc1, -⟩ := atI_nn (xs := cs) (n := a.fmod cs.length) (fmod_pos a (show (0 : Int) < cs.length by omega)).1 (fmod_pos a (show (0 : Int) < cs.length by omega)).2
    simp [po_seq, hn', hlog, at0, at1, at2, ix1, ix2, hm, hc, hc1, hlen, f1, f2, f3, n0, m1, m2]
/-! ### numbers -/
theorem gcd_step (x y : Nat) : Nat.gcd y (x % y) = Nat.gcd x y := by
  rw [Nat.gcd_comm y, ← Nat.gcd_rec, Nat.gcd_comm]
theorem measure_ok {X : Exn → En → Prop} (a b : Nat) : Wp X (m__law_measure [.v (.int a), .v (.int b)]) fun rv _ => rv = .v (.int (Nat.gcd a b)) := by
  refine po_fn ?_
  unfold b__law_measure
  rw [po_seq]
  refine po_while (fun n r => ∃ x y : Nat, r = [.v (.int x), .v (.int y)] ∧ n = y ∧ Nat.gcd x y = Nat.gcd a b) ?_ b _ ⟨a, b, rfl, rfl, rfl⟩
  rintro n r ⟨x, y, rfl, hn, hg⟩
  simp
  split
  · refine ⟨by omega, x % y, by rw [hn]; exact Nat.mod_lt _ (by omega), y, x % y, ⟨rfl, ?_⟩, rfl, by rw [gcd_step]; exact hg⟩
    rw [Int.fmod_eq_emod_of_nonneg _ (by omega)]
    rfl
  · have : y = 0 := by omega
    subst this
    rw [Nat.gcd_zero_right] at hg
    rw [hg]
abbrev T (xs : List Int) : D := .tuple (xs.map .int)
abbrev IN (xs : List Nat) : List Int := xs.map fun n : Nat => (n : Int)
abbrev N (xs : List Nat) : D := .tuple (xs.map fun n : Nat => .int (n : Int))
def B130 : Nat := 2 ^ 130
def HoN (hs : List Nat) : Prop := hs.length ≤ 6 ∧ ∀ h ∈ hs, 1 ≤ h ∧ h < B130
theorem HoN.at {hs : List Nat} (H : HoN hs) {i h : Nat} (e : hs[i]? = some h) : 1 ≤ h ∧ h < B130 := H.2 h (List.mem_of_getElem? e)
/-! the least number that all divide -/
def lcmL (hs : List Nat) : Nat := hs.foldl (fun l h => Nat.lcm l h) 1
theorem lcmL_app (hs : List Nat) (h : Nat) : lcmL (hs ++ [h]) = Nat.lcm (lcmL hs) h := by
  unfold lcmL
  rw [List.foldl_append]
  rfl
theorem rev_ind {P : List Nat → Prop} (h0 : P []) (hs : ∀ xs x, P xs → P (xs ++ [x])) (xs : List Nat) : P xs := by
  have : ∀ ys : List Nat, P ys.reverse := by
    intro ys
    induction ys with
    | nil => exact h0
    | cons y ys ih =>
      rw [List.reverse_cons]
      exact hs _ _ ih
  have := this xs.reverse
  rwa [List.reverse_reverse] at this
theorem lcmL_pos : ∀ {hs : List Nat}, (∀ h ∈ hs, 1 ≤ h) → 0 < lcmL hs := by
  intro hs
  refine rev_ind (P := fun hs => (∀ h ∈ hs, 1 ≤ h) → 0 < lcmL hs) ?_ ?_ hs
  · intro _; decide
  · intro hs h ih hh
    rw [lcmL_app]
    exact Nat.lcm_pos (ih fun x hx => hh x (List.mem_append_left _ hx)) (hh h (by simp))
theorem lcm_le {a b : Nat} (ha : 0 < a) : Nat.lcm a b ≤ a * b := by
  unfold Nat.lcm
  exact Nat.div_le_self _ _
theorem lcmL_le {B : Nat} : ∀ {hs : List Nat}, (∀ h ∈ hs, 1 ≤ h ∧ h ≤ B) → lcmL hs ≤ B ^ hs.length := by
  intro hs
  refine rev_ind (P := fun hs => (∀ h ∈ hs, 1 ≤ h ∧ h ≤ B) → lcmL hs ≤ B ^ hs.length) ?_ ?_ hs
  · intro _; simp [lcmL]
  · intro hs h ih hh
    have i1 := ih fun x hx => hh x (List.mem_append_left _ hx)
    have p1 := lcmL_pos (hs := hs) fun x hx => (hh x (List.mem_append_left _ hx)).1
    rw [lcmL_app, List.length_append, List.length_singleton, Nat.pow_succ]
    exact Nat.le_trans (lcm_le p1) (Nat.mul_le_mul i1 (hh h (by simp)).2)
theorem pow6 {B k : Nat} (hB : 1 ≤ B) (hk : k ≤ 6) : B ^ k ≤ B ^ 6 := Nat.pow_le_pow_right hB hk
theorem HoN.lcm {hs : List Nat} (H : HoN hs) : 0 < lcmL hs ∧ lcmL hs < 2 ^ 1900 := ⟨lcmL_pos fun h hh => (H.2 h hh).1, by
  have h1 := lcmL_le (B := B130) (hs := hs) fun h hh => ⟨(H.2 h hh).1, Nat.le_of_lt (H.2 h hh).2⟩
  have h2 := pow6 (B := B130) (by decide +kernel) H.1
  have h3 : B130 ^ 6 < 2 ^ 1900 := by decide +kernel
  omega⟩
/-! ### form_of -/
def dvs (L : Nat) (xs : List Nat) : Prop := ∀ x ∈ xs, 1 ≤ x ∧ x ∣ L
theorem dvs.at {L : Nat} {xs : List Nat} (h : dvs L xs) {i x : Nat} (e : xs[i]? = some x) : 1 ≤ x ∧ x ∣ L := h x (List.mem_of_getElem? e)
theorem dvs.set {L : Nat} {xs : List Nat} (h : dvs L xs) {i x : Nat} (h1 : 1 ≤ x) (h2 : x ∣ L) : dvs L (xs.set i x) := fun y hy => by
  rcases List.mem_or_eq_of_mem_set hy with hy | rfl
  · exact h y hy
  · exact ⟨h1, h2⟩
abbrev LN (xs : List Nat) : List D := xs.map fun n : Nat => .int (n : Int)
theorem great_ok {X : Exn → En → Prop} {cs : List Int} {b : Nat} {p : Ct} (hp : PenT cs b p) (hb : b < 90000) : Wp X (m__law_great [.io p]) fun rv z => ∃ (hs : List Nat) (c : Ct) (t : List Sl), rv = .v (N hs) ∧ hs.length ≤ 6 ∧ (∀ h ∈ hs, 1 ≤ h ∧ h ≤ 1000000) ∧ z = .io c :: t ∧ PenT cs (b + 20) c := by
  refine po_fnK fun Y K hY hK _ => ?_
  unfold b__law_great
  refine po_step fun K1 h1 _ _ _ => ?_
  simp
  refine po_mono (take_ok (n := 5) hp (by omega) (by decide) (by decide +kernel)) ?_
  rintro _ _ ⟨k, c, t, rfl, k1, rfl, hp⟩
  obtain ⟨ba, eba, ba1, ba2⟩ : ∃ ba : Nat, [PyData.int 1000000, .int 720720, .int 524288, .int 531441, .int 360360][k]? = some (.int (ba : Int)) ∧ 1 ≤ ba ∧ ba ≤ 1000000 := by
    match k, k1 with
    | 0, _ => exact ⟨1000000, rfl, by decide, by decide⟩
    | 1, _ => exact ⟨720720, rfl, by decide, by decide⟩
    | 2, _ => exact ⟨524288, rfl, by decide, by decide⟩
    | 3, _ => exact ⟨531441, rfl, by decide, by decide⟩
    | 4, _ => exact ⟨360360, rfl, by decide, by decide⟩
  simp [eba]
  refine h1 _ ?_
  refine po_step fun K2 h2 _ _ _ => ?_
  simp
  refine h2 _ ?_
  refine po_step fun K3 h3 _ _ _ => ?_
  simp
  refine po_mono (take_ok (n := 6) hp (by omega) (by decide) (by decide +kernel)) ?_
  rintro _ _ ⟨n, c, t, rfl, n1, rfl, hp⟩
  simp
  refine ⟨by omega, ?_⟩
  have en : (1 + (n : Int)).toNat = n + 1 := by omega
  rw [en]
  refine po_rngK (fun i r => ∃ (hs : List Nat) (c : Ct) (s3 s4 s5 : Sl), r = [.io c, .v (.int ba), .o (.l (LN hs)), s3, s4, s5] ∧ hs.length = i ∧ (∀ h ∈ hs, 1 ≤ h ∧ h ≤ 1000000) ∧ PenT cs (b + 2 + 3 * i) c ∧ s3.isIo = false ∧ s4.isIo = false ∧ s5.isIo = false) _ _ ⟨[], c, _, _, _, rfl, rfl, by simp, hp, rfl, rfl, rfl⟩ ?_ ?_
  · rintro i r hi ⟨hs, c, s3, s4, s5, rfl, hl, hh, hp, q3, q4, q5⟩
    refine ⟨[.io c, .v (.int ba), .o (.l (LN hs)), .v (.int i), s4, s5], by simp [q3], fun K4 h4 _ _ _ => ?_⟩
    refine po_step fun K5 h5 _ _ _ => ?_
    simp
    refine po_mono (take_ok (n := 4) hp (by omega) (by decide) (by decide +kernel)) ?_
    rintro _ _ ⟨so, c, t, rfl, so1, rfl, hp⟩
    simp [q4]
    refine h5 _ ?_
    refine po_step fun K6 h6 _ _ _ => ?_
    simp
    refine po_mono (take_ok (n := 1000000) hp (by omega) (by decide) (by decide +kernel)) ?_
    rintro _ _ ⟨v, c, t, rfl, v1, rfl, hp⟩
    simp [q5]
    refine h6 _ ?_
    have fin : ∀ (c : Ct) (o : Nat), PenT cs (b + 2 + 3 * (i + 1)) c → 1 ≤ o → o ≤ 1000000 → Wp Y (sAppend 2 (getS 5) [.io c, .v (.int ba), .o (.l (LN hs)), .v (.int i), .v (.int so), .v (.int o)]) K4 := by
      intro c o hp o1 o2
      simp
      refine ⟨by omega, h4 _ ⟨hs ++ [o], c, .v (.int i), .v (.int so), .v (.int o), by simp, by simp [hl], ?_, hp, rfl, rfl, rfl⟩⟩
      intro h hm
      rcases List.mem_append.mp hm with hm | hm
      · exact hh h hm
      · rw [List.mem_singleton.mp hm]
        omega
    have c0 : ∀ o : Nat, 1 ≤ o → o ≤ 1000000 → Wp Y (sSeq (sIf (tBool (Pu.bin eqD (getS 4) (M.ret (.int 2))))
  (sSet 5 (Pu.bin ixD (frzM (oLst (aCons (M.ret (.int 999983)) (aCons (M.ret (.int 1000000)) (aCons (M.ret (.int 999999)) (aCons (M.ret (.int 65536)) (aCons (M.ret (.int 59049)) (aCons (M.ret (.int 1)) aNil)))))))) (frzM (cCallI 0 m__law_take (aCons (M.ret (.int 6)) aNil)))))
  sNil)
  (sAppend 2 (getS 5)) [.io c, .v (.int ba), .o (.l (LN hs)), .v (.int i), .v (.int so), .v (.int o)]) K4 := by
      intro o o1 o2
      refine po_step fun K7 h7 _ _ _ => ?_
      by_cases hs2 : so = 2
      · subst hs2
        simp
        refine po_mono (take_ok (n := 6) hp (by omega) (by decide) (by decide +kernel)) ?_
        rintro _ _ ⟨k, c, t, rfl, k1, rfl, hp⟩
        obtain ⟨z, ez, z1, z2⟩ : ∃ z : Nat, [PyData.int 999983, .int 1000000, .int 999999, .int 65536, .int 59049, .int 1][k]? = some (.int (z : Int)) ∧ 1 ≤ z ∧ z ≤ 1000000 := by
          match k, k1 with
          | 0, _ => exact ⟨999983, rfl, by decide, by decide⟩
          | 1, _ => exact ⟨1000000, rfl, by decide, by decide⟩
          | 2, _ => exact ⟨999999, rfl, by decide, by decide⟩
          | 3, _ => exact ⟨65536, rfl, by decide, by decide⟩
          | 4, _ => exact ⟨59049, rfl, by decide, by decide⟩
          | 5, _ => exact ⟨1, rfl, by decide, by decide⟩
        simp [ez]
        exact h7 _ (fin c z (hp.le (by omega)) z1 z2)
      · have hs2' : ¬ (so : Int) = 2 := by omega
        simp [hs2']
        exact h7 _ (fin c o (hp.le (by omega)) o1 o2)
    refine po_step fun K7 h7 _ _ _ => ?_
    by_cases s0 : so = 0
    · subst s0
      simp
      refine h7 _ ?_
      refine po_step fun K8 h8 _ _ _ => ?_
      simp
      exact h8 _ (c0 ba ba1 ba2)
    have s0' : ¬ (so : Int) = 0 := by omega
    simp [s0]
    refine h7 _ ?_
    refine po_step fun K8 h8 _ _ _ => ?_
    by_cases s1 : so = 1
    · subst s1
      simp
      have m := measure_ok (X := fun e _ => Y e [.io c, .v (.int ba), .o (.l (LN hs)), .v (.int i), .v (.int 1), .v (.int (1 + v))]) ba (1 + v)
      simp at m
      refine po_mono m ?_
      rintro _ _ rfl
      simp
      have g0 : 0 < Nat.gcd ba (1 + v) := Nat.gcd_pos_of_pos_left _ (by omega)
      have g1 : Nat.gcd ba (1 + v) ≤ ba := Nat.le_of_dvd (by omega) (Nat.gcd_dvd_left _ _)
      exact h8 _ (c0 (Nat.gcd ba (1 + v)) g0 (by omega))
    have s1' : ¬ (so : Int) = 1 := by omega
    simp [s1']
    have := c0 (1 + v) (by omega) (by omega)
    refine h8 _ ?_
    simpa using this
  · rintro r ⟨hs, c, s3, s4, s5, rfl, hl, hh, hp, q3, q4, q5⟩
    refine h3 _ ?_
    simp
    exact hK _ _ _ rfl ⟨hs, c, _, rfl, by omega, hh, rfl, hp.le (by omega)⟩
theorem lt_of_at {as : List Int} {i : Nat} {a : Int} (h : as[i]? = some a) : i < as.length := (List.getElem?_eq_some_iff.mp h).1
theorem pen_start {X : Exn → En → Prop} (ns : List Int) : Wp X (m__law_pen [.v (.list (ns.map .int))]) fun rv _ => ∃ cs c, rv = .o c ∧ PenT cs 0 c := by
  refine po_fn ?_
  unfold b__law_pen
  simp
  exact ⟨ns, 0, 0, rfl, by decide, by decide, by decide⟩
end K61.V
namespace K61
open PySem Pu L2
theorem at_last (h : List Nat) (hne : h ≠ []) : ∃ x, x ∈ h ∧ atI ((hI h).map PyData.int) (-1) = some (.int ((x : Nat) : Int)) := by
  refine ⟨h.getLast hne, List.getLast_mem hne, ?_⟩
  have hl : 0 < h.length := List.length_pos_iff.mpr hne
  unfold atI ixN
  rw [if_neg (by decide), List.length_map, hI_len, if_pos (by omega)]
  show ((hI h).map PyData.int)[(-1 + (h.length : Int)).toNat]? = _
  rw [show (-1 + (h.length : Int)).toNat = h.length - 1 by omega, List.getElem?_map]
  unfold hI
  rw [List.getElem?_map, List.getLast_eq_getElem, List.getElem?_eq_getElem (by omega)]
  rfl
theorem ne_T0 (xs : List Int) : neD (T xs) (.tuple []) = some (.bool (!decide (xs = []))) := by
  have := neD_tt (shaped_t xs) (shaped_t ([] : List Int))
  rw [eqv_ints] at this
  exact this
theorem few_ways_ok {X : Exn → En → Prop} {cs : List Int} {b : Nat} {p : Ct} {most : Nat} (hp : V.PenT cs b p) (hb : b < 90000) (hm1 : 1 ≤ most) : Wp X (m__law_few_ways [.io p, .v (.int most)]) fun rv z => ∃ (h : List Nat) (c : Ct) (t : List Sl), rv = .v (T (hI h)) ∧ (Hs h ∧ Z.cnt (hI h) (hI h) ≤ (most : Int)) ∧ z = .io c :: t ∧ V.PenT cs (b + 40) c := by
  refine po_fnK fun Y K hY hK _ => ?_
  unfold b__law_few_ways
  refine po_step fun K1 h1 _ _ _ => ?_
  simp [-po_comp]
  refine po_mono (V.take_ok (n := 4) hp (by omega) (by decide) (by decide +kernel)) ?_
  rintro _ _ ⟨so, c, t, rfl, so1, rfl, hp⟩
  simp [-po_comp]
  refine h1 _ ?_
  refine po_step fun K2 h2 _ _ _ => ?_
  simp [-po_comp]
  refine po_mono (V.take_ok (n := 4) hp (by omega) (by decide) (by decide +kernel)) ?_
  rintro _ _ ⟨pi, c, t, rfl, pi1, rfl, hp⟩
  obtain ⟨pr, epr, pr1, pr2⟩ : ∃ pr : Nat, [PyData.int 2, .int 2, .int 3, .int 5][pi]? = some (.int (pr : Int)) ∧ 1 ≤ pr ∧ pr ≤ 5 := by
    match pi, pi1 with
    | 0, _ => exact ⟨2, rfl, by decide, by decide⟩
    | 1, _ => exact ⟨2, rfl, by decide, by decide⟩
    | 2, _ => exact ⟨3, rfl, by decide, by decide⟩
    | 3, _ => exact ⟨5, rfl, by decide, by decide⟩
  simp [-po_comp, epr]
  refine h2 _ ?_
  refine po_step fun K3 h3 _ _ _ => ?_
  simp [-po_comp]
  refine h3 _ ?_
  refine po_step fun K4 h4 _ _ _ => ?_
  simp [-po_comp]
  refine po_mono (V.take_ok (n := 7) hp (by omega) (by decide) (by decide +kernel)) ?_
  rintro _ _ ⟨n, c, t, rfl, n1, rfl, hp⟩
  simp [-po_comp]
  refine ⟨by omega, ?_⟩
  refine po_rngK (fun i r => ∃ (h : List Nat) (c : Ct) (s5 s6 : Sl), r = [.io c, .v (.int most), .v (.int so), .v (.int pr), .v (T (hI h)), s5, s6] ∧ h.length ≤ i ∧ ((∀ x ∈ h, 1 ≤ x ∧ x ≤ 1000) ∧ Z.cnt (hI h) (hI h) ≤ (most : Int)) ∧ V.PenT cs (b + 3 + 3 * i) c ∧ s5.isIo = false ∧ s6.isIo = false) n _ ⟨[], c, .unk, .unk, by simp [-po_comp, hI], by simp, ⟨by simp, by show (1 : Int) ≤ most; omega⟩, hp.le (by omega), rfl, rfl⟩ ?_ ?_
  · rintro i r hi ⟨h, c, s5, s6, rfl, hl, ⟨hx, hcm⟩, hp, q5, q6⟩
    refine ⟨[.io c, .v (.int most), .v (.int so), .v (.int pr), .v (T (hI h)), .v (.int i), s6], by simp [-po_comp, q5], fun K5 h5 _ _ _ => ?_⟩
    have fin : ∀ (x : Nat) (c : Ct), 1 ≤ x → x ≤ 1000 → V.PenT cs (b + 3 + 3 * (i + 1)) c → Wp Y (sIf (tBool (Pu.bin leD (frzM (cCall m__law_counted (aCons (Pu.bin addD (getS 4) (eTup (aCons (getS 6) aNil))) aNil))) (getS 1))) (sSet 4 (Pu.bin addD (getS 4) (eTup (aCons (getS 6) aNil)))) sNil [.io c, .v (.int most), .v (.int so), .v (.int pr), .v (T (hI h)), .v (.int i), .v (.int (x : Nat))]) K5 := by
      intro x c x1 x2 hp
      have Hx : Hs (h ++ [x]) := ⟨fun y hy => by
        rcases List.mem_append.mp hy with hy | hy
        · exact (hx y hy).1
        · rw [List.mem_singleton.mp hy]
          exact x1, by simp [-po_comp]; omega, fun y hy => by
        rcases List.mem_append.mp hy with hy | hy
        · have := (hx y hy).2
          omega
        · rw [List.mem_singleton.mp hy]
          omega⟩
      have ex : (hI h).map PyData.int ++ [PyData.int (x : Int)] = (hI (h ++ [x])).map .int := by simp [-po_comp, hI]
      have hh6 : h.length ≤ 6 := by omega
      simp [-po_comp, hI_len, ex]
      refine ⟨by omega, ?_⟩
      refine po_mono (Z.counted_ok (zhs Hx)) ?_
      rintro _ _ rfl
      simp [-po_comp]
      by_cases cc : Z.cnt (hI (h ++ [x])) (hI (h ++ [x])) ≤ (most : Int)
      · rw [if_pos cc]
        simp [-po_comp, hI_len, ex]
        refine ⟨by omega, h5 _ ⟨h ++ [x], c, .v (.int i), .v (.int x), rfl, by simp [-po_comp]; omega, ⟨fun y hy => ?_, cc⟩, hp, rfl, rfl⟩⟩
        rcases List.mem_append.mp hy with hy | hy
        · exact hx y hy
        · rw [List.mem_singleton.mp hy]
          exact ⟨x1, x2⟩
      · rw [if_neg cc]
        exact h5 _ ⟨h, c, .v (.int i), .v (.int x), rfl, by omega, ⟨hx, hcm⟩, hp, rfl, rfl⟩
    refine po_step fun K6 h6 _ _ _ => ?_
    simp [-po_comp]
    refine po_mono (V.take_ok (n := 4) hp (by omega) (by decide) (by decide +kernel)) ?_
    rintro _ _ ⟨k, c, t, rfl, k1, rfl, hp⟩
    obtain ⟨lim, el, l1, l2⟩ : ∃ lim : Nat, [PyData.int 4, .int 16, .int 130, .int 530][k]? = some (.int (lim : Int)) ∧ 1 ≤ lim ∧ lim ≤ 530 := by
      match k, k1 with
      | 0, _ => exact ⟨4, rfl, by decide, by decide⟩
      | 1, _ => exact ⟨16, rfl, by decide, by decide⟩
      | 2, _ => exact ⟨130, rfl, by decide, by decide⟩
      | 3, _ => exact ⟨530, rfl, by decide, by decide⟩
    simp [-po_comp, el]
    refine po_mono (V.take_ok (n := lim) hp (by omega) (by omega) (Nat.lt_of_le_of_lt l2 (by decide +kernel))) ?_
    rintro _ _ ⟨y, c, t, rfl, y1, rfl, hp⟩
    simp [-po_comp, q6]
    refine h6 _ ?_
    refine po_step fun K7 h7 _ _ _ => ?_
    have rest : ∀ (x : Nat) (c : Ct), 1 ≤ x → x ≤ 1000 → V.PenT cs (b + 3 + 3 * (i + 1)) c → Wp Y (sSeq (sIf (tAndM (tBool (Pu.bin eqD (getS 2) (M.ret (.int 2)))) (tBool (Pu.bin neD (getS 4) (eTup aNil)))) (sSet 6 (Pu.bin ixD (getS 4) (una negD (M.ret (.int 1))))) sNil) (sIf (tBool (Pu.bin leD (frzM (cCall m__law_counted (aCons (Pu.bin addD (getS 4) (eTup (aCons (getS 6) aNil))) aNil))) (getS 1))) (sSet 4 (Pu.bin addD (getS 4) (eTup (aCons (getS 6) aNil)))) sNil) [.io c, .v (.int most), .v (.int so), .v (.int pr), .v (T (hI h)), .v (.int i), .v (.int (x : Nat))]) K5 := by
      intro x c x1 x2 hp
      refine po_step fun K8 h8 _ _ _ => ?_
      by_cases s2 : so = 2
      · subst s2
        by_cases hh : h = []
        · subst hh
          simp [-po_comp, hI, ne_T0]
          exact h8 _ (fin x c x1 x2 hp)
        · obtain ⟨z, zm, ez⟩ := at_last h hh
          have hh2 : ¬ hI h = [] := fun e => hh (by simpa [hI] using e)
          simp [-po_comp, ne_T0, hh2, ez]
          exact h8 _ (fin z c (hx z zm).1 (hx z zm).2 hp)
      · simp [-po_comp, s2, show ¬ (so : Int) = 2 by omega]
        exact h8 _ (fin x c x1 x2 hp)
    by_cases s1 : so = 1
    · subst s1
      have m1 : mulOk (pr : Int) (pr : Int) := mulOk_b (b := 10) (c := 10) (by rw [Int.natAbs_natCast]; omega) (by rw [Int.natAbs_natCast]; omega) (by decide)
      have b2 : pr * pr ≤ 25 := Nat.mul_le_mul pr2 pr2
      have b3 : pr * pr * pr ≤ 125 := Nat.mul_le_mul b2 pr2
      have g2 : 1 ≤ pr * pr := Nat.mul_le_mul pr1 pr1
      have g3 : 1 ≤ pr * pr * pr := Nat.mul_le_mul g2 pr1
      have m2 : mulOk ((pr : Int) * (pr : Int)) (pr : Int) := mulOk_b (b := 10) (c := 10) (by rw [← Int.natCast_mul, Int.natAbs_natCast]; omega) (by rw [Int.natAbs_natCast]; omega) (by decide)
      simp [-po_comp, m1, m2]
      refine po_mono (V.take_ok (n := 4) hp (by omega) (by decide) (by decide +kernel)) ?_
      rintro _ _ ⟨k, c, t, rfl, k1, rfl, hp⟩
      obtain ⟨w, ew, w1, w2⟩ : ∃ w : Nat, [PyData.int 1, .int (pr : Int), .int ((pr : Int) * pr), .int ((pr : Int) * pr * pr)][k]? = some (.int (w : Int)) ∧ 1 ≤ w ∧ w ≤ 1000 := by
        match k, k1 with
        | 0, _ => exact ⟨1, rfl, by decide, by decide⟩
        | 1, _ => exact ⟨pr, rfl, pr1, by omega⟩
        | 2, _ => exact ⟨pr * pr, by rw [Int.natCast_mul]; rfl, g2, by omega⟩
        | 3, _ => exact ⟨pr * pr * pr, by rw [Int.natCast_mul, Int.natCast_mul]; rfl, g3, by omega⟩
      simp [-po_comp, ew]
      refine h7 _ ?_
      exact rest w c w1 w2 (hp.le (by omega))
    · simp [-po_comp, s1, show ¬ (so : Int) = 1 by omega]
      refine h7 _ ?_
      have := rest (1 + y) c (by omega) (by omega) (hp.le (by omega))
      simp [-po_comp] at this
      exact this
  · rintro r ⟨h, c, s5, s6, rfl, hl, ⟨hx, hcm⟩, hp, q5, q6⟩
    refine h4 _ ?_
    simp [-po_comp]
    exact hK _ _ _ rfl ⟨h, c, _, rfl, ⟨⟨fun x hm => (hx x hm).1, by omega, fun x hm => Nat.le_trans (hx x hm).2 (by decide)⟩, hcm⟩, rfl, hp.le (by omega)⟩
end K61
namespace K61.F
open PySem Pu L2
/-! ### turnings counted, prime by prime -/
theorem pw20 {p : Nat} (hp : p ≤ 10 ^ 6) (n : Nat) : p ^ n ≤ 2 ^ (20 * n) := by
  rw [Nat.pow_mul]
  exact Nat.pow_le_pow_left (Nat.le_trans hp (by decide)) n
theorem fct_lt {p : Nat} (hp : p ≤ 10 ^ 6) {es : List Nat} (hl : es.length ≤ 6) (he : ∀ e ∈ es, e ≤ 20) {x : Nat × Nat} (hx : x.1 ∈ es) : fct p es x ≤ 2 ^ 5000 := by
  unfold fct
  have u := upt_le es x.1
  have l := lss_le es x.1
  have h1 : p ^ upt es x.1 - p ^ x.2 ≤ 2 ^ 120 := Nat.le_trans (Nat.sub_le _ _) (Nat.le_trans (pw20 hp _) (Nat.pow_le_pow_right (by decide) (by omega)))
  have e20 := he _ hx
  have a1 : x.1 * (es.length - upt es x.1) ≤ 20 * 6 := Nat.mul_le_mul e20 (by omega)
  have a2 : (x.1 - 1) * (es.length - lss es x.1) ≤ 20 * 6 := Nat.mul_le_mul (by omega) (by omega)
  have h2 : p ^ (x.1 * (es.length - upt es x.1) + (x.1 - 1) * (es.length - lss es x.1)) ≤ 2 ^ 4800 := Nat.le_trans (pw20 hp _) (Nat.pow_le_pow_right (by decide) (by omega))
  refine Nat.le_trans (Nat.mul_le_mul h1 h2) ?_
  rw [← Nat.pow_add]
  exact Nat.pow_le_pow_right (by decide) (by omega)
theorem pd_le {B : Nat} : ∀ {l : List Nat}, (∀ x ∈ l, x ≤ 2 ^ B) → pd l ≤ 2 ^ (B * l.length)
  | [], _ => by show 1 ≤ 2 ^ 0; decide
  | x :: l, h => by
    have ih := pd_le (B := B) (l := l) fun y hy => h y (List.mem_cons_of_mem _ hy)
    rw [List.length_cons, Nat.mul_add, Nat.mul_one, Nat.add_comm, Nat.pow_add]
    exact Nat.mul_le_mul (h x (List.mem_cons_self ..)) ih
theorem mop_ok {X : Exn → En → Prop} {p : Nat} {es : List Nat} (hp : 2 ≤ p) (hp2 : p ≤ 10 ^ 6) (hl : es.length ≤ 6) (hs : es.Pairwise (· ≤ ·)) (he : ∀ e ∈ es, 1 ≤ e ∧ e ≤ 20) : Wp X (m_many_of_prime [.v (.int (p : Nat)), .v (N es)]) fun rv _ => rv = .v (.int (mop p es : Nat)) := by
  obtain ⟨_, kat⟩ := Kl_at hs 0
  refine po_fnK fun Y K hY hK _ => ?_
  unfold b_many_of_prime
  refine po_step fun K1 h1 _ _ _ => ?_
  simp [-po_comp]
  refine h1 _ ?_
  refine po_step fun K2 h2 _ _ _ => ?_
  simp [-po_comp]
  refine h2 _ ?_
  refine po_step fun K3 h3 _ _ _ => ?_
  have ee : enOf [N es] = some ((es.zipIdx 0).map fun x => .tuple [.int (x.2 : Nat), .int (x.1 : Nat)]) := enOf_t (fun k : Nat => PyData.int (k : Nat)) es
  simp [-po_comp, ee]
  refine po_forK (fun done r => ∃ s4 s5 s6 s7 s8 : Sl, r = [.v (.int (p : Nat)), .v (N es), .v (.int (pd (done.map (fct p es)) : Nat)), .v (.int (es.length : Nat)), s4, s5, s6, s7, s8] ∧ s4.isIo = false ∧ s5.isIo = false ∧ s6.isIo = false ∧ s7.isIo = false ∧ s8.own = none) (es.zipIdx 0) _ ⟨_, _, _, _, _, rfl, rfl, rfl, rfl, rfl, rfl⟩ ?_ ?_
  · rintro done ⟨e, a⟩ rest r ez ⟨s4, s5, s6, s7, s8, rfl, q4, q5, q6, q7, w8⟩
    have hmem : (e, a) ∈ es.zipIdx 0 := by rw [ez]; simp [-po_comp]
    have hme : e ∈ es := by
      have := List.mem_zipIdx hmem
      rw [this.2.2]
      exact List.getElem_mem _
    have hau : a < upt es e := by simpa using kat _ hmem
    have hdl : done.length < 6 := by
      have := congrArg List.length ez
      simp [-po_comp] at this
      omega
    have hdm : ∀ x ∈ done, x.1 ∈ es := fun x hx => by
      have hm : x ∈ es.zipIdx 0 := by rw [ez]; simp [-po_comp, hx]
      have := List.mem_zipIdx (x := x.1) (i := x.2) hm
      rw [this.2.2]
      exact List.getElem_mem _
    have bd : pd (done.map (fct p es)) ≤ 2 ^ 30000 := by
      refine Nat.le_trans (pd_le (B := 5000) fun y hy => ?_) (Nat.pow_le_pow_right (by decide) (by rw [List.length_map]; omega))
      obtain ⟨x, hx, rfl⟩ := List.mem_map.mp hy
      exact fct_lt hp2 hl (fun e h => (he e h).2) (hdm x hx)
    obtain ⟨F, eF⟩ : ∃ F, F = pd (done.map (fct p es)) := ⟨_, rfl⟩
    rw [← eF] at bd ⊢
    have u := upt_le es e
    have l := lss_le es e
    have e1 := he e hme
    refine ⟨[.v (.int (p : Nat)), .v (N es), .v (.int (F : Nat)), .v (.int (es.length : Nat)), .v (.int (a : Nat)), .v (.int (e : Nat)), s6, s7, s8], by simp [-po_comp, q4, q5], fun K4 h4 _ _ _ => ?_⟩
    refine po_step fun K5 h5 _ _ _ => ?_
    simp [-po_comp, po_comp, w8]
    refine po_compF (f := fun x : Nat => PyData.int (x : Nat)) (g := fun x : Nat => PyData.int (x : Nat)) (p := fun x : Nat => decide (x < e)) (fun r => ∃ s8 : Sl, r = [.v (.int (p : Nat)), .v (N es), .v (.int (F : Nat)), .v (.int (es.length : Nat)), .v (.int (a : Nat)), .v (.int (e : Nat)), s6, s7, s8] ∧ s8.own = none) es [] _ ⟨s8, rfl, w8⟩ (by simp [-po_comp]; omega) ?_ ?_
    · rintro x hx r ⟨s8, rfl, w8⟩
      refine ⟨[.v (.int (p : Nat)), .v (N es), .v (.int (F : Nat)), .v (.int (es.length : Nat)), .v (.int (a : Nat)), .v (.int (e : Nat)), s6, s7, .v (.int (x : Nat))], by simp, ?_⟩
      simp [-po_comp]
    · rintro r ⟨s8', rfl, w8'⟩
      have el : ((es.filter fun x => decide (x < e)).map fun x : Nat => PyData.int (x : Nat)).length = lss es e := by rw [List.length_map]; rfl
      simp [-po_comp, q6]
      refine h5 _ ?_
      refine po_step fun K6 h6 _ _ _ => ?_
      simp [-po_comp, po_comp, w8]
      refine po_compF (f := fun x : Nat => PyData.int (x : Nat)) (g := fun x : Nat => PyData.int (x : Nat)) (p := fun x : Nat => decide (x ≤ e)) (fun r => ∃ s8 : Sl, r = [.v (.int (p : Nat)), .v (N es), .v (.int (F : Nat)), .v (.int (es.length : Nat)), .v (.int (a : Nat)), .v (.int (e : Nat)), .v (.int (lss es e : Nat)), s7, s8] ∧ s8.own = none) es [] _ ⟨s8, rfl, w8⟩ (by simp [-po_comp]; omega) ?_ ?_
      · rintro x hx r ⟨s8, rfl, w8⟩
        refine ⟨[.v (.int (p : Nat)), .v (N es), .v (.int (F : Nat)), .v (.int (es.length : Nat)), .v (.int (a : Nat)), .v (.int (e : Nat)), .v (.int (lss es e : Nat)), s7, .v (.int (x : Nat))], by simp, ?_⟩
        simp [-po_comp]
      · rintro r ⟨s8'', rfl, w8''⟩
        simp [-po_comp, q7]
        refine h6 _ ?_
        show Wp Y (sSeq _ _ [.v (.int (p : Nat)), .v (N es), .v (.int (F : Nat)), .v (.int (es.length : Nat)), .v (.int (a : Nat)), .v (.int (e : Nat)), .v (.int (lss es e : Nat)), .v (.int (upt es e : Nat)), s8]) _
        refine po_step fun K7 h7 _ _ _ => ?_
        simp [-po_comp]
        have le1 : p ^ a ≤ p ^ upt es e := Nat.pow_le_pow_right (by omega) (by omega)
        have g1 : p ^ upt es e - p ^ a ≤ 2 ^ 120 := Nat.le_trans (Nat.sub_le _ _) (Nat.le_trans (pw20 hp2 _) (Nat.pow_le_pow_right (by decide) (by omega)))
        have l1 : (2 : Nat) ^ 120 < 2 ^ 121 := Nat.pow_lt_pow_right (by decide) (by decide)
        have l2 : (2 : Nat) ^ 30000 < 2 ^ 30001 := Nat.pow_lt_pow_right (by decide) (by decide)
        refine po_mono (power_ok hp2 (by omega)) ?_
        rintro _ _ rfl
        generalize hA : p ^ upt es e = A at le1 g1 ⊢
        simp [-po_comp]
        refine po_mono (power_ok hp2 (by omega)) ?_
        rintro _ _ rfl
        generalize hB : p ^ a = B at le1 g1 ⊢
        have es1 : (A : Int) - (B : Int) = ((A - B : Nat) : Int) := by omega
        have m1 : mulOk (F : Int) ((A - B : Nat) : Int) := K61.mulOk_b (b := 30001) (c := 121) (by rw [Int.natAbs_natCast]; omega) (by rw [Int.natAbs_natCast]; omega) (by decide)
        simp [-po_comp, es1, m1]
        refine h7 _ ?_
        have x1 : (e : Int) * ((es.length : Int) - (upt es e : Int)) + ((e : Int) - 1) * ((es.length : Int) - (lss es e : Int)) = ((e * (es.length - upt es e) + (e - 1) * (es.length - lss es e) : Nat) : Int) := by
          have c1 : (es.length : Int) - (upt es e : Int) = ((es.length - upt es e : Nat) : Int) := by omega
          have c2 : (es.length : Int) - (lss es e : Int) = ((es.length - lss es e : Nat) : Int) := by omega
          have c3 : (e : Int) - 1 = ((e - 1 : Nat) : Int) := by omega
          rw [c1, c2, c3]
          simp [-po_comp]
        have a1 : e * (es.length - upt es e) ≤ 20 * 6 := Nat.mul_le_mul e1.2 (by omega)
        have a2 : (e - 1) * (es.length - lss es e) ≤ 20 * 6 := Nat.mul_le_mul (by omega) (by omega)
        have a3 : es.length - upt es e ≤ 6 := by omega
        have a4 : es.length - lss es e ≤ 6 := by omega
        have m2 : mulOk (e : Int) ((es.length : Int) - (upt es e : Int)) := by
          have c1 : (es.length : Int) - (upt es e : Int) = ((es.length - upt es e : Nat) : Int) := by omega
          rw [c1]
          exact K61.mulOk_b (b := 20) (c := 20) (by rw [Int.natAbs_natCast]; exact Nat.lt_of_le_of_lt e1.2 (by decide)) (by rw [Int.natAbs_natCast]; exact Nat.lt_of_le_of_lt a3 (by decide)) (by decide)
        have m3 : mulOk ((e : Int) - 1) ((es.length : Int) - (lss es e : Int)) := by
          have c2 : (es.length : Int) - (lss es e : Int) = ((es.length - lss es e : Nat) : Int) := by omega
          have c3 : (e : Int) - 1 = ((e - 1 : Nat) : Int) := by omega
          rw [c2, c3]
          exact K61.mulOk_b (b := 20) (c := 20) (by rw [Int.natAbs_natCast]; exact Nat.lt_of_le_of_lt (m := 20) (by omega) (by decide)) (by rw [Int.natAbs_natCast]; exact Nat.lt_of_le_of_lt a4 (by decide)) (by decide)
        simp [-po_comp, m2, m3, x1, -Int.natCast_add, -Int.natCast_mul]
        have h2' : p ^ (e * (es.length - upt es e) + (e - 1) * (es.length - lss es e)) ≤ 2 ^ 4800 := Nat.le_trans (pw20 hp2 _) (Nat.pow_le_pow_right (by decide) (by omega))
        have hfct : fct p es (e, a) = (A - B) * p ^ (e * (es.length - upt es e) + (e - 1) * (es.length - lss es e)) := by
          rw [← hA, ← hB]
          rfl
        refine po_mono (power_ok hp2 (by omega)) ?_
        rintro _ _ rfl
        generalize p ^ (e * (es.length - upt es e) + (e - 1) * (es.length - lss es e)) = C at h2' hfct ⊢
        have l3 : (2 : Nat) ^ 4800 < 2 ^ 4801 := Nat.pow_lt_pow_right (by decide) (by decide)
        have fab : F * (A - B) ≤ 2 ^ 30120 := by
          have := Nat.mul_le_mul bd g1
          rw [← Nat.pow_add] at this
          exact this
        have l4 : (2 : Nat) ^ 30120 < 2 ^ 30121 := Nat.pow_lt_pow_right (by decide) (by decide)
        have m4 : mulOk ((F : Int) * ((A - B : Nat) : Int)) (C : Int) := by
          rw [← Int.natCast_mul]
          exact K61.mulOk_b (b := 30121) (c := 4801) (by rw [Int.natAbs_natCast]; omega) (by rw [Int.natAbs_natCast]; omega) (by decide)
        simp [-po_comp, m4]
        refine h4 _ ⟨.v (.int (a : Nat)), .v (.int (e : Nat)), .v (.int (lss es e : Nat)), .v (.int (upt es e : Nat)), s8, ?_, rfl, rfl, rfl, rfl, w8⟩
        rw [List.map_append, pd_app, ← eF]
        show _ = [_, _, Sl.v (PyData.int ((F * (fct p es (e, a) * 1) : Nat) : Int)), _, _, _, _, _, _]
        rw [hfct, Nat.mul_one]
        simp [-po_comp, Int.mul_assoc]
  · rintro r ⟨s4, s5, s6, s7, s8, rfl, q4, q5, q6, q7, w8⟩
    refine h3 _ ?_
    simp [-po_comp]
    exact hK _ _ _ rfl rfl
end K61.F
namespace K61.F
open PySem Pu L2
def mt (B : List (Nat × List Nat)) : Nat := pd (B.map fun x => mop x.1 x.2)
structure BF (hs : List Nat) (x : Nat × List Nat) : Prop where
  p : prm x.1
  le : x.1 ≤ 10 ^ 6
  so : x.2.Pairwise (· ≤ ·)
  l : x.2.length ≤ 6
  e : ∀ e ∈ x.2, 1 ≤ e ∧ e ≤ 20
  d : ∃ h ∈ hs, x.1 ∣ h
theorem vp20 {p h : Nat} (hp : 2 ≤ p) (h1 : 1 ≤ h) (h2 : h ≤ 10 ^ 6) : vp p h ≤ 20 := by
  obtain ⟨m, em, hm⟩ := vp_ex hp h1
  have m1 : 1 ≤ m := by
    rcases Nat.eq_zero_or_pos m with z | z
    · rw [z] at em
      omega
    · exact z
  apply Classical.byContradiction
  intro c
  have a1 : 2 ^ 21 ≤ p ^ vp p h := Nat.le_trans (Nat.pow_le_pow_left hp 21) (Nat.pow_le_pow_right (by omega) (by omega))
  have a2 : p ^ vp p h * 1 ≤ p ^ vp p h * m := Nat.mul_le_mul_left _ m1
  have a3 : (10 : Nat) ^ 6 < 2 ^ 21 := by decide
  omega
theorem BP.bf {hs : List Nat} {B : List (Nat × List Nat)} (H : BP hs B) (hl : hs.length ≤ 6) (hh : ∀ h ∈ hs, 1 ≤ h ∧ h ≤ 10 ^ 6) : ∀ x ∈ B, BF hs x := fun x hx => by
  obtain ⟨h1, h2, h3, h4⟩ := H.a x hx
  have hm : ∀ e ∈ PV x.1 hs, ∃ h ∈ hs, e = vp x.1 h ∧ 0 < e := fun e he => by
    unfold PV at he
    rw [List.mem_filter, List.mem_map] at he
    obtain ⟨⟨h, hh, rfl⟩, h0⟩ := he
    exact ⟨h, hh, rfl, by simpa using h0⟩
  obtain ⟨e0, he0⟩ := List.exists_mem_of_ne_nil _ h4
  obtain ⟨h, hh0, e1, e2⟩ := hm e0 he0
  have hd : x.1 ∣ h := (vp_pos h1.1 (hh h hh0).1).mp (by rw [← e1]; exact e2)
  refine ⟨h1, Nat.le_trans (Nat.le_of_dvd (hh h hh0).1 hd) (hh h hh0).2, h2, ?_, fun e he => ?_, h, hh0, hd⟩
  · rw [h3.length_eq]
    exact Nat.le_trans (pv_len _ _) hl
  · obtain ⟨g, hg, rfl, g2⟩ := hm e (h3.mem_iff.mp he)
    exact ⟨g2, vp20 h1.1 (hh g hg).1 (hh g hg).2⟩
theorem few_all {hs ps : List Nat} (hh : ∀ h ∈ hs, 1 ≤ h ∧ h ≤ 10 ^ 6) (hp : ∀ p ∈ ps, prm p ∧ ∃ h ∈ hs, p ∣ h) (ho : ps.Pairwise (· < ·)) : ps.length ≤ 8 * hs.length := by
  have a1 : (hs.map fun h => (ps.map fun p => if p ∣ h then 1 else 0).sum).sum ≤ 8 * hs.length := by
    have : ∀ h ∈ hs, (ps.map fun p => if p ∣ h then 1 else 0).sum ≤ 8 := fun h hm => by
      rw [sum_ind (fun p => p ∣ h)]
      exact few_primes (hh h hm).1 (hh h hm).2 (fun p hpm => by
        rw [List.mem_filter] at hpm
        exact ⟨(hp p hpm.1).1, by simpa using hpm.2⟩) (ho.filter _)
    clear hp
    induction hs with
    | nil => simp [-po_comp]
    | cons h hs ih =>
      have := this h (List.mem_cons_self ..)
      have ih := ih (fun x hx => hh x (List.mem_cons_of_mem _ hx)) fun x hx => by
        rename_i t
        exact t x (List.mem_cons_of_mem _ hx)
      simp only [List.map_cons, List.sum_cons, List.length_cons]
      omega
  rw [sum_swap] at a1
  have a2 : ps.length ≤ (ps.map fun p => (hs.map fun h => if p ∣ h then 1 else 0).sum).sum := by
    clear a1 ho
    induction ps with
    | nil => simp [-po_comp]
    | cons p ps ih =>
      have ih := ih fun x hx => hp x (List.mem_cons_of_mem _ hx)
      obtain ⟨h, hm, hd⟩ := (hp p (List.mem_cons_self ..)).2
      have : 1 ≤ (hs.map fun h => if p ∣ h then 1 else 0).sum := by
        rw [sum_ind (fun h => p ∣ h)]
        exact List.length_pos_of_mem (List.mem_filter.mpr ⟨hm, by simpa using hd⟩)
      simp only [List.map_cons, List.sum_cons, List.length_cons]
      omega
  omega
theorem BP.len48 {hs : List Nat} {B : List (Nat × List Nat)} (H : BP hs B) (hl : hs.length ≤ 6) (hh : ∀ h ∈ hs, 1 ≤ h ∧ h ≤ 10 ^ 6) : B.length ≤ 48 := by
  have b := H.bf hl hh
  have := few_all (ps := B.map (·.1)) hh (fun p hp => by
    obtain ⟨x, hx, rfl⟩ := List.mem_map.mp hp
    exact ⟨(b x hx).p, (b x hx).d⟩) (by rw [List.pairwise_map]; exact H.o)
  rw [List.length_map] at this
  omega
theorem mop_le {hs : List Nat} {x : Nat × List Nat} (h : BF hs x) : mop x.1 x.2 ≤ 2 ^ 30000 := by
  unfold mop
  refine Nat.le_trans (pd_le (B := 5000) fun y hy => ?_) (Nat.pow_le_pow_right (by decide) (by rw [List.length_map, List.length_zipIdx]; have := h.l; omega))
  obtain ⟨z, hz, rfl⟩ := List.mem_map.mp hy
  have := List.mem_zipIdx (x := z.1) (i := z.2) hz
  exact fct_lt h.le h.l (fun e he => (h.e e he).2) (by rw [this.2.2]; exact List.getElem_mem _)
theorem mt_ok {X : Exn → En → Prop} {hs : List Nat} (hl : hs.length ≤ 6) (hh : ∀ h ∈ hs, 1 ≤ h ∧ h ≤ 10 ^ 6) : Wp X (m_many_turnings [.v (N hs)]) fun rv _ => ∃ B, BP hs B ∧ rv = .v (.int (mt B : Nat)) := by
  refine po_fnK fun Y K hY hK _ => ?_
  unfold b_many_turnings
  refine po_step fun K1 h1 _ _ _ => ?_
  simp [-po_comp]
  refine h1 _ ?_
  refine po_step fun K2 h2 _ _ _ => ?_
  simp [-po_comp]
  refine po_mono (pby_ok hl hh) ?_
  rintro _ _ ⟨B, rfl, H⟩
  have bf := H.bf hl hh
  have b48 := H.len48 hl hh
  simp [-po_comp]
  refine po_forK (f := fun x : Nat × List Nat => BD x) (fun done r => ∃ s2 s3 : Sl, r = [.v (N hs), .v (.int (mt done : Nat)), s2, s3] ∧ s2.isIo = false ∧ s3.isIo = false) B _ ⟨_, _, rfl, rfl, rfl⟩ ?_ ?_
  · rintro done ⟨p, es⟩ rest r e ⟨s2, s3, rfl, q2, q3⟩
    have b := bf (p, es) (by rw [e]; simp [-po_comp])
    have dl : done.length < 48 := by
      have := congrArg List.length e
      simp [-po_comp] at this
      omega
    have dm : mt done ≤ 2 ^ 1440000 := by
      unfold mt
      refine Nat.le_trans (pd_le (B := 30000) fun y hy => ?_) (Nat.pow_le_pow_right (by decide) (by rw [List.length_map]; omega))
      obtain ⟨x, hx, rfl⟩ := List.mem_map.mp hy
      exact mop_le (bf x (by rw [e]; simp [-po_comp, hx]))
    have ml := mop_le b
    refine ⟨[.v (N hs), .v (.int (mt done : Nat)), .v (.int (p : Nat)), .v (N es)], by simp [-po_comp, q2, q3], fun K3 h3 _ _ _ => ?_⟩
    simp [-po_comp]
    refine po_mono (mop_ok b.p.1 b.le b.l b.so b.e) ?_
    rintro _ _ rfl
    have l1 : (2 : Nat) ^ 1440000 < 2 ^ 1440001 := Nat.pow_lt_pow_right (by decide) (by decide)
    have l2 : (2 : Nat) ^ 30000 < 2 ^ 30001 := Nat.pow_lt_pow_right (by decide) (by decide)
    have m1 : mulOk ((mt done : Nat) : Int) ((mop p es : Nat) : Int) := K61.mulOk_b (b := 1440001) (c := 30001) (by rw [Int.natAbs_natCast]; omega) (by rw [Int.natAbs_natCast]; exact Nat.lt_of_le_of_lt ml l2) (by decide)
    simp [-po_comp, m1]
    refine h3 _ ⟨.v (.int (p : Nat)), .v (N es), ?_, rfl, rfl⟩
    have : mt (done ++ [(p, es)]) = mt done * mop p es := by
      unfold mt
      rw [List.map_append, pd_app]
      show _ * (mop p es * 1) = _
      rw [Nat.mul_one]
    rw [this]
    simp [-po_comp]
  · rintro r ⟨s2, s3, rfl, q2, q3⟩
    refine h2 _ ?_
    simp [-po_comp]
    exact hK _ _ _ rfl ⟨B, H, rfl⟩
theorem tells_ok {X : Exn → En → Prop} {hs : List Nat} (hl : hs.length ≤ 6) (hh : ∀ h ∈ hs, 1 ≤ h ∧ h ≤ 10 ^ 6) (n : Nat) : Wp X (m__law_tells [.v (N hs), .v (.int (n : Nat))]) fun rv _ => ∃ B, BP hs B ∧ rv = .v (.bool (decide (mt B = n))) := by
  refine po_fnK fun Y K hY hK _ => ?_
  unfold b__law_tells
  refine po_step fun K1 h1 _ _ _ => ?_
  simp [-po_comp]
  refine po_mono (mt_ok hl hh) ?_
  rintro _ _ ⟨B, H, rfl⟩
  simp [-po_comp]
  refine h1 _ ?_
  simp [-po_comp]
  refine hK _ _ _ rfl ⟨B, H, ?_⟩
  congr 2
  rw [Bool.eq_iff_iff, decide_eq_true_eq, decide_eq_true_eq]
  omega
end K61.F
namespace K61.F
open PySem Pu L2
theorem loften_ok {X : Exn → En → Prop} {m b : Nat} (hm : 1 ≤ m) (hm2 : m ≤ 10 ^ 6) (hb : 2 ≤ b) (hb2 : b ≤ 10 ^ 6) : Wp X (m__law_often [.v (.int (m : Int)), .v (.int (b : Int))]) fun rv _ => ∃ e m' : Nat, rv = .v (.int (e : Int)) ∧ m = b ^ e * m' ∧ ¬ b ∣ m' ∧ 1 ≤ m' := by
  refine po_fnK fun Y K hY hK _ => ?_
  unfold b__law_often
  refine po_step fun K1 h1 _ _ _ => ?_
  simp [-po_comp]
  refine h1 _ ?_
  refine po_step fun K2 h2 _ _ _ => ?_
  refine po_while (fun t r => ∃ (m' e : Nat), r = [.v (.int m'), .v (.int b), .v (.int e)] ∧ 1 ≤ m' ∧ m = b ^ e * m' ∧ t = m') ?_ m _ ⟨m, 0, rfl, hm, by simp, rfl⟩
  rintro t r ⟨m', e, rfl, hm', em, ht⟩
  rw [ht]
  clear ht
  have hmle : m' ≤ m := by
    have : m' ∣ m := ⟨b ^ e, by rw [em, Nat.mul_comm]⟩
    exact Nat.le_of_dvd (by omega) this
  have hb0 : ¬ b = 0 := by omega
  simp [-po_comp, fmod_nat, hb0]
  have hdec2 : ((m' : Int) % (b : Int) = 0) ↔ m' % b = 0 := by
    rw [← Int.natCast_emod]
    omega
  simp only [hdec2]
  by_cases hd : m' % b = 0
  · rw [if_pos hd]
    obtain ⟨c, rfl⟩ := Nat.dvd_of_mod_eq_zero hd
    have hc1 : 1 ≤ c := by
      rcases Nat.eq_zero_or_pos c with z | z
      · subst z; simp [-po_comp] at hm'
      · exact z
    have hlt : c < b * c := by
      have : 2 * c ≤ b * c := Nat.mul_le_mul_right _ hb
      omega
    have ec : ((b : Int) * (c : Int)).fdiv (b : Int) = (c : Int) := by
      rw [← Int.natCast_mul, fdiv_nat, Nat.mul_div_cancel_left _ (by omega)]
    simp [-po_comp, po_seq, hb0, nlog (n := b) (by omega), ec]
    exact ⟨c, hlt, c, e + 1, ⟨rfl, by simp⟩, hc1, by rw [em, Nat.pow_succ, Nat.mul_assoc], rfl⟩
  · rw [if_neg hd]
    refine h2 _ ?_
    simp [-po_comp]
    exact hK _ _ _ rfl ⟨e, m', rfl, em, fun z => hd (Nat.mod_eq_zero_of_dvd z), hm'⟩
theorem sset_N (xs : List Nat) : ∃ zs : List Nat, sset (IN xs) = IN zs ∧ zs.Pairwise (· < ·) ∧ ∀ n, n ∈ zs ↔ n ∈ xs := by
  obtain ⟨zs, ez⟩ := toNs (sset (IN xs)) fun x hx => by
    obtain ⟨n, _, rfl⟩ := List.mem_map.mp ((sset_mem _ _).mp hx)
    omega
  refine ⟨zs, ez, ?_, fun n => ?_⟩
  · have := sset_pw (IN xs)
    rw [ez, List.pairwise_map] at this
    exact this.imp fun h => by omega
  · have := sset_mem (n : Int) (IN xs)
    rw [ez] at this
    have t : ∀ l : List Nat, (n : Int) ∈ IN l ↔ n ∈ l := fun l => by
      constructor
      · intro h
        obtain ⟨m, hm, e⟩ := List.mem_map.mp h
        have : m = n := by omega
        rwa [← this]
      · exact IN_mem
    rwa [t, t] at this
theorem ssetAD_N {xs : List Nat} (h : xs.length < 4000) : ∃ zs : List Nat, ssetAD (.list (LN xs)) = some (LN zs) ∧ zs.length ≤ xs.length ∧ zs.Pairwise (· < ·) ∧ ∀ n, n ∈ zs ↔ n ∈ xs := by
  obtain ⟨zs, e, h1, h2⟩ := sset_N xs
  have hl := sset_len (IN xs)
  rw [e] at hl
  refine ⟨zs, ?_, by simpa using hl, h1, h2⟩
  have e1 : LN xs = (IN xs).map PyData.int := by simp [-po_comp]
  rw [e1]
  show (intsOf ((IN xs).map PyData.int)).bind _ = _
  rw [intsOf_mp]
  show cI ((IN xs).length < 4000) (some ((sset (IN xs)).map PyData.int)) none = _
  rw [cI_eq, if_pos (by simpa using h), e]
  simp [-po_comp]
/-! ### what the law reckons -/
theorem ninN (x : Nat) (ps : List Nat) : ninD (.int (x : Nat)) (.list (LN ps)) = some (.bool (!decide (x ∈ ps))) := by
  have e0 : LN ps = (IN ps).map .int := by simp [-po_comp, IN]
  have sh : SeqAt.shaped (.list (LN ps)) = true := by rw [e0]; exact shaped_l _
  rw [ninD_l _ _ ⟨rfl, sh⟩]
  congr 3
  rw [Bool.eq_iff_iff, List.any_eq_true, decide_eq_true_eq]
  constructor
  · rintro ⟨d, hd, h⟩
    obtain ⟨y, hy, rfl⟩ := List.mem_map.mp hd
    have h : ((y : Int) == (x : Int)) = true := h
    have h2 : (y : Int) = (x : Int) := by simpa using h
    have : y = x := by omega
    rw [← this]
    exact hy
  · intro h
    refine ⟨.int (x : Nat), List.mem_map.mpr ⟨x, h, rfl⟩, ?_⟩
    show ((x : Int) == (x : Int)) = true
    simp [-po_comp]
theorem vp_of {m b e m' : Nat} (hm : 1 ≤ m) (hb : 2 ≤ b) (e1 : m = b ^ e * m') (h : ¬ b ∣ m') : e = vp b m := (vp_uni hb hm e1 h).symm
/-- the factors of a prime, from the kinds -/
def kp (f : Nat → Nat) (L xs : List Nat) : Nat := pd (xs.map fun x => if 0 < x then upk f (L.count x) else 1)
structure Seen (hs ps : List Nat) : Prop where
  nd : ps.Nodup
  p : ∀ p ∈ ps, prm p ∧ ∃ h ∈ hs, p ∣ h
  all : ∀ q, prm q → (∃ h ∈ hs, q ∣ h) → q ∈ ps
theorem upk_le {f : Nat → Nat} {B : Nat} : ∀ n, (∀ k, 1 ≤ k → k ≤ n → f k ≤ 2 ^ B) → upk f n ≤ 2 ^ (B * n)
  | 0, _ => by show 1 ≤ 2 ^ 0; decide
  | n + 1, h => by
    have ih := upk_le (f := f) (B := B) n fun k k1 k2 => h k k1 (by omega)
    have := h (n + 1) (by omega) (by omega)
    show upk f n * f (n + 1) ≤ _
    rw [Nat.mul_add, Nat.mul_one, Nat.pow_add]
    exact Nat.mul_le_mul ih this
theorem cntN (L : List Nat) (x : Nat) : countD (.list (LN L)) (.int (x : Nat)) = some (.int (L.count x : Nat)) := by
  have e0 : LN L = (IN L).map .int := by simp [-po_comp, IN]
  have sh : SeqAt.shaped (.list (LN L)) = true := by rw [e0]; exact shaped_l _
  rw [countD_l _ _ ⟨rfl, sh⟩]
  congr 3
  rw [List.count, List.countP_map]
  refine List.countP_congr fun y _ => ?_
  show (((y : Int) == (x : Int)) = true) ↔ (y == x) = true
  simp [-po_comp]
  omega
theorem kp_snoc (f : Nat → Nat) (L xs : List Nat) (x : Nat) : kp f L (xs ++ [x]) = kp f L xs * if 0 < x then upk f (L.count x) else 1 := by
  unfold kp
  rw [List.map_append, pd_app]
  show _ * ((if 0 < x then upk f (L.count x) else 1) * 1) = _
  rw [Nat.mul_one]
theorem upk6 {f : Nat → Nat} {p : Nat} (hp : p ≤ 10 ^ 6) (hf : ∀ k, f k ≤ p ^ k) {n : Nat} (hn : n ≤ 6) : upk f n ≤ 2 ^ 720 := by
  refine Nat.le_trans (upk_le (B := 120) n fun k _ k2 => Nat.le_trans (hf k) (Nat.le_trans (pw20 hp k) (Nat.pow_le_pow_right (by decide) (by omega)))) (Nat.pow_le_pow_right (by decide) (by omega))
theorem kp_le {f : Nat → Nat} {p : Nat} (hp : p ≤ 10 ^ 6) (hf : ∀ k, f k ≤ p ^ k) {L xs : List Nat} (hl : L.length ≤ 6) : kp f L xs ≤ 2 ^ (720 * xs.length) := by
  unfold kp
  have := pd_le (B := 720) (l := xs.map fun x => if 0 < x then upk f (L.count x) else 1) fun y hy => by
    obtain ⟨x, hx, rfl⟩ := List.mem_map.mp hy
    split
    · exact upk6 hp hf (Nat.le_trans List.count_le_length hl)
    · exact Nat.one_le_two_pow
  rw [List.length_map] at this
  exact this
theorem few_nd {hs ps : List Nat} (hl : hs.length ≤ 6) (hh : ∀ h ∈ hs, 1 ≤ h ∧ h ≤ 10 ^ 6) (S : Seen hs ps) : ps.length ≤ 48 := by
  have pm := List.mergeSort_perm ps fun a b => decide (a ≤ b)
  have pw : (ps.mergeSort fun a b => decide (a ≤ b)).Pairwise (· ≤ ·) := (List.pairwise_mergeSort (fun a b c h1 h2 => by
      have h1 := of_decide_eq_true h1
      have h2 := of_decide_eq_true h2
      exact decide_eq_true (Nat.le_trans h1 h2)) (fun a b => by
      rcases Nat.le_total a b with h | h
      · simp [-po_comp, h]
      · simp [-po_comp, h]) ps).imp fun h => of_decide_eq_true h
  have nd := pm.nodup_iff.mpr S.nd
  have lt : (ps.mergeSort fun a b => decide (a ≤ b)).Pairwise (· < ·) := (pw.and (List.nodup_iff_pairwise_ne.mp nd)).imp fun h => by omega
  have := few_all hh (fun p hp => S.p p (pm.mem_iff.mp hp)) lt
  rw [pm.length_eq] at this
  omega
theorem seen_ok {X : Exn → En → Prop} {hs : List Nat} (hl : hs.length ≤ 6) (hh : ∀ h ∈ hs, 1 ≤ h ∧ h ≤ 10 ^ 6) (C : Nat) (hC : C ≤ 2 ^ 1000) (hcnt : ∀ X : Exn → En → Prop, Wp X (m__law_counted [.v (N hs)]) fun rv _ => rv = .v (.int (C : Nat))) :
    Wp X (m__law_due [.v (N hs)]) fun rv _ => ∃ ps : List Nat, Seen hs ps ∧ ∃ zz : Nat → List Nat, (∀ p ∈ ps, (zz p).Nodup ∧ ∀ n, n ∈ zz p ↔ n ∈ hs.map (vp p)) ∧ rv = .v (.int (if (C * pd (ps.map fun p => kp (fun k => p ^ k - 1) (hs.map (vp p)) (zz p))) % pd (ps.map fun p => kp (fun k => p ^ k) (hs.map (vp p)) (zz p)) ≠ 0 then -1 else ((C * pd (ps.map fun p => kp (fun k => p ^ k - 1) (hs.map (vp p)) (zz p))) / pd (ps.map fun p => kp (fun k => p ^ k) (hs.map (vp p)) (zz p)) : Nat))) := by
  refine po_fnK fun Y K hY hK _ => ?_
  unfold b__law_due
  refine po_step fun K1 h1 _ _ _ => ?_
  simp [-po_comp]
  refine po_mono (hcnt _) ?_
  rintro _ _ rfl
  simp [-po_comp]
  refine h1 _ ?_
  refine po_step fun K2 h2 _ _ _ => ?_
  simp [-po_comp]
  refine h2 _ ?_
  refine po_step fun K3 h3 _ _ _ => ?_
  simp [-po_comp]
  refine h3 _ ?_
  refine po_step fun K4 h4 _ _ _ => ?_
  simp [-po_comp]
  refine po_forK (fun done r => ∃ (ps : List Nat) (s4 s5 : Sl), r = [.v (N hs), .v (.int (C : Nat)), .v (.int 1), .v (.list (LN ps)), s4, s5, .unk, .unk, .unk, .unk] ∧ s4.isIo = false ∧ s5.own = none ∧ s5.isIo = false ∧ s4.own = none ∧ Seen done ps ∧ ps.length ≤ 1002 * done.length) hs _ ⟨[], _, _, rfl, rfl, rfl, rfl, rfl, ⟨List.nodup_nil, by simp, by simp⟩, by simp⟩ ?_ ?_
  · rintro done h rest r e ⟨ps, s4, s5, rfl, q4, w5, q5, w4, S, pl⟩
    have h1 := hh h (by rw [e]; simp [-po_comp])
    have dl : done.length < 6 := by
      have := congrArg List.length e
      simp [-po_comp] at this
      omega
    refine ⟨[.v (N hs), .v (.int (C : Nat)), .v (.int 1), .v (.list (LN ps)), .v (.int (h : Nat)), s5, .unk, .unk, .unk, .unk], by simp [-po_comp, q4], fun K5 h5 _ _ _ => ?_⟩
    simp
    refine po_mono (K61.primes_ok h1.1 (by have := h1.2; omega)) ?_
    rintro _ _ ⟨qs, rfl, q1, q2, q3, q4'⟩
    simp [-po_comp, w5]
    refine po_compF (f := fun x : Nat => PyData.int (x : Int)) (g := fun x : Nat => PyData.int (x : Int)) (p := fun x : Nat => !decide (x ∈ ps)) (fun r => ∃ s5 : Sl, r = [.v (N hs), .v (.int (C : Nat)), .v (.int 1), .v (.list (LN ps)), .v (.int (h : Nat)), s5, .unk, .unk, .unk, .unk] ∧ s5.own = none) qs [] _ ⟨s5, rfl, w5⟩ (by simp [-po_comp]; omega) ?_ ?_
    · rintro x hx r ⟨s5, rfl, w5⟩
      refine ⟨[.v (N hs), .v (.int (C : Nat)), .v (.int 1), .v (.list (LN ps)), .v (.int (h : Nat)), .v (.int (x : Nat)), .unk, .unk, .unk, .unk], by simp, ?_⟩
      simp [-po_comp, ninN]
    · rintro r ⟨s5', rfl, w5'⟩
      have lf := List.length_filter_le (fun x : Nat => !decide (x ∈ ps)) qs
      have ef : ((qs.filter fun x => !decide (x ∈ ps)).map fun x : Nat => PyData.int (x : Int)) = LN (qs.filter fun x => !decide (x ∈ ps)) := rfl
      simp only [List.nil_append, ef]
      refine ⟨by rw [List.length_map]; omega, ?_⟩
      simp [-po_comp]
      refine h5 _ ⟨ps ++ qs.filter fun x => !decide (x ∈ ps), .v (.int (h : Nat)), s5, by simp, rfl, w5, q5, rfl, ⟨?_, fun p hp => ?_, fun q hq hd => ?_⟩, by simp [-po_comp]; omega⟩
      · refine List.nodup_append.mpr ⟨S.nd, (List.Pairwise.imp (fun h => Nat.ne_of_lt h) q4').filter _, fun a ha b hb => ?_⟩
        rw [List.mem_filter] at hb
        intro e
        subst e
        simp [-po_comp, ha] at hb
      · rcases List.mem_append.mp hp with hp | hp
        · obtain ⟨a1, g, hg, a2⟩ := S.p p hp
          exact ⟨a1, g, List.mem_append_left _ hg, a2⟩
        · rw [List.mem_filter] at hp
          have := q1 p hp.1
          exact ⟨this.1, h, by simp, this.2⟩
      · obtain ⟨g, hg, hd⟩ := hd
        by_cases c : q ∈ ps
        · exact List.mem_append_left _ c
        · rcases List.mem_append.mp hg with hg | hg
          · exact absurd (S.all q hq ⟨g, hg, hd⟩) c
          · rw [List.mem_singleton.mp hg] at hd
            exact List.mem_append_right _ (List.mem_filter.mpr ⟨q3 q hq hd, by simp [-po_comp, c]⟩)
  · rintro r ⟨ps, s4, s5, rfl, q4, w5, q5, w4, S, pl⟩
    refine h4 _ ?_
    have lL : ∀ p, (hs.map (vp p)).length ≤ 6 := fun p => by rw [List.length_map]; exact hl
    let zz : Nat → List Nat := fun p => Classical.choose (ssetAD_N (xs := hs.map (vp p)) (by have := lL p; omega))
    have hz : ∀ p, ssetAD (.list (LN (hs.map (vp p)))) = some (LN (zz p)) ∧ (zz p).length ≤ (hs.map (vp p)).length ∧ (zz p).Pairwise (· < ·) ∧ ∀ n, n ∈ zz p ↔ n ∈ hs.map (vp p) := fun p => Classical.choose_spec (ssetAD_N (xs := hs.map (vp p)) (by have := lL p; omega))
    clear_value zz
    have p6 : ∀ p ∈ ps, 2 ≤ p ∧ p ≤ 10 ^ 6 := fun p hp => by
      obtain ⟨a1, g, hg, a2⟩ := S.p p hp
      have := hh g hg
      exact ⟨a1.1, Nat.le_trans (Nat.le_of_dvd this.1 a2) this.2⟩
    have pl' : ps.length ≤ 48 := few_nd hl hh S
    let fT : Nat → Nat := fun p => kp (fun k => p ^ k - 1) (hs.map (vp p)) (zz p)
    let fB : Nat → Nat := fun p => kp (fun k => p ^ k) (hs.map (vp p)) (zz p)
    have bT : ∀ p ∈ ps, fT p ≤ 2 ^ 4320 := fun p hp => Nat.le_trans (kp_le (p6 p hp).2 (fun k => Nat.sub_le _ _) (lL p)) (Nat.pow_le_pow_right (by decide) (by have := (hz p).2.1; have := lL p; omega))
    have bB : ∀ p ∈ ps, fB p ≤ 2 ^ 4320 := fun p hp => Nat.le_trans (kp_le (p6 p hp).2 (fun k => Nat.le_refl _) (lL p)) (Nat.pow_le_pow_right (by decide) (by have := (hz p).2.1; have := lL p; omega))
    have big : ∀ (f : Nat → Nat), (∀ p ∈ ps, f p ≤ 2 ^ 4320) → ∀ done : List Nat, (∀ p ∈ done, p ∈ ps) → done.length ≤ 48 → pd (done.map f) ≤ 2 ^ 207360 := fun f hf done hd hl => by
      refine Nat.le_trans (pd_le (B := 4320) fun y hy => ?_) (Nat.pow_le_pow_right (by decide) (by rw [List.length_map]; omega))
      obtain ⟨x, hx, rfl⟩ := List.mem_map.mp hy
      exact hf x (hd x hx)
    refine po_step fun K5 h5 _ _ _ => ?_
    simp [-po_comp]
    refine po_forK (f := fun x : Nat => PyData.int (x : Int)) (fun done r => ∃ s4 s5 s6 s7 s8 s9 : Sl, r = [.v (N hs), .v (.int (C * pd (done.map fT) : Nat)), .v (.int (pd (done.map fB) : Nat)), .v (.list (LN ps)), s4, s5, s6, s7, s8, s9] ∧ s4.own = none ∧ s5.isIo = false ∧ s6.isIo = false ∧ s7.isIo = false ∧ s8.isIo = false ∧ s9.isIo = false) ps _ ⟨s4, s5, .unk, .unk, .unk, .unk, by simp [-po_comp, pd], w4, q5, rfl, rfl, rfl, rfl⟩ ?_ ?_
    · rintro done p rest r e ⟨s4, s5, s6, s7, s8, s9, rfl, w4, q5, q6, q7, q8, q9⟩
      have hp : p ∈ ps := by rw [e]; simp [-po_comp]
      have hdp : ∀ q ∈ done, q ∈ ps := fun q hq => by rw [e]; simp [-po_comp, hq]
      have hdl : done.length ≤ 48 := by
        have := congrArg List.length e
        simp [-po_comp] at this
        omega
      have TT0 := big fT bT done hdp hdl
      have BB0 := big fB bB done hdp hdl
      obtain ⟨t0, et0⟩ : ∃ t0, t0 = C * pd (done.map fT) := ⟨_, rfl⟩
      obtain ⟨b0, eb0⟩ : ∃ b0, b0 = pd (done.map fB) := ⟨_, rfl⟩
      have t0b : t0 ≤ 2 ^ 208360 := by
        rw [et0]
        have := Nat.mul_le_mul hC TT0
        rw [← Nat.pow_add] at this
        exact this
      rw [← eb0] at BB0
      rw [← et0, ← eb0]
      refine ⟨[.v (N hs), .v (.int (t0 : Nat)), .v (.int (b0 : Nat)), .v (.list (LN ps)), s4, .v (.int (p : Nat)), s6, s7, s8, s9], by simp [-po_comp, q5], fun K6 h6 _ _ _ => ?_⟩
      refine po_step fun K7 h7 _ _ _ => ?_
      simp [-po_comp, po_comp, w4]
      have p2 := p6 p hp
      refine po_compM (g := fun h : Nat => PyData.int (vp p h : Nat)) (fun r => ∃ s4 : Sl, r = [.v (N hs), .v (.int (t0 : Nat)), .v (.int (b0 : Nat)), .v (.list (LN ps)), s4, .v (.int (p : Nat)), s6, s7, s8, s9] ∧ s4.own = none) hs [] _ ⟨s4, rfl, w4⟩ (by simp [-po_comp]; omega) ?_ ?_
      · rintro h hm r ⟨s4, rfl, w4⟩
        have h1 := hh h hm
        refine ⟨[.v (N hs), .v (.int (t0 : Nat)), .v (.int (b0 : Nat)), .v (.list (LN ps)), .v (.int (h : Nat)), .v (.int (p : Nat)), s6, s7, s8, s9], by simp, ?_⟩
        simp [-po_comp]
        refine po_mono (loften_ok h1.1 h1.2 p2.1 p2.2) ?_
        rintro _ _ ⟨e, m', rfl, e1, e2, _⟩
        have := vp_of h1.1 p2.1 e1 e2
        subst this
        simp [-po_comp]
      · rintro r ⟨s4', rfl, w4'⟩
        obtain ⟨L, eL⟩ : ∃ L, L = hs.map (vp p) := ⟨_, rfl⟩
        have eLN : (hs.map fun h => PyData.int (vp p h : Nat)) = LN L := by
          rw [eL]
          show _ = (hs.map (vp p)).map fun n : Nat => PyData.int (n : Int)
          rw [List.map_map]
          rfl
        obtain ⟨z1, z2, z3, z4⟩ := hz p
        rw [← eL] at z1 z2 z4
        have lL6 := lL p
        rw [← eL] at lL6
        simp only [List.nil_append, eLN]
        simp [-po_comp, q6]
        refine h7 _ ?_
        simp [-po_comp, z1]
        refine po_forK (f := fun x : Nat => PyData.int (x : Int)) (fun dn r => ∃ s7 s8 s9 : Sl, r = [.v (N hs), .v (.int (t0 * kp (fun k => p ^ k - 1) L dn : Nat)), .v (.int (b0 * kp (fun k => p ^ k) L dn : Nat)), .v (.list (LN ps)), s4, .v (.int (p : Nat)), .v (.list (LN L)), s7, s8, s9] ∧ s7.isIo = false ∧ s8.isIo = false ∧ s9.isIo = false) (zz p) _ ⟨s7, s8, s9, by simp [-po_comp, kp, pd], q7, q8, q9⟩ ?_ ?_
        · rintro dn x rs r ex ⟨s7, s8, s9, rfl, q7, q8, q9⟩
          have dnl : dn.length ≤ 6 := by
            have := congrArg List.length ex
            simp [-po_comp] at this
            omega
          have k1 := kp_le (f := fun k => p ^ k - 1) p2.2 (fun k => Nat.sub_le _ _) (L := L) (xs := dn) lL6
          have k2 := kp_le (f := fun k => p ^ k) p2.2 (fun k => Nat.le_refl _) (L := L) (xs := dn) lL6
          have x1 : (2 : Nat) ^ (720 * dn.length) ≤ 2 ^ 4320 := Nat.pow_le_pow_right (by decide) (by omega)
          obtain ⟨t1, et1⟩ : ∃ t1, t1 = t0 * kp (fun k => p ^ k - 1) L dn := ⟨_, rfl⟩
          obtain ⟨b1, eb1⟩ : ∃ b1, b1 = b0 * kp (fun k => p ^ k) L dn := ⟨_, rfl⟩
          have t1b : t1 ≤ 2 ^ 212680 := by
            rw [et1]
            have := Nat.mul_le_mul t0b (Nat.le_trans k1 x1)
            rw [← Nat.pow_add] at this
            exact this
          have b1b : b1 ≤ 2 ^ 211680 := by
            rw [eb1]
            have := Nat.mul_le_mul BB0 (Nat.le_trans k2 x1)
            rw [← Nat.pow_add] at this
            exact this
          rw [← et1, ← eb1]
          refine ⟨[.v (N hs), .v (.int (t1 : Nat)), .v (.int (b1 : Nat)), .v (.list (LN ps)), s4, .v (.int (p : Nat)), .v (.list (LN L)), .v (.int (x : Nat)), s8, s9], by simp [-po_comp, q7], fun K8 h8 _ _ _ => ?_⟩
          refine po_step fun K9 h9 _ _ _ => ?_
          simp [-po_comp, q8]
          refine h9 _ ?_
          obtain ⟨n, en⟩ : ∃ n : Nat, n = if 0 < x then L.count x else 0 := ⟨_, rfl⟩
          have n6 : n ≤ 6 := by
            rw [en]
            split
            · exact Nat.le_trans List.count_le_length lL6
            · omega
          have ec : ((L.count x : Nat) : Int) * (if 0 < x then 1 else 0) = (n : Int) := by
            rw [en]
            by_cases c : 0 < x
            · simp [-po_comp, c]
            · simp [-po_comp, c]
          have mc : mulOk ((L.count x : Nat) : Int) (if 0 < x then 1 else 0) := by
            have c6 : L.count x ≤ 6 := Nat.le_trans List.count_le_length lL6
            refine K61.mulOk_b (b := 20) (c := 20) (by rw [Int.natAbs_natCast]; exact Nat.lt_of_le_of_lt c6 (by decide)) ?_ (by decide)
            split <;> decide
          simp [-po_comp, cntN]
          refine ⟨mc, ?_⟩
          rw [ec]
          refine ⟨by omega, ?_⟩
          rw [Int.toNat_natCast]
          refine po_rngK (fun i r => ∃ s9 : Sl, r = [.v (N hs), .v (.int (t1 * upk (fun k => p ^ k - 1) i : Nat)), .v (.int (b1 * upk (fun k => p ^ k) i : Nat)), .v (.list (LN ps)), s4, .v (.int (p : Nat)), .v (.list (LN L)), .v (.int (x : Nat)), .v (.int (p ^ i : Nat)), s9] ∧ s9.isIo = false) n _ ⟨s9, by simp [-po_comp, upk], q9⟩ ?_ ?_
          · rintro i r hi ⟨s9, rfl, q9⟩
            have u1 := upk6 (f := fun k => p ^ k - 1) p2.2 (fun k => Nat.sub_le _ _) (n := i) (by omega)
            have u2 := upk6 (f := fun k => p ^ k) p2.2 (fun k => Nat.le_refl _) (n := i) (by omega)
            have t2b : t1 * upk (fun k => p ^ k - 1) i ≤ 2 ^ 213400 := by
              have := Nat.mul_le_mul t1b u1
              rw [← Nat.pow_add] at this
              exact this
            have b2b : b1 * upk (fun k => p ^ k) i ≤ 2 ^ 212400 := by
              have := Nat.mul_le_mul b1b u2
              rw [← Nat.pow_add] at this
              exact this
            have st1 : t1 * upk (fun k => p ^ k - 1) (i + 1) = t1 * upk (fun k => p ^ k - 1) i * (p ^ (i + 1) - 1) := by
              show t1 * (upk _ i * _) = _
              rw [Nat.mul_assoc]
            have st2 : b1 * upk (fun k => p ^ k) (i + 1) = b1 * upk (fun k => p ^ k) i * p ^ (i + 1) := by
              show b1 * (upk _ i * _) = _
              rw [Nat.mul_assoc]
            rw [st1, st2]
            obtain ⟨t2, et2⟩ : ∃ t2, t2 = t1 * upk (fun k => p ^ k - 1) i := ⟨_, rfl⟩
            obtain ⟨b2, eb2⟩ : ∃ b2, b2 = b1 * upk (fun k => p ^ k) i := ⟨_, rfl⟩
            rw [← et2] at t2b
            rw [← eb2] at b2b
            rw [← et2, ← eb2]
            have pi1 : p ^ i ≤ 2 ^ 120 := Nat.le_trans (pw20 p2.2 _) (Nat.pow_le_pow_right (by decide) (by omega))
            have pi2 : p ^ (i + 1) ≤ 2 ^ 120 := Nat.le_trans (pw20 p2.2 _) (Nat.pow_le_pow_right (by decide) (by omega))
            have pi3 : 1 ≤ p ^ (i + 1) := Nat.pow_pos (by omega)
            have pis : p ^ (i + 1) = p ^ i * p := Nat.pow_succ ..
            generalize p ^ (i + 1) = P1 at pi2 pi3 pis ⊢
            generalize p ^ i = P0 at pi1 pis ⊢
            have l1 : (2 : Nat) ^ 120 < 2 ^ 121 := Nat.pow_lt_pow_right (by decide) (by decide)
            have l2 : (2 : Nat) ^ 213400 < 2 ^ 213401 := Nat.pow_lt_pow_right (by decide) (by decide)
            have l3 : (2 : Nat) ^ 212400 < 2 ^ 213401 := Nat.pow_lt_pow_right (by decide) (by decide)
            have l4 : 10 ^ 6 < 2 ^ 121 := by decide
            have mA : mulOk (P0 : Int) (p : Int) := K61.mulOk_b (b := 121) (c := 121) (by rw [Int.natAbs_natCast]; omega) (by rw [Int.natAbs_natCast]; omega) (by decide)
            have ep : (P0 : Int) * (p : Int) = (P1 : Int) := by rw [pis, Int.natCast_mul]
            have es1 : (P1 : Int) - 1 = ((P1 - 1 : Nat) : Int) := by omega
            have mB : mulOk (t2 : Int) ((P1 - 1 : Nat) : Int) := K61.mulOk_b (b := 213401) (c := 121) (by rw [Int.natAbs_natCast]; omega) (by rw [Int.natAbs_natCast]; omega) (by decide)
            have mC : mulOk (b2 : Int) (P1 : Int) := K61.mulOk_b (b := 213401) (c := 121) (by rw [Int.natAbs_natCast]; omega) (by rw [Int.natAbs_natCast]; omega) (by decide)
            refine ⟨[.v (N hs), .v (.int (t2 : Nat)), .v (.int (b2 : Nat)), .v (.list (LN ps)), s4, .v (.int (p : Nat)), .v (.list (LN L)), .v (.int (x : Nat)), .v (.int (P0 : Nat)), .v (.int (0 + (i : Nat)))], by simp [-po_comp, q9], fun K10 h10 _ _ _ => ?_⟩
            refine po_step fun K11 h11 _ _ _ => ?_
            simp [-po_comp, mA, ep]
            refine h11 _ ?_
            refine po_step fun K12 h12 _ _ _ => ?_
            simp [-po_comp, es1, mB]
            refine h12 _ ?_
            simp [-po_comp, mC]
            exact h10 _ ⟨.v (.int (i : Nat)), by simp, rfl⟩
          · rintro r ⟨s9, rfl, q9⟩
            refine h8 _ ⟨.v (.int (x : Nat)), .v (.int (p ^ n : Nat)), s9, ?_, rfl, rfl, q9⟩
            have ek : ∀ f : Nat → Nat, kp f L (dn ++ [x]) = kp f L dn * upk f n := fun f => by
              rw [kp_snoc, en]
              by_cases c : 0 < x
              · rw [if_pos c, if_pos c]
              · rw [if_neg c, if_neg c]
                rfl
            rw [ek, ek, ← Nat.mul_assoc, ← Nat.mul_assoc, ← et1, ← eb1]
        · rintro r ⟨s7, s8, s9, rfl, q7, q8, q9⟩
          refine h6 _ ⟨s4, .v (.int (p : Nat)), .v (.list (LN L)), s7, s8, s9, ?_, w4, rfl, rfl, q7, q8, q9⟩
          rw [List.map_append, List.map_append, pd_app, pd_app, ← Nat.mul_assoc, ← et0, ← eb0]
          have f1 : fT p = kp (fun k => p ^ k - 1) L (zz p) := by rw [eL]
          have f2 : fB p = kp (fun k => p ^ k) L (zz p) := by rw [eL]
          rw [← f1, ← f2]
          simp [-po_comp, pd]
    · rintro r ⟨s4, s5, s6, s7, s8, s9, rfl, w4, q5, q6, q7, q8, q9⟩
      refine h5 _ ?_
      have kpos : ∀ p ∈ ps, 1 ≤ fB p := fun p hp => by
        show 1 ≤ pd _
        refine pd_pos fun y hy => ?_
        obtain ⟨x, _, rfl⟩ := List.mem_map.mp hy
        split
        · have : ∀ n, 1 ≤ upk (fun k => p ^ k) n := fun n => by
            induction n with
            | zero => exact Nat.le_refl _
            | succ n ih => exact Nat.mul_pos ih (Nat.pow_pos (by have := (p6 p hp).1; omega))
          exact this _
        · exact Nat.le_refl _
      have bpos : 1 ≤ pd (ps.map fB) := pd_pos fun y hy => by
        obtain ⟨x, hx, rfl⟩ := List.mem_map.mp hy
        exact kpos x hx
      have fin : ∀ v : Int, v = (if (C * pd (ps.map fT)) % pd (ps.map fB) ≠ 0 then (-1 : Int) else (((C * pd (ps.map fT)) / pd (ps.map fB) : Nat) : Int)) → ∃ ps : List Nat, Seen hs ps ∧ ∃ zz : Nat → List Nat, (∀ p ∈ ps, (zz p).Nodup ∧ ∀ n, n ∈ zz p ↔ n ∈ hs.map (vp p)) ∧ RV.v (PyData.int v) = .v (.int (if (C * pd (ps.map fun p => kp (fun k => p ^ k - 1) (hs.map (vp p)) (zz p))) % pd (ps.map fun p => kp (fun k => p ^ k) (hs.map (vp p)) (zz p)) ≠ 0 then -1 else ((C * pd (ps.map fun p => kp (fun k => p ^ k - 1) (hs.map (vp p)) (zz p))) / pd (ps.map fun p => kp (fun k => p ^ k) (hs.map (vp p)) (zz p)) : Nat))) := fun v hv => ⟨ps, S, zz, fun p _ => ⟨List.Pairwise.imp (fun h => Nat.ne_of_lt h) (hz p).2.2.1, (hz p).2.2.2⟩, by rw [hv]⟩
      obtain ⟨A, eA⟩ : ∃ A, A = C * pd (ps.map fT) := ⟨_, rfl⟩
      obtain ⟨B, eB⟩ : ∃ B, B = pd (ps.map fB) := ⟨_, rfl⟩
      rw [← eA, ← eB] at fin
      rw [← eB] at bpos
      rw [← eA, ← eB]
      have b0 : ¬ B = 0 := by omega
      refine po_step fun K6 h6 r6 _ _ => ?_
      have em : (A : Int).fmod (B : Int) = ((A % B : Nat) : Int) := by
        rw [Int.fmod_eq_emod_of_nonneg _ (by omega)]
        rfl
      have ed : (A : Int).fdiv (B : Int) = ((A / B : Nat) : Int) := fdiv_nat ..
      by_cases c : A % B = 0
      · simp [-po_comp, em, b0, c, -Int.natCast_emod]
        refine h6 _ ?_
        simp [-po_comp, b0, ed, -Int.natCast_ediv]
        refine hK _ _ _ rfl (fin _ ?_)
        rw [if_neg (by omega)]
      · have c' : ¬ ((A % B : Nat) : Int) = 0 := by omega
        simp [-po_comp, em, b0, c, c', -Int.natCast_emod]
        refine r6 _ _ (hK _ _ _ rfl (fin _ ?_))
        rw [if_pos c]
end K61.F
namespace K61.F
open PySem Pu L2
/-! ### what the law reckons is what is told -/
theorem pd_perm {l m : List Nat} (h : l.Perm m) : pd l = pd m := by
  induction h with
  | nil => rfl
  | cons x _ ih => show x * pd _ = x * pd _; rw [ih]
  | swap x y l => show y * (x * pd l) = x * (y * pd l); grind
  | trans _ _ h1 h2 => exact h1.trans h2
theorem sum_perm {l m : List Nat} (h : l.Perm m) : l.sum = m.sum := by
  induction h with
  | nil => rfl
  | cons x _ ih => simp [ih]
  | swap x y l => simp; omega
  | trans _ _ h1 h2 => exact h1.trans h2
theorem mn_perm {l m : List Nat} (h : l.Perm m) : mn l l = mn m m := by
  unfold mn
  have h1 : ∀ a, (l.map fun b => min a b).sum = (m.map fun b => min a b).sum := fun a => sum_perm (h.map _)
  rw [sum_le fun a _ => h1 a]
  exact sum_perm (h.map _)
theorem sum_pos (g : Nat → Nat) (h0 : g 0 = 0) : ∀ l : List Nat, ((l.filter fun k => decide (0 < k)).map g).sum = (l.map g).sum
  | [] => rfl
  | x :: l => by
    rw [List.filter_cons]
    by_cases c : 0 < x
    · simp only [c, decide_true, if_true, List.map_cons, List.sum_cons]
      rw [sum_pos g h0 l]
    · have : x = 0 := by omega
      subst this
      simp [h0]
      exact sum_pos g h0 l
theorem mn_pos (l : List Nat) : mn (l.filter fun k => decide (0 < k)) (l.filter fun k => decide (0 < k)) = mn l l := by
  unfold mn
  have h1 : ∀ a, ((l.filter fun k => decide (0 < k)).map fun b => min a b).sum = (l.map fun b => min a b).sum := fun a => sum_pos (fun b => min a b) (by simp) l
  rw [sum_le fun a _ => h1 a]
  refine sum_pos (fun a => (l.map fun b => min a b).sum) ?_ l
  have : ∀ l : List Nat, (l.map fun b => min 0 b).sum = 0 := fun l => by
    induction l with
    | nil => rfl
    | cons x l ih => simp at ih ⊢; exact ih
  exact this l
theorem kp_grp (f : Nat → Nat) {L es xs : List Nat} (hp : es.Perm (L.filter fun k => decide (0 < k))) (nd : xs.Nodup) (hx : ∀ n, n ∈ xs ↔ n ∈ L) : kp f L xs = pd ((Kl es).map f) := by
  have e1 : ∀ xs : List Nat, kp f L xs = pd ((xs.filter fun k => decide (0 < k)).map fun x => upk f (es.count x)) := fun xs => by
    induction xs with
    | nil => rfl
    | cons x xs ih =>
      show (if 0 < x then upk f (L.count x) else 1) * kp f L xs = _
      rw [ih, List.filter_cons]
      by_cases c : 0 < x
      · have : es.count x = L.count x := by
          rw [hp.count_eq, List.count_filter (by simpa using c)]
        simp [c, this]
        rfl
      · simp [c]
  rw [e1]
  exact grp f es (nd.filter _) fun e he => by
    have := hp.mem_iff.mp he
    rw [List.mem_filter] at this ⊢
    exact ⟨(hx e).mpr this.1, this.2⟩
theorem fac_all {n : Nat} (hn : 1 ≤ n) {ps : List Nat} (nd : ps.Nodup) (hp : ∀ p ∈ ps, prm p) (ha : ∀ q, prm q → q ∣ n → q ∈ ps) : n = pd (ps.map fun p => p ^ vp p n) := by
  have pos : ∀ y ∈ ps.map fun p => p ^ vp p n, 1 ≤ y := fun y hy => by
    obtain ⟨p, h, rfl⟩ := List.mem_map.mp hy
    exact Nat.pow_pos (by have := (hp p h).1; omega)
  refine vp_eq hn (pd_pos pos) fun q hq => ?_
  rw [vp_pd hq pos, List.map_map]
  have e : ∀ p ∈ ps, (vp q ∘ fun p => p ^ vp p n) p = if q = p then vp q n else 0 := fun p h => by
    show vp q (p ^ vp p n) = _
    by_cases c : q = p
    · subst c
      rw [vp_self hq.1, if_pos rfl]
    · rw [vp_other hq (hp p h) c, if_neg c]
  rw [List.map_congr_left e]
  by_cases c : q ∈ ps
  · clear e pos ha hp
    induction ps with
    | nil => cases c
    | cons x ps ih =>
      rw [List.nodup_cons] at nd
      rw [List.map_cons, List.sum_cons]
      by_cases d : q = x
      · subst d
        rw [if_pos rfl]
        have : ∀ y ∈ ps, (if q = y then vp q n else 0) = 0 := fun y hy => if_neg fun (e : q = y) => nd.1 (by rw [e]; exact hy)
        rw [List.map_congr_left this]
        have z : ∀ ps : List Nat, (ps.map fun _ => 0).sum = 0 := fun ps => by
          induction ps with
          | nil => rfl
          | cons x ps ih => simpa using ih
        rw [z]
        omega
      · rw [if_neg d, Nat.zero_add]
        exact ih nd.2 ((List.mem_cons.mp c).resolve_left d)
  · have z : vp q n = 0 := vp_no fun h => c (ha q hq h)
    rw [z]
    have : ∀ ps : List Nat, (ps.map fun p => if q = p then 0 else 0).sum = 0 := fun ps => by
      induction ps with
      | nil => rfl
      | cons x ps ih => simpa using ih
    exact (this ps).symm
/-- how many ways a house has to itself -/
def tot (hs : List Nat) : Nat := pd (hs.map fun a => pd (hs.map fun b => Nat.gcd a b))
theorem tot_in {hs : List Nat} (hh : ∀ h ∈ hs, 1 ≤ h) (a : Nat) : ∀ y ∈ hs.map (fun b => Nat.gcd a b), 1 ≤ y := fun y hy => by
  obtain ⟨b, hb, rfl⟩ := List.mem_map.mp hy
  exact Nat.gcd_pos_of_pos_right _ (hh b hb)
theorem tot_pos {hs : List Nat} (hh : ∀ h ∈ hs, 1 ≤ h) : 1 ≤ tot hs := pd_pos fun y hy => by
  obtain ⟨a, ha, rfl⟩ := List.mem_map.mp hy
  exact pd_pos (tot_in hh a)
theorem tot_vp {hs : List Nat} (hh : ∀ h ∈ hs, 1 ≤ h) {q : Nat} (hq : prm q) : vp q (tot hs) = mn (hs.map (vp q)) (hs.map (vp q)) := by
  unfold tot
  rw [vp_pd hq fun y hy => by
    obtain ⟨a, ha, rfl⟩ := List.mem_map.mp hy
    exact pd_pos (tot_in hh a), List.map_map]
  unfold mn
  rw [List.map_map]
  refine sum_le fun a ha => ?_
  show vp q (pd (hs.map fun b => Nat.gcd a b)) = ((hs.map (vp q)).map fun b => min (vp q a) b).sum
  rw [vp_pd hq (tot_in hh a), List.map_map, List.map_map]
  exact sum_le fun b hb => vp_gcd hq (hh a ha) (hh b hb)
theorem tot_fac {hs ps : List Nat} (hh : ∀ h ∈ hs, 1 ≤ h) (S : Seen hs ps) : tot hs = pd (ps.map fun p => p ^ mn (hs.map (vp p)) (hs.map (vp p))) := by
  have h := fac_all (tot_pos hh) S.nd (fun p hp => (S.p p hp).1) fun q hq hd => by
    refine S.all q hq ?_
    apply Classical.byContradiction
    intro c
    have z : ∀ x ∈ hs, vp q x = 0 := fun x hx => vp_no fun d => c ⟨x, hx, d⟩
    have : vp q (tot hs) = 0 := by
      rw [tot_vp hh hq, List.map_congr_left z]
      unfold mn
      have zz : ∀ (l m : List Nat), ((l.map fun _ => 0).map fun a => ((m.map fun _ => 0).map fun b => min a b).sum).sum = 0 := fun l m => by
        have z1 : ∀ m : List Nat, ((m.map fun _ => 0).map fun b => min 0 b).sum = 0 := fun m => by
          induction m with
          | nil => rfl
          | cons x m ih => simpa using ih
        induction l with
        | nil => rfl
        | cons x l ih =>
          simp only [List.map_cons, List.sum_cons]
          rw [ih, z1]
      exact zz hs hs
    have := (vp_pos hq.1 (tot_pos hh)).mpr hd
    omega
  rw [h]
  congr 1
  refine List.map_congr_left fun p hp => ?_
  rw [tot_vp hh (S.p p hp).1]
theorem due_eq {hs ps : List Nat} {B : List (Nat × List Nat)} (hh : ∀ h ∈ hs, 1 ≤ h) (H : BP hs B) (S : Seen hs ps) {zz : Nat → List Nat} (hz : ∀ p ∈ ps, (zz p).Nodup ∧ ∀ n, n ∈ zz p ↔ n ∈ hs.map (vp p)) :
    tot hs * pd (ps.map fun p => kp (fun k => p ^ k - 1) (hs.map (vp p)) (zz p)) = mt B * pd (ps.map fun p => kp (fun k => p ^ k) (hs.map (vp p)) (zz p)) := by
  classical
  have ex : ∀ p ∈ ps, ∃ es, (p, es) ∈ B := fun p hp => by
    obtain ⟨a, h, hm, hd⟩ := S.p p hp
    refine H.c p a fun e => ?_
    have : vp p h ∈ PV p hs := by
      unfold PV
      rw [List.mem_filter]
      exact ⟨List.mem_map.mpr ⟨h, hm, rfl⟩, by simpa using (vp_pos a.1 (hh h hm)).mpr hd⟩
    rw [e] at this
    cases this
  let ef : Nat → List Nat := fun p => if h : ∃ es, (p, es) ∈ B then Classical.choose h else []
  have uni : ∀ x ∈ B, ∀ y ∈ B, x.1 = y.1 → x = y := fun x hx y hy e => by
    have := H.o
    rcases Nat.lt_trichotomy 0 0 with h | h | h
    · omega
    · clear h
      have nd : (B.map (·.1)).Nodup := by
        rw [List.nodup_iff_pairwise_ne, List.pairwise_map]
        exact this.imp fun h => Nat.ne_of_lt h
      clear H ex ef hz S
      induction B with
      | nil => cases hx
      | cons b B ih =>
        rw [List.map_cons, List.nodup_cons] at nd
        rw [List.pairwise_cons] at this
        rcases List.mem_cons.mp hx with p | p <;> rcases List.mem_cons.mp hy with q | q
        · rw [p, q]
        · exact absurd (List.mem_map.mpr ⟨y, q, by rw [← e, p]⟩) nd.1
        · exact absurd (List.mem_map.mpr ⟨x, p, by rw [e, q]⟩) nd.1
        · exact ih p q this.2 nd.2
    · omega
  have efs : ∀ x ∈ B, ef x.1 = x.2 := fun x hx => by
    have h : ∃ es, (x.1, es) ∈ B := ⟨x.2, hx⟩
    have e1 : ef x.1 = Classical.choose h := dif_pos h
    have := uni _ (Classical.choose_spec h) x hx rfl
    rw [e1]
    exact congrArg Prod.snd this
  have em : mt B = pd (ps.map fun p => mop p (ef p)) := by
    have e1 : mt B = pd ((B.map (·.1)).map fun p => mop p (ef p)) := by
      unfold mt
      rw [List.map_map]
      congr 1
      refine List.map_congr_left fun x hx => ?_
      show mop x.1 x.2 = mop x.1 (ef x.1)
      rw [efs x hx]
    rw [e1]
    refine pd_perm (List.Perm.map _ ((List.perm_ext_iff_of_nodup ?_ S.nd).mpr fun p => ?_))
    · rw [List.nodup_iff_pairwise_ne, List.pairwise_map]
      exact H.o.imp fun h => Nat.ne_of_lt h
    · rw [List.mem_map]
      constructor
      · rintro ⟨x, hx, rfl⟩
        obtain ⟨a, _, _, d⟩ := H.a x hx
        obtain ⟨e0, he0⟩ := List.exists_mem_of_ne_nil _ d
        unfold PV at he0
        rw [List.mem_filter, List.mem_map] at he0
        obtain ⟨⟨h, hm, rfl⟩, h0⟩ := he0
        exact S.all _ a ⟨h, hm, (vp_pos a.1 (hh h hm)).mp (by simpa using h0)⟩
      · intro hp
        obtain ⟨es, he⟩ := ex p hp
        exact ⟨_, he, rfl⟩
  rw [tot_fac hh S, em, ← pd_map_mul, ← pd_map_mul]
  congr 1
  refine List.map_congr_left fun p hp => ?_
  obtain ⟨es, he⟩ := ex p hp
  have e1 : ef p = es := efs (p, es) he
  obtain ⟨a, b, c, _⟩ := H.a (p, es) he
  have z := hz p hp
  have cp : es.Perm ((hs.map (vp p)).filter fun k => decide (0 < k)) := c
  show p ^ mn (hs.map (vp p)) (hs.map (vp p)) * kp (fun k => p ^ k - 1) (hs.map (vp p)) (zz p) = mop p (ef p) * kp (fun k => p ^ k) (hs.map (vp p)) (zz p)
  rw [e1, kp_grp _ cp z.1 z.2, kp_grp _ cp z.1 z.2, ← mn_pos (hs.map (vp p)), ← mn_perm cp]
  exact mop_eq a.1 b fun e hm => by
    have := cp.mem_iff.mp hm
    rw [List.mem_filter] at this
    have h2 : 0 < e := by simpa using this.2
    omega
end K61.F
namespace K61.F
open PySem Pu L2
def HoN (hs : List Nat) : Prop := hs.length ≤ 6 ∧ ∀ h ∈ hs, 1 ≤ h ∧ h < B130
theorem HoN.at {hs : List Nat} (H : HoN hs) {i h : Nat} (e : hs[i]? = some h) : 1 ≤ h ∧ h < B130 := H.2 h (List.mem_of_getElem? e)
theorem rev_ind {P : List Nat → Prop} (h0 : P []) (hs : ∀ xs x, P xs → P (xs ++ [x])) (xs : List Nat) : P xs := by
  have : ∀ ys : List Nat, P ys.reverse := by
    intro ys
    induction ys with
    | nil => exact h0
    | cons y ys ih =>
      rw [List.reverse_cons]
      exact hs _ _ ih
  have := this xs.reverse
  rwa [List.reverse_reverse] at this
theorem IN_at {hs : List Nat} {i h : Nat} (e : hs[i]? = some h) : (IN hs)[i]? = some (h : Int) := by
  rw [List.getElem?_map, e]
  rfl
def gn (xs : List Nat) (i : Nat) : Nat := xs.getD i 0
theorem gn_at {xs : List Nat} {i : Nat} (h : i < xs.length) : xs[i]? = some (gn xs i) := by
  rw [gn, List.getD, List.getElem?_eq_getElem h]
  rfl
def Th (hs as : List Int) : Prop := as.length = hs.length ∧ ∀ (i : Nat) (a h : Int), as[i]? = some a → hs[i]? = some h → 0 ≤ a ∧ a < h
theorem dv {h a n : Nat} (hh : 1 ≤ h) : n * a % h = 0 ↔ h / Nat.gcd h a ∣ n := by
  have g0 : 0 < Nat.gcd h a := Nat.gcd_pos_of_pos_left _ hh
  obtain ⟨p, hp⟩ := Nat.gcd_dvd_left h a
  obtain ⟨q, hq⟩ := Nat.gcd_dvd_right h a
  generalize hg : Nat.gcd h a = g at *
  have e : h / g = p := by rw [hp, Nat.mul_div_cancel_left _ g0]
  have cop : Nat.Coprime p q := by
    have := Nat.gcd_mul_left g p q
    rw [← hp, ← hq, hg] at this
    exact Nat.eq_of_mul_eq_mul_left g0 (by rw [← this, Nat.mul_one])
  rw [e]
  constructor
  · intro h1
    obtain ⟨t, ht⟩ := Nat.dvd_of_mod_eq_zero h1
    have : p ∣ n * q := ⟨t, Nat.eq_of_mul_eq_mul_left g0 (by rw [← Nat.mul_assoc g p t, ← hp, ← ht, hq]; ac_rfl)⟩
    exact cop.dvd_of_dvd_mul_right this
  · rintro ⟨t, rfl⟩
    rw [hp, hq]
    exact Nat.mod_eq_zero_of_dvd ⟨t * q, by ac_rfl⟩
def nz (hs as : List Nat) (n : Nat) : Prop := ∀ i, i < hs.length → n * gn as i % gn hs i = 0
end K61.F
namespace K61.F.Y
open PySem Pu L2
abbrev T (xs : List Int) : D := .tuple (xs.map .int)
def BB : Nat := 2 ^ 1900
def Ho (hs : List Int) : Prop := hs.length ≤ 6 ∧ ∀ h ∈ hs, 1 ≤ h ∧ h.natAbs < BB
def Th (hs as : List Int) : Prop := as.length = hs.length ∧ ∀ (i : Nat) (a h : Int), as[i]? = some a → hs[i]? = some h → 0 ≤ a ∧ a < h
theorem Ho.at {hs : List Int} (H : Ho hs) {i : Nat} {h : Int} (e : hs[i]? = some h) : 1 ≤ h ∧ h.natAbs < BB := H.2 h (List.mem_of_getElem? e)
theorem lt_of_at {as : List Int} {i : Nat} {a : Int} (h : as[i]? = some a) : i < as.length := (List.getElem?_eq_some_iff.mp h).1
def mods (hs xs : List Int) : List Int := List.zipWith (fun x h => x % h) xs hs
theorem mods_len {hs xs : List Int} (h : xs.length = hs.length) : (mods hs xs).length = hs.length := by
  unfold mods
  rw [List.length_zipWith, h]
  omega
theorem mods_at {hs xs : List Int} (i : Nat) : (mods hs xs)[i]? = (xs[i]?).bind fun x => (hs[i]?).map fun h => x % h := by
  unfold mods
  rw [List.getElem?_zipWith]
  cases xs[i]? <;> cases hs[i]? <;> rfl
theorem mods_th {hs xs : List Int} (H : Ho hs) (h : xs.length = hs.length) : Th hs (mods hs xs) := ⟨mods_len h, fun i a k e1 e2 => by
  rw [mods_at, e2] at e1
  cases hx : xs[i]? with
  | none =>
    rw [hx] at e1
    cases e1
  | some x =>
    rw [hx] at e1
    cases e1
    have := H.at e2
    exact ⟨Int.emod_nonneg _ (by omega), Int.emod_lt_of_pos _ (by omega)⟩⟩
def Hq (hs : List Int) : Prop := hs.length ≤ 6 ∧ ∀ h ∈ hs, 1 ≤ h ∧ h ≤ 10 ^ 38
theorem small_BB {x : Int} (h0 : -(10 ^ 40) ≤ x) (h1 : x ≤ 10 ^ 40) : x.natAbs < BB := by
  have h2 : x.natAbs ≤ 10 ^ 40 := by omega
  refine Nat.lt_of_le_of_lt h2 ?_
  unfold BB
  decide +kernel
theorem Hq.ho {hs : List Int} (h : Hq hs) : Ho hs := ⟨h.1, fun x hx => ⟨(h.2 x hx).1, small_BB (by have := (h.2 x hx).1; omega) (by have := (h.2 x hx).2; omega)⟩⟩
def Im (h : Int) (ps as : List Int) : Prop := as.length = ps.length ∧ ∀ (i : Nat) (a k : Int), as[i]? = some a → ps[i]? = some k → (0 ≤ a ∧ a < k) ∧ (h * a) % k = 0
theorem im_th {h : Int} {ps as : List Int} (I : Im h ps as) : Th ps as := ⟨I.1, fun i a k e1 e2 => (I.2 i a k e1 e2).1⟩
def gi (xs : List Int) (i : Nat) : Int := xs.getD i 0
theorem gi_at {xs : List Int} {i : Nat} (h : i < xs.length) : xs[i]? = some (gi xs i) := by
  unfold gi
  rw [List.getD_eq_getElem?_getD, List.getElem?_eq_getElem h]
  rfl
def gr (rs : List (List Int)) (i : Nat) : List Int := rs.getD i []
theorem gr_at {rs : List (List Int)} {i : Nat} (h : i < rs.length) : rs[i]? = some (gr rs i) := by
  unfold gr
  rw [List.getD_eq_getElem?_getD, List.getElem?_eq_getElem h]
  rfl
def dt (a : List Int) (ims : List (List Int)) (j : Nat) : Nat → Int
  | 0 => 0
  | n + 1 => dt a ims j n + gi a n * gi (gr ims n) j
def ledL (os ps : List Int) (ims : List (List Int)) (a : List Int) : List Int := mods ps ((List.range ps.length).map fun j => dt a ims j os.length)
structure Wy (os ps : List Int) (ims : List (List Int)) : Prop where
  o : Hq os
  p : Hq ps
  l : ims.length = os.length
  im : ∀ i, i < os.length → Im (gi os i) ps (gr ims i)
theorem led_eq (os ps : List Int) (ims : List (List Int)) (a : List Int) : ledL os ps ims a = (List.range ps.length).map fun j => dt a ims j os.length % gi ps j := by
  unfold ledL
  apply List.ext_getElem?
  intro j
  rw [mods_at]
  by_cases hj : j < ps.length
  · rw [List.getElem?_map, List.getElem?_map, List.getElem?_range hj, gi_at hj]
    rfl
  · have e1 : ((List.range ps.length).map fun j => dt a ims j os.length)[j]? = none := List.getElem?_eq_none (by simp; omega)
    have e2 : ((List.range ps.length).map fun j => dt a ims j os.length % gi ps j)[j]? = none := List.getElem?_eq_none (by simp; omega)
    rw [e1, e2]
    rfl
theorem gi_map {n k : Nat} (f : Nat → Int) (h : k < n) : gi ((List.range n).map f) k = f k := by
  unfold gi
  simp [List.getD_eq_getElem?_getD, h]
def suL (os a b : List Int) : List Int := (List.range os.length).map fun k => (gi a k + gi b k) % gi os k
theorem gi_of {xs : List Int} {i : Nat} {x : Int} (h : xs[i]? = some x) : gi xs i = x := by
  unfold gi
  rw [List.getD_eq_getElem?_getD, h]
  rfl
theorem mod_mul {x o m p : Int} (h : (o * m) % p = 0) : p ∣ (x % o) * m - x * m := by
  have e : (x % o) * m - x * m = (o * m) * (-(x / o)) := by
    have h1 := Int.mul_ediv_add_emod x o
    have h2 : x % o = x - o * (x / o) := by omega
    rw [h2, Int.sub_mul, Int.mul_neg, Int.mul_assoc, Int.mul_assoc, Int.mul_comm (x / o) m]
    omega
  rw [e]
  exact Int.dvd_trans (Int.dvd_of_emod_eq_zero h) (Int.dvd_mul_right _ _)
theorem Hq.gi {os : List Int} (H : Hq os) {i : Nat} (h : i < os.length) : 1 ≤ gi os i ∧ gi os i ≤ 10 ^ 38 := H.2 _ (List.mem_of_getElem? (gi_at h))
theorem Wy.zero {os ps : List Int} {ims : List (List Int)} (W : Wy os ps ims) {i j : Nat} (hi : i < os.length) (hj : j < ps.length) : (gi os i * gi (gr ims i) j) % gi ps j = 0 := by
  have I := W.im i hi
  have e := gi_at (xs := gr ims i) (i := j) (by rw [I.1]; exact hj)
  exact (I.2 j _ _ e (gi_at hj)).2
theorem dt_su {os ps : List Int} {ims : List (List Int)} {a b : List Int} (W : Wy os ps ims) {j : Nat} (hj : j < ps.length) : ∀ n, n ≤ os.length → gi ps j ∣ dt (suL os a b) ims j n - (dt a ims j n + dt b ims j n)
  | 0, _ => by simp [dt]
  | n + 1, h => by
    have ih := dt_su (a := a) (b := b) W hj n (by omega)
    have z := mod_mul (x := gi a n + gi b n) (W.zero (i := n) (by omega) hj)
    have e : gi (suL os a b) n = (gi a n + gi b n) % gi os n := gi_map _ (by omega)
    have := Int.dvd_add ih z
    simp only [dt, e]
    rw [Int.add_mul] at this
    have e2 : dt (suL os a b) ims j n + (gi a n + gi b n) % gi os n * gi (gr ims n) j - (dt a ims j n + gi a n * gi (gr ims n) j + (dt b ims j n + gi b n * gi (gr ims n) j)) = dt (suL os a b) ims j n - (dt a ims j n + dt b ims j n) + ((gi a n + gi b n) % gi os n * gi (gr ims n) j - (gi a n * gi (gr ims n) j + gi b n * gi (gr ims n) j)) := by omega
    rw [e2]
    exact this
theorem emod_eq_of_dvd {a b p : Int} (h : p ∣ a - b) : a % p = b % p := Int.emod_eq_emod_iff_emod_sub_eq_zero.mpr (Int.emod_eq_zero_of_dvd h)
theorem led_su {os ps : List Int} {ims : List (List Int)} {a b : List Int} (W : Wy os ps ims) : ledL os ps ims (suL os a b) = suL ps (ledL os ps ims a) (ledL os ps ims b) := by
  rw [led_eq]
  unfold suL
  apply List.map_congr_left
  intro j hj
  have hj := List.mem_range.mp hj
  rw [led_eq, led_eq, gi_map _ hj, gi_map _ hj, ← Int.add_emod]
  exact emod_eq_of_dvd (dt_su W hj _ (Nat.le_refl _))
theorem led_th {os ps : List Int} {ims : List (List Int)} (H : Hq ps) (a : List Int) : Th ps (ledL os ps ims a) := mods_th H.ho (by simp)
theorem su_th {os a b : List Int} (H : Hq os) : Th os (suL os a b) := ⟨by simp [suL], fun i x h e1 e2 => by
  have hi := lt_of_at e2
  have := gi_of e1
  unfold suL at this
  rw [gi_map _ hi, gi_of e2] at this
  have := H.gi hi
  rw [gi_of e2] at this
  rename_i q
  rw [← q]
  exact ⟨Int.emod_nonneg _ (by omega), Int.emod_lt_of_pos _ (by omega)⟩⟩
def idL (os : List Int) : List (List Int) := (List.range os.length).map fun i => mods os ((List.range os.length).map fun j => if j = i then 1 else 0)
theorem gr_map {n k : Nat} (f : Nat → List Int) (h : k < n) : gr ((List.range n).map f) k = f k := by
  unfold gr
  simp [List.getD_eq_getElem?_getD, h]
theorem id_gi {os : List Int} {i j : Nat} (hi : i < os.length) (hj : j < os.length) : gi (gr (idL os) i) j = (if j = i then 1 else 0) % gi os j := by
  unfold idL
  rw [gr_map _ hi]
  refine gi_of ?_
  rw [mods_at, List.getElem?_map, List.getElem?_range hj, gi_at hj]
  rfl
theorem wy_id {os : List Int} (H : Hq os) : Wy os os (idL os) := ⟨H, H, by simp [idL], fun i hi => by
  have hl : (gr (idL os) i).length = os.length := by
    unfold idL
    rw [gr_map _ hi]
    exact mods_len (by simp)
  refine ⟨hl, fun j a k e1 e2 => ?_⟩
  have hj := lt_of_at e2
  have h1 := gi_of e1
  have h2 := gi_of e2
  rw [id_gi hi hj, h2] at h1
  have h3 := H.gi hj
  rw [h2] at h3
  refine ⟨?_, ?_⟩
  · rw [← h1]
    exact ⟨Int.emod_nonneg _ (by omega), Int.emod_lt_of_pos _ (by omega)⟩
  · by_cases h : j = i
    · subst h
      rw [h2]
      exact Int.mul_emod_right ..
    · rw [if_neg h] at h1
      rw [← h1]
      simp⟩
theorem dt_id {os a : List Int} (H : Hq os) {j : Nat} (hj : j < os.length) : ∀ n, n ≤ os.length → dt a (idL os) j n = if j < n then gi a j * (1 % gi os j) else 0
  | 0, _ => by simp [dt]
  | n + 1, h => by
    rw [dt, dt_id H hj n (by omega), id_gi (by omega) hj]
    by_cases h1 : j < n
    · rw [if_pos h1, if_neg (by omega), if_pos (by omega)]
      simp
    · rw [if_neg h1]
      by_cases h2 : j = n
      · subst h2
        simp
      · rw [if_neg h2, if_neg (by omega)]
        simp
theorem led_id {os a : List Int} (H : Hq os) (A : Th os a) : ledL os os (idL os) a = a := by
  rw [led_eq]
  apply List.ext_getElem?
  intro j
  by_cases hj : j < os.length
  · rw [List.getElem?_map, List.getElem?_range hj, gi_at (xs := a) (i := j) (by rw [A.1]; exact hj)]
    show some _ = some _
    congr 1
    show dt a (idL os) j os.length % gi os j = gi a j
    rw [dt_id H hj _ (Nat.le_refl _), if_pos hj]
    have ha := A.2 j _ _ (gi_at (xs := a) (by rw [A.1]; exact hj)) (gi_at hj)
    rw [Int.mul_emod, Int.emod_emod_of_dvd _ (Int.dvd_refl _), ← Int.mul_emod, Int.mul_one]
    exact Int.emod_eq_of_lt ha.1 ha.2
  · rw [List.getElem?_eq_none (by simp; omega), List.getElem?_eq_none (by rw [A.1]; omega)]
theorem mods_eq {hs xs : List Int} (h : xs.length = hs.length) : mods hs xs = (List.range hs.length).map fun k => gi xs k % gi hs k := by
  apply List.ext_getElem?
  intro i
  rw [mods_at, List.getElem?_map]
  by_cases hi : i < hs.length
  · rw [gi_at (xs := xs) (by omega), gi_at hi, List.getElem?_range hi]
    rfl
  · rw [List.getElem?_eq_none (l := xs) (by omega), List.getElem?_eq_none (l := List.range hs.length) (by simp; omega)]
    rfl
theorem gi_zip {as bs : List Int} (f : Int → Int → Int) {k : Nat} (h1 : k < as.length) (h2 : k < bs.length) : gi (List.zipWith f as bs) k = f (gi as k) (gi bs k) := by
  refine gi_of ?_
  rw [List.getElem?_zipWith, gi_at h1, gi_at h2]
def nb (o p : Int) : D → Bool
  | .int n => decide (0 ≤ n) && (decide (n < p) && decide ((o * n) % p = 0))
  | _ => false
def imB (ps : List Int) (o : Int) : D → Bool
  | .tuple ds => decide (ds.length = ps.length) && (List.range ps.length).all fun j => nb o (ps.getD j 0) (ds.getD j .none)
  | _ => false
def wy (os ps : List Int) : D → Bool
  | .tuple zs => decide (zs.length = os.length) && (List.range os.length).all fun i => imB ps (os.getD i 0) (zs.getD i .none)
  | _ => false
def IB (d : D) : Prop := ∀ xs, d = .tuple xs → ∀ i : Int, PyData.int i ∈ xs → i.natAbs < BB
theorem IB.t {xs : List Int} (h : ∀ x ∈ xs, -(10 ^ 40) ≤ x ∧ x ≤ 10 ^ 40) : IB (T xs) := fun ds e i hi => by
  cases e
  obtain ⟨x, hx, e⟩ := List.mem_map.mp hi
  have e : x = i := by simpa using e
  subst e
  exact small_BB (h _ hx).1 (h _ hx).2
def muL (os : List Int) (n : Int) (a : List Int) : List Int := (List.range os.length).map fun k => (n * gi a k) % gi os k
theorem gi_IN {xs : List Nat} {i : Nat} (h : i < xs.length) : gi (IN xs) i = (gn xs i : Nat) := gi_of (IN_at (gn_at h))
theorem plus_su {hs as bs : List Int} (A : Th hs as) (B : Th hs bs) : mods hs (List.zipWith (fun a b => a + b) as bs) = suL hs as bs := by
  have h1 := A.1
  have h2 := B.1
  rw [mods_eq (by rw [List.length_zipWith]; omega)]
  unfold suL
  refine List.map_congr_left fun k hk => ?_
  have hk := List.mem_range.mp hk
  rw [gi_zip _ (by omega) (by omega)]
theorem mu_th {os a : List Int} {n : Int} (H : Hq os) : Th os (muL os n a) := ⟨by simp [muL], fun i x h e1 e2 => by
  have hi := lt_of_at e2
  have := gi_of e1
  unfold muL at this
  rw [gi_map _ hi, gi_of e2] at this
  have := H.gi hi
  rw [gi_of e2] at this
  rename_i q
  rw [← q]
  exact ⟨Int.emod_nonneg _ (by omega), Int.emod_lt_of_pos _ (by omega)⟩⟩
theorem led_gi {os ps : List Int} {ims : List (List Int)} {a : List Int} {j : Nat} (hj : j < ps.length) : gi (ledL os ps ims a) j = dt a ims j os.length % gi ps j := by
  rw [led_eq, gi_map _ hj]
theorem dt_cong {ps qs : List Int} {i2 : List (List Int)} (W : Wy ps qs i2) {j : Nat} (hj : j < qs.length) {a b : List Int} : ∀ n, n ≤ ps.length → (∀ k, k < n → gi ps k ∣ gi a k - gi b k) → gi qs j ∣ dt a i2 j n - dt b i2 j n
  | 0, _, _ => by simp [dt]
  | n + 1, hn, h => by
    have ih := dt_cong W hj n (by omega) fun k hk => h k (by omega)
    simp only [dt]
    have hz := W.zero (i := n) (by omega) hj
    obtain ⟨c, hc⟩ := h n (by omega)
    obtain ⟨e, he⟩ := Int.dvd_of_emod_eq_zero hz
    have : gi a n * gi (gr i2 n) j - gi b n * gi (gr i2 n) j = gi qs j * (c * e) := by
      rw [← Int.sub_mul, hc, Int.mul_comm (gi ps n) c, Int.mul_assoc, he, Int.mul_left_comm]
    obtain ⟨f, hf⟩ := ih
    exact ⟨f + c * e, by rw [Int.mul_add, ← hf, ← this]; omega⟩
end K61.F.Y
namespace K61.F
open PySem Pu L2
def pr (hs : List Nat) : Nat := hs.foldl (fun l h => l * h) 1
theorem pr_app1 (hs : List Nat) (h : Nat) : pr (hs ++ [h]) = pr hs * h := by
  unfold pr
  rw [List.foldl_append]
  rfl
theorem pr_app (xs ys : List Nat) : pr (xs ++ ys) = pr xs * pr ys := by
  refine rev_ind (P := fun ys => pr (xs ++ ys) = pr xs * pr ys) ?_ ?_ ys
  · simp [pr]
  · intro ys y ih
    rw [← List.append_assoc, pr_app1, ih, pr_app1, Nat.mul_assoc]
theorem pr_pos {hs : List Nat} : (∀ h ∈ hs, 1 ≤ h) → 0 < pr hs := by
  refine rev_ind (P := fun hs => (∀ h ∈ hs, 1 ≤ h) → 0 < pr hs) ?_ ?_ hs
  · intro _; decide
  · intro hs h ih hh
    rw [pr_app1]
    exact Nat.mul_pos (ih fun x hx => hh x (List.mem_append_left _ hx)) (hh h (by simp))
theorem pr_le {B : Nat} {hs : List Nat} : (∀ h ∈ hs, h ≤ B) → pr hs ≤ B ^ hs.length := by
  refine rev_ind (P := fun hs => (∀ h ∈ hs, h ≤ B) → pr hs ≤ B ^ hs.length) ?_ ?_ hs
  · intro _; simp [pr]
  · intro hs h ih hh
    rw [pr_app1, List.length_append, List.length_singleton, Nat.pow_succ]
    exact Nat.mul_le_mul (ih fun x hx => hh x (List.mem_append_left _ hx)) (hh h (by simp))
theorem HoS.pr {hs : List Nat} (H : HoS hs) : 0 < pr hs ∧ pr hs ≤ 1000000 ^ 6 := ⟨pr_pos fun h hh => (H.2 h hh).1, Nat.le_trans (pr_le (B := 1000000) fun h hh => (H.2 h hh).2) (Nat.pow_le_pow_right (by decide) H.1)⟩
def tr : List Nat → List (List Nat)
  | [] => [[]]
  | h :: hs => (List.range h).flatMap fun k => (tr hs).map fun b => k :: b
def tl (acc : List (List Nat)) : List Nat → List (List Nat)
  | [] => acc
  | h :: hs => tl (acc.flatMap fun a => (List.range h).map fun k => a ++ [k]) hs
theorem flatMap_flatMap {α β γ : Type} (f : α → List β) (g : β → List γ) : ∀ xs : List α, (xs.flatMap f).flatMap g = xs.flatMap fun x => (f x).flatMap g
  | [] => rfl
  | x :: xs => by
    rw [List.flatMap_cons, List.flatMap_append, List.flatMap_cons, flatMap_flatMap f g xs]
theorem flatMap_map' {α β γ : Type} (f : α → β) (g : β → List γ) : ∀ xs : List α, (xs.map f).flatMap g = xs.flatMap fun x => g (f x)
  | [] => rfl
  | x :: xs => by rw [List.map_cons, List.flatMap_cons, List.flatMap_cons, flatMap_map' f g xs]
theorem map_flatMap' {α β γ : Type} (f : α → List β) (g : β → γ) : ∀ xs : List α, (xs.flatMap f).map g = xs.flatMap fun x => (f x).map g
  | [] => rfl
  | x :: xs => by rw [List.flatMap_cons, List.map_append, List.flatMap_cons, map_flatMap' f g xs]
theorem tl_tr : ∀ (hs : List Nat) (acc : List (List Nat)), tl acc hs = acc.flatMap fun a => (tr hs).map fun b => a ++ b
  | [], acc => by
    show acc = acc.flatMap fun a => [a ++ []]
    induction acc with
    | nil => rfl
    | cons a as ih =>
      rw [List.flatMap_cons, ← ih]
      simp
  | h :: hs, acc => by
    show tl (acc.flatMap fun a => (List.range h).map fun k => a ++ [k]) hs = _
    rw [tl_tr hs, flatMap_flatMap]
    congr 1
    funext a
    rw [flatMap_map']
    show _ = ((List.range h).flatMap fun k => (tr hs).map fun b => k :: b).map fun b => a ++ b
    rw [map_flatMap']
    congr 1
    funext k
    rw [List.map_map]
    congr 1
    funext b
    simp
theorem tl_eq (hs : List Nat) : tl [[]] hs = tr hs := by
  rw [tl_tr]
  simp
theorem tl_snoc : ∀ (hs : List Nat) (h : Nat) (acc : List (List Nat)), tl acc (hs ++ [h]) = (tl acc hs).flatMap fun a => (List.range h).map fun k => a ++ [k]
  | [], h, acc => rfl
  | x :: hs, h, acc => tl_snoc hs h _
theorem fm_len {α β : Type} (f : α → List β) (m : Nat) : ∀ xs : List α, (∀ x ∈ xs, (f x).length = m) → (xs.flatMap f).length = xs.length * m
  | [], _ => by simp
  | x :: xs, h => by
    rw [List.flatMap_cons, List.length_append, h x (by simp), fm_len f m xs fun y hy => h y (by simp [hy]), List.length_cons, Nat.add_mul]
    omega
theorem tl_len (hs : List Nat) : (tl [[]] hs).length = pr hs := by
  refine rev_ind (P := fun hs => (tl [[]] hs).length = pr hs) rfl ?_ hs
  intro hs h ih
  rw [tl_snoc, fm_len _ h, ih, pr_app1]
  intro x _
  simp
theorem tr_len (hs : List Nat) : (tr hs).length = pr hs := by rw [← tl_eq, tl_len]
end K61.F
namespace K61.F.A
open PySem Pu L2
structure Fac (n : Nat) (L : List (Nat × Nat)) : Prop where
  a : ∀ x ∈ L, prm x.1 ∧ x.1 ∣ n ∧ x.2 = vp x.1 n
  c : ∀ q, prm q → q ∣ n → ∃ e, (q, e) ∈ L
  o : L.Pairwise fun x y => x.1 < y.1
def pd : List Nat → Nat
  | [] => 1
  | x :: xs => x * pd xs
theorem pd_pos {xs : List Nat} (h : ∀ x ∈ xs, 1 ≤ x) : 1 ≤ pd xs := by
  induction xs with
  | nil => exact Nat.le_refl 1
  | cons x xs ih => exact Nat.mul_pos (h x (by simp)) (ih fun y hy => h y (by simp [hy]))
theorem vp_pd {q : Nat} (hq : prm q) {xs : List Nat} (h : ∀ x ∈ xs, 1 ≤ x) : vp q (pd xs) = (xs.map (vp q)).sum := by
  induction xs with
  | nil => simp [pd, vp_one hq.1]
  | cons x xs ih =>
    rw [List.map_cons, List.sum_cons, ← ih fun y hy => h y (by simp [hy])]
    exact vp_mul hq (h x (by simp)) (pd_pos fun y hy => h y (by simp [hy]))
def fc : Nat → Nat
  | 0 => 1
  | n + 1 => (n + 1) * fc n
theorem pd_fc : ∀ (xs : List Nat) (lo : Nat), (∀ x ∈ xs, lo ≤ x) → xs.Pairwise (· < ·) → fc (lo - 1 + xs.length) ≤ fc (lo - 1) * pd xs ∨ lo = 0
  | [], lo, _, _ => .inl (by simp [pd])
  | x :: xs, lo, h, hp => by
    rcases Nat.eq_zero_or_pos lo with z | z
    · exact .inr z
    left
    rw [List.pairwise_cons] at hp
    have h1 := h x (by simp)
    rcases pd_fc xs (lo + 1) (fun y hy => by have := hp.1 y hy; omega) hp.2 with h2 | h2
    · rw [show lo + 1 - 1 = lo by omega] at h2
      have e1 : lo - 1 + (x :: xs).length = lo + xs.length := by simp; omega
      rw [e1]
      have e2 : fc lo = lo * fc (lo - 1) := by
        obtain ⟨k, rfl⟩ : ∃ k, lo = k + 1 := ⟨lo - 1, by omega⟩
        rfl
      rw [e2] at h2
      have h3 : lo * fc (lo - 1) * pd xs ≤ x * fc (lo - 1) * pd xs := Nat.mul_le_mul_right _ (Nat.mul_le_mul_right _ h1)
      have e3 : x * fc (lo - 1) * pd xs = fc (lo - 1) * pd (x :: xs) := by
        simp only [pd, Nat.mul_assoc, Nat.mul_left_comm, Nat.mul_comm]
      omega
    · omega
theorem sum_one {q : Nat} : ∀ {ps : List Nat}, ps.Nodup → (∀ p ∈ ps, prm p) → prm q → (ps.map (vp q)).sum = if q ∈ ps then 1 else 0
  | [], _, _, _ => by simp
  | p :: ps, hn, hp, hq => by
    rw [List.nodup_cons] at hn
    have ih := sum_one (q := q) hn.2 (fun x hx => hp x (by simp [hx])) hq
    rw [List.map_cons, List.sum_cons, ih]
    by_cases e : q = p
    · subst e
      have := vp_self hq.1 1
      rw [Nat.pow_one] at this
      rw [this, if_neg hn.1, if_pos (by simp)]
    · have := vp_other hq (hp p (by simp)) e 1
      rw [Nat.pow_one] at this
      rw [this]
      simp [e]
theorem few_primes {n : Nat} (hn : 1 ≤ n) (hn2 : n ≤ 10 ^ 6) {ps : List Nat} (h : ∀ p ∈ ps, prm p ∧ p ∣ n) (ho : ps.Pairwise (· < ·)) : ps.length ≤ 8 := by
  have hnd : ps.Nodup := ho.imp fun h => Nat.ne_of_lt h
  have hd : pd ps ∣ n := vp_le_dvd _ _ (pd_pos fun x hx => by have := (h x hx).1.1; omega) hn fun q hq => by
    rw [vp_pd hq fun x hx => by have := (h x hx).1.1; omega, sum_one hnd (fun p hp => (h p hp).1) hq]
    split
    · rename_i hm
      exact (vp_pos hq.1 hn).mpr (h q hm).2
    · omega
  have h1 := Nat.le_of_dvd (by omega) hd
  rcases pd_fc ps 2 (fun x hx => (h x hx).1.1) ho with h2 | h2
  · have h3 : fc (1 + ps.length) ≤ 10 ^ 6 := by
      have : fc (2 - 1) * pd ps = pd ps := by simp [fc]
      rw [show (2 : Nat) - 1 = 1 from rfl] at h2 this
      omega
    refine Classical.byContradiction fun z => ?_
    have h4 : ∀ k, fc 10 ≤ fc (10 + k) := by
      intro k
      induction k with
      | zero => exact Nat.le_refl _
      | succ k ih =>
        have : fc (10 + (k + 1)) = (10 + k + 1) * fc (10 + k) := rfl
        have h5 : 1 * fc (10 + k) ≤ (10 + k + 1) * fc (10 + k) := Nat.mul_le_mul_right _ (by omega)
        omega
    have h6 := h4 (ps.length - 9)
    rw [show 10 + (ps.length - 9) = 1 + ps.length by omega] at h6
    have : fc 10 = 3628800 := rfl
    omega
  · omega
theorem Fac.len {n : Nat} (hn : 1 ≤ n) (hn2 : n ≤ 10 ^ 6) {L : List (Nat × Nat)} (F : Fac n L) : L.length ≤ 8 := by
  have := few_primes hn hn2 (ps := L.map (·.1)) (fun p hp => by
    obtain ⟨x, hx, rfl⟩ := List.mem_map.mp hp
    exact ⟨(F.a x hx).1, (F.a x hx).2.1⟩) (by
    rw [List.pairwise_map]
    exact F.o)
  simpa using this
def cnt (hs : List Nat) (n : Nat) : Nat := pd (hs.map fun h => Nat.gcd h n)
def PWo (x n : Nat) : Prop := ∃ p k, prm p ∧ 1 ≤ k ∧ n = p ^ k ∧ n ∣ x
def PW (hs : List Nat) (n : Nat) : Prop := ∃ x ∈ hs, PWo x n
theorem pow_vp {p o k : Nat} (hp : prm p) (ho : 1 ≤ o) : p ^ k ∣ o ↔ k ≤ vp p o := by
  constructor
  · intro h
    have := vp_dvd hp ho h
    rwa [vp_self hp.1] at this
  · intro h
    obtain ⟨m, em, _⟩ := vp_ex hp.1 ho
    have h2 : p ^ k ∣ p ^ vp p o := Nat.pow_dvd_pow p h
    exact Nat.dvd_trans h2 ⟨m, em⟩
def Ap (hs gs : List Nat) : Option Nat → Prop
  | none => ∀ n, PW hs n ∨ PW gs n → cnt hs n = cnt gs n
  | some n => (PW hs n ∨ PW gs n) ∧ cnt hs n ≠ cnt gs n ∧ ∀ m, PW hs m ∨ PW gs m → m < n → cnt hs m = cnt gs m
theorem Ap.symm {hs gs : List Nat} : ∀ {o : Option Nat}, Ap hs gs o → Ap gs hs o
  | none, h => fun n hn => (h n hn.symm).symm
  | some n, h => ⟨h.1.symm, h.2.1.symm, fun m hm hl => (h.2.2 m hm.symm hl).symm⟩
theorem cnt_one (hs : List Nat) : cnt hs 1 = 1 := by
  unfold cnt
  induction hs with
  | nil => rfl
  | cons h hs ih =>
    rw [List.map_cons]
    show Nat.gcd h 1 * _ = 1
    rw [ih, Nat.gcd_one_right]
theorem cnt_co {a b : Nat} (h : Nat.Coprime a b) (hs : List Nat) : cnt hs (a * b) = cnt hs a * cnt hs b := by
  unfold cnt
  induction hs with
  | nil => rfl
  | cons x hs ih =>
    simp only [List.map_cons, pd]
    rw [ih, Nat.Coprime.gcd_mul x h]
    simp only [Nat.mul_assoc, Nat.mul_left_comm, Nat.mul_comm]
theorem gcd_down {x p v : Nat} (hx : 1 ≤ x) (hp : prm p) (hv : 1 ≤ v) (h : ¬ p ^ v ∣ x) : Nat.gcd x (p ^ v) = Nat.gcd x (p ^ (v - 1)) := by
  have p1 : ∀ k, 1 ≤ p ^ k := fun k => Nat.pow_pos (by have := hp.1; omega)
  refine vp_eq (Nat.gcd_pos_of_pos_left _ hx) (Nat.gcd_pos_of_pos_left _ hx) fun q hq => ?_
  rw [vp_gcd hq hx (p1 _), vp_gcd hq hx (p1 _)]
  by_cases e : q = p
  · subst e
    rw [vp_self hq.1, vp_self hq.1]
    have : ¬ v ≤ vp q x := fun z => h ((pow_vp hq hx).mpr z)
    omega
  · rw [vp_other hq hp e, vp_other hq hp e]
theorem cnt_down {p v : Nat} (hp : prm p) (hv : 1 ≤ v) {hs : List Nat} (h1 : ∀ x ∈ hs, 1 ≤ x) (h : ¬ PW hs (p ^ v)) : cnt hs (p ^ v) = cnt hs (p ^ (v - 1)) := by
  unfold cnt
  congr 1
  refine List.map_congr_left fun x hx => gcd_down (h1 x hx) hp hv fun z => h ⟨x, hx, p, v, hp, hv, rfl, z⟩
theorem key {hs gs : List Nat} (h1 : ∀ x ∈ hs, 1 ≤ x) (h2 : ∀ x ∈ gs, 1 ≤ x) {n : Nat} (hn : 1 ≤ n) (hd : cnt hs n ≠ cnt gs n) (hm : ∀ m, 1 ≤ m → m < n → cnt hs m = cnt gs m) : PW hs n ∨ PW gs n := by
  rcases Nat.eq_or_lt_of_le hn with e | hn2
  · subst e
    exact absurd ((cnt_one hs).trans (cnt_one gs).symm) hd
  obtain ⟨p, hp, hpn⟩ := prm_ex n hn2
  obtain ⟨m, em, hpm⟩ := vp_ex hp.1 hn
  have hv := (vp_pos hp.1 hn).mpr hpn
  generalize vp p n = v at *
  have hpv : 2 ≤ p ^ v := by
    have : p ^ 1 ≤ p ^ v := Nat.pow_le_pow_right (by have := hp.1; omega) hv
    have := hp.1
    rw [Nat.pow_one] at *
    omega
  have hm0 : 1 ≤ m := by
    rcases Nat.eq_zero_or_pos m with z | z
    · subst z; rw [Nat.mul_zero] at em; omega
    · exact z
  rcases Nat.eq_or_lt_of_le hm0 with e | hm2
  · subst e
    rw [Nat.mul_one] at em
    subst em
    refine Classical.byContradiction fun z => ?_
    have z1 : ¬ PW hs (p ^ v) := fun y => z (.inl y)
    have z2 : ¬ PW gs (p ^ v) := fun y => z (.inr y)
    rw [cnt_down hp hv h1 z1, cnt_down hp hv h2 z2] at hd
    refine hd (hm _ (Nat.pow_pos (by have := hp.1; omega)) (Nat.pow_lt_pow_right hp.1 (by omega)))
  · have hc : Nat.Coprime (p ^ v) m := Nat.Coprime.pow_left v (prm_co hp hpm)
    rw [em, cnt_co hc, cnt_co hc] at hd
    have a1 : p ^ v < n := by
      have : p ^ v * 2 ≤ p ^ v * m := Nat.mul_le_mul_left _ hm2
      omega
    have a2 : m < n := by
      have : 2 * m ≤ p ^ v * m := Nat.mul_le_mul_right _ hpv
      omega
    exact absurd (by rw [hm _ (by omega) a1, hm _ hm0 a2]) hd
end K61.F.A
namespace K61.F
open PySem Pu L2
theorem pwN_uniq {l m : List Nat} (hl : l.Pairwise (· < ·)) (hm : m.Pairwise (· < ·)) (h : ∀ k, k ∈ l ↔ k ∈ m) : l = m := by
  have e : IN l = IN m := pw_uniq (l := IN l) (m := IN m) (by rw [List.pairwise_map]; exact hl.imp fun h => by omega) (by rw [List.pairwise_map]; exact hm.imp fun h => by omega) fun k => by
    constructor
    · intro hk
      obtain ⟨x, hx, rfl⟩ := List.mem_map.mp hk
      exact List.mem_map.mpr ⟨x, (h x).mp hx, rfl⟩
    · intro hk
      obtain ⟨x, hx, rfl⟩ := List.mem_map.mp hk
      exact List.mem_map.mpr ⟨x, (h x).mpr hx, rfl⟩
  have e2 := congrArg (List.map Int.toNat) e
  rw [List.map_map, List.map_map] at e2
  have t : ∀ l : List Nat, l.map (Int.toNat ∘ fun n : Nat => (n : Int)) = l := fun l => by
    induction l with
    | nil => rfl
    | cons x l ih =>
      rw [List.map_cons, ih]
      simp
  rwa [t, t] at e2
theorem mult_count (g s : Nat) (hs : 1 ≤ s) : ((List.range (g * s)).filter fun x => decide (s ∣ x)).length = g := by
  have e : (List.range (g * s)).filter (fun x => decide (s ∣ x)) = (List.range g).map (· * s) := by
    refine pwN_uniq (List.pairwise_lt_range.filter _) ?_ fun k => ?_
    · rw [List.pairwise_map]
      exact List.pairwise_lt_range.imp fun h => Nat.mul_lt_mul_of_pos_right h hs
    · rw [List.mem_filter, List.mem_map, List.mem_range]
      constructor
      · rintro ⟨h1, h2⟩
        obtain ⟨q, rfl⟩ : s ∣ k := by simpa using h2
        refine ⟨q, List.mem_range.mpr ?_, Nat.mul_comm _ _⟩
        rw [Nat.mul_comm g s] at h1
        exact Nat.lt_of_mul_lt_mul_left h1
      · rintro ⟨q, hq, rfl⟩
        have := List.mem_range.mp hq
        exact ⟨Nat.mul_lt_mul_of_pos_right this hs, by simpa using Nat.dvd_mul_left s q⟩
  rw [e]
  simp
theorem one_count {h n : Nat} (hh : 1 ≤ h) : ((List.range h).filter fun x => decide (n * x % h = 0)).length = Nat.gcd h n := by
  have g0 : 0 < Nat.gcd h n := Nat.gcd_pos_of_pos_left _ hh
  have e : ∀ x, (n * x % h = 0) ↔ h / Nat.gcd h n ∣ x := fun x => by
    rw [Nat.mul_comm]
    exact dv hh
  have e2 : (List.range h).filter (fun x => decide (n * x % h = 0)) = (List.range h).filter fun x => decide (h / Nat.gcd h n ∣ x) := by
    congr 1
    funext x
    simp only [e]
  have e3 : h = Nat.gcd h n * (h / Nat.gcd h n) := (Nat.mul_div_cancel' (Nat.gcd_dvd_left h n)).symm
  have s1 : 1 ≤ h / Nat.gcd h n := Nat.div_pos (Nat.le_of_dvd hh (Nat.gcd_dvd_left h n)) g0
  rw [e2]
  generalize hs : h / Nat.gcd h n = s at *
  generalize Nat.gcd h n = g at *
  subst e3
  exact mult_count g s s1
def nzB (n : Nat) : List Nat → List Nat → Bool
  | h :: hs, a :: as => decide (n * a % h = 0) && nzB n hs as
  | _, _ => true
theorem tr_count (n : Nat) : ∀ hs : List Nat, (∀ h ∈ hs, 1 ≤ h) → ((tr hs).filter (nzB n hs)).length = A.cnt hs n
  | [], _ => rfl
  | h :: hs, H => by
    have ih := tr_count n hs fun x hx => H x (by simp [hx])
    have h1 := H h (by simp)
    have e : tr (h :: hs) = (List.range h).flatMap fun x => (tr hs).map fun a => x :: a := rfl
    rw [e, List.filter_flatMap]
    have e2 : ∀ x, ((tr hs).map fun a => x :: a).filter (nzB n (h :: hs)) = if n * x % h = 0 then ((tr hs).filter (nzB n hs)).map fun a => x :: a else [] := fun x => by
      rw [List.filter_map]
      by_cases z : n * x % h = 0
      · rw [if_pos z]
        congr 2
        funext a
        simp [nzB, z]
      · rw [if_neg z, List.map_eq_nil_iff, List.filter_eq_nil_iff]
        intro a _
        simp [nzB, z]
    have key : ∀ m : List Nat, (m.flatMap fun x => ((tr hs).map fun a => x :: a).filter (nzB n (h :: hs))).length = (m.filter fun x => decide (n * x % h = 0)).length * A.cnt hs n := by
      intro m
      induction m with
      | nil => simp
      | cons x m ihm =>
        rw [List.flatMap_cons, List.length_append, ihm, e2, List.filter_cons]
        by_cases z : n * x % h = 0
        · simp [z, ih, Nat.add_mul]
          omega
        · simp [z]
    rw [key, one_count h1]
    rfl
def ab (v : List Nat) (e : Nat) : Nat := (v.filter fun x => decide (e < x)).length
theorem min_step (v : List Nat) (e : Nat) : (v.map fun x => min x (e + 1)).sum = (v.map fun x => min x e).sum + ab v e := by
  induction v with
  | nil => rfl
  | cons x v ih =>
    simp only [List.map_cons, List.sum_cons, ih, ab, List.filter_cons]
    by_cases h : e < x
    · simp [h]
      omega
    · simp [h]
      omega
theorem ab_step (v : List Nat) (e : Nat) : ab v e = ab v (e + 1) + v.count (e + 1) := by
  induction v with
  | nil => rfl
  | cons x v ih =>
    simp only [ab, List.filter_cons, List.count_cons] at ih ⊢
    by_cases h : e + 1 < x
    · have h2 : e < x := by omega
      have h3 : ¬ x = e + 1 := by omega
      simp [h, h2, h3]
      omega
    · by_cases h4 : x = e + 1
      · subst h4
        simp
        omega
      · have h2 : ¬ e < x := by omega
        simp [h, h2, h4]
        omega
theorem min_perm {v w : List Nat} (h : ∀ e, (v.map fun x => min x e).sum = (w.map fun x => min x e).sum) : (v.filter fun x => decide (0 < x)).Perm (w.filter fun x => decide (0 < x)) := by
  have h1 : ∀ e, ab v e = ab w e := fun e => by
    have a := min_step v e
    have b := min_step w e
    have c := h (e + 1)
    have d := h e
    omega
  rw [List.perm_iff_count]
  intro t
  rcases Nat.eq_zero_or_pos t with z | z
  · subst z
    rw [List.count_eq_zero.mpr (by simp), List.count_eq_zero.mpr (by simp)]
  · rw [List.count_filter (by simpa using z), List.count_filter (by simpa using z)]
    obtain ⟨e, rfl⟩ : ∃ e, t = e + 1 := ⟨t - 1, by omega⟩
    have a := ab_step v e
    have b := ab_step w e
    have c := h1 (e + 1)
    have d := h1 e
    omega
theorem frm_cnt {hs gs : List Nat} (h1 : ∀ x ∈ hs, 1 ≤ x) (h2 : ∀ x ∈ gs, 1 ≤ x) (h : ∀ n, 1 ≤ n → A.cnt hs n = A.cnt gs n) : frm hs = frm gs := by
  refine form_uniq (frm_is h1) (frm_is h2) fun q hq => ?_
  refine min_perm fun e => ?_
  have hq1 : 1 ≤ q ^ e := Nat.pow_pos (by have := hq.1; omega)
  have key : ∀ xs : List Nat, (∀ x ∈ xs, 1 ≤ x) → ((xs.map (vp q)).map fun x => min x e).sum = vp q (A.cnt xs (q ^ e)) := fun xs hx => by
    unfold A.cnt
    rw [A.vp_pd hq fun y hy => by
      obtain ⟨x, hx2, rfl⟩ := List.mem_map.mp hy
      exact Nat.gcd_pos_of_pos_left _ (hx x hx2), List.map_map, List.map_map]
    congr 1
    refine List.map_congr_left fun x hx2 => ?_
    show min (vp q x) e = vp q (Nat.gcd x (q ^ e))
    rw [vp_gcd hq (hx x hx2) hq1, vp_self hq.1]
  rw [key hs h1, key gs h2, h _ hq1]
end K61.F
namespace K61
open PySem Pu L2
def Ho (hs : List Int) : Prop := hs.length ≤ 6 ∧ ∀ h ∈ hs, 1 ≤ h ∧ h ≤ 1000000
def Th (hs as : List Int) : Prop := as.length = hs.length ∧ ∀ (i : Nat) (a h : Int), as[i]? = some a → hs[i]? = some h → 0 ≤ a ∧ a < h
theorem Ho.at {hs : List Int} (H : Ho hs) {i : Nat} {h : Int} (e : hs[i]? = some h) : 1 ≤ h ∧ h ≤ 1000000 := H.2 h (List.mem_of_getElem? e)
theorem at_len {hs : List Int} {i : Nat} (h : i < hs.length) : ∃ x, hs[i]? = some x := ⟨_, List.getElem?_eq_getElem h⟩
theorem lt_of_at {as : List Int} {i : Nat} {a : Int} (h : as[i]? = some a) : i < as.length := (List.getElem?_eq_some_iff.mp h).1
def mods (hs xs : List Int) : List Int := List.zipWith (fun x h => x % h) xs hs
theorem mods_len {hs xs : List Int} (h : xs.length = hs.length) : (mods hs xs).length = hs.length := by
  unfold mods
  rw [List.length_zipWith, h]
  omega
theorem mods_at {hs xs : List Int} (i : Nat) : (mods hs xs)[i]? = (xs[i]?).bind fun x => (hs[i]?).map fun h => x % h := by
  unfold mods
  rw [List.getElem?_zipWith]
  cases xs[i]? <;> cases hs[i]? <;> rfl
theorem mods_th {hs xs : List Int} (H : Ho hs) (h : xs.length = hs.length) : Th hs (mods hs xs) := ⟨mods_len h, fun i a k e1 e2 => by
  rw [mods_at, e2] at e1
  cases hx : xs[i]? with
  | none =>
    rw [hx] at e1
    cases e1
  | some x =>
    rw [hx] at e1
    cases e1
    have := H.at e2
    exact ⟨Int.emod_nonneg _ (by omega), Int.emod_lt_of_pos _ (by omega)⟩⟩
def pl (hs as bs : List Int) : List Int := mods hs (List.zipWith (fun a b => a + b) as bs)
def mi (hs as bs : List Int) : List Int := mods hs (List.zipWith (fun a b => a - b) as bs)
def no (hs : List Int) : List Int := hs.map fun _ => 0
theorem pl_th {hs as bs : List Int} (H : Ho hs) (A : Th hs as) (B : Th hs bs) : Th hs (pl hs as bs) := mods_th H (by rw [List.length_zipWith, A.1, B.1]; omega)
theorem mi_th {hs as bs : List Int} (H : Ho hs) (A : Th hs as) (B : Th hs bs) : Th hs (mi hs as bs) := mods_th H (by rw [List.length_zipWith, A.1, B.1]; omega)
theorem no_th {hs : List Int} (H : Ho hs) : Th hs (no hs) := ⟨by simp [no], fun i a h e1 e2 => by
  unfold no at e1
  rw [List.getElem?_map, e2] at e1
  have e1 : some (0 : Int) = some a := e1
  cases e1
  have := H.at e2
  omega⟩
theorem ext_th {hs as bs : List Int} (A : Th hs as) (B : Th hs bs) (h : ∀ (i : Nat) (k : Int), hs[i]? = some k → 1 ≤ k → as[i]? = bs[i]?) (H : Ho hs) : as = bs := by
  apply List.ext_getElem?
  intro i
  by_cases hi : i < hs.length
  · obtain ⟨k, e⟩ := at_len hi
    exact h i k e (H.at e).1
  · rw [List.getElem?_eq_none (by rw [A.1]; omega), List.getElem?_eq_none (by rw [B.1]; omega)]
theorem pl_at {hs as bs : List Int} {i : Nat} {k a b : Int} (e : hs[i]? = some k) (ea : as[i]? = some a) (eb : bs[i]? = some b) : (pl hs as bs)[i]? = some ((a + b) % k) := by
  unfold pl
  rw [mods_at, List.getElem?_zipWith, ea, eb, e]
  rfl
theorem mi_at {hs as bs : List Int} {i : Nat} {k a b : Int} (e : hs[i]? = some k) (ea : as[i]? = some a) (eb : bs[i]? = some b) : (mi hs as bs)[i]? = some ((a - b) % k) := by
  unfold mi
  rw [mods_at, List.getElem?_zipWith, ea, eb, e]
  rfl
theorem no_at {hs : List Int} {i : Nat} {k : Int} (e : hs[i]? = some k) : (no hs)[i]? = some 0 := by
  unfold no
  rw [List.getElem?_map, e]
  rfl
theorem Th.at {hs as : List Int} (A : Th hs as) {i : Nat} {k : Int} (e : hs[i]? = some k) : ∃ a, as[i]? = some a ∧ 0 ≤ a ∧ a < k := by
  obtain ⟨a, ea⟩ := at_len (hs := as) (i := i) (by rw [A.1]; exact lt_of_at e)
  exact ⟨a, ea, A.2 _ _ _ ea e⟩
section
variable {hs as bs cs : List Int} (H : Ho hs) (A : Th hs as) (B : Th hs bs) (C : Th hs cs)
include H A B
theorem q_comm : pl hs as bs = pl hs bs as := ext_th (pl_th H A B) (pl_th H B A) (fun i k e k1 => by
  obtain ⟨a, ea, a0, a1⟩ := A.at e
  obtain ⟨b, eb, b0, b1⟩ := B.at e
  rw [pl_at e ea eb, pl_at e eb ea, Int.add_comm]) H
end
section
variable {hs as bs cs : List Int} (H : Ho hs) (A : Th hs as) (B : Th hs bs) (C : Th hs cs)
include H A B
include C in
theorem q_assoc : pl hs (pl hs as bs) cs = pl hs as (pl hs bs cs) := ext_th (pl_th H (pl_th H A B) C) (pl_th H A (pl_th H B C)) (fun i k e k1 => by
  obtain ⟨a, ea, a0, a1⟩ := A.at e
  obtain ⟨b, eb, b0, b1⟩ := B.at e
  obtain ⟨c, ec, c0, c1⟩ := C.at e
  rw [pl_at e (pl_at e ea eb) ec, pl_at e ea (pl_at e eb ec), Int.emod_add_emod, Int.add_emod_emod, Int.add_assoc]) H
end
section
variable {hs as bs cs : List Int} (H : Ho hs) (A : Th hs as) (B : Th hs bs) (C : Th hs cs)
include H A B
theorem q_back : pl hs (mi hs as bs) bs = as := ext_th (pl_th H (mi_th H A B) B) A (fun i k e k1 => by
  obtain ⟨a, ea, a0, a1⟩ := A.at e
  obtain ⟨b, eb, b0, b1⟩ := B.at e
  rw [pl_at e (mi_at e ea eb) eb, Int.emod_add_emod, Int.sub_add_cancel, Int.emod_eq_of_lt a0 a1, ea]) H
end
section
variable {hs as bs cs : List Int} (H : Ho hs) (A : Th hs as) (B : Th hs bs) (C : Th hs cs)
include H A B
omit B in
theorem q_zero : pl hs as (no hs) = as := ext_th (pl_th H A (no_th H)) A (fun i k e k1 => by
  obtain ⟨a, ea, a0, a1⟩ := A.at e
  rw [pl_at e ea (no_at e), Int.add_zero, Int.emod_eq_of_lt a0 a1, ea]) H
end
def ext (fs : List (List Int)) (h : Int) : List (List Int) := fs.flatMap fun a => (List.range h.toNat).map fun n : Nat => a ++ [(n : Int)]
def thB : List Int → List Int → Prop
  | [], [] => True
  | h :: hs, a :: as => (0 ≤ a ∧ a < h) ∧ thB hs as
  | _, _ => False
theorem thB_iff : ∀ (hs as : List Int), thB hs as ↔ Th hs as
  | [], [] => ⟨fun _ => ⟨rfl, by simp⟩, fun _ => trivial⟩
  | [], a :: as => ⟨fun h => h.elim, fun h => by have := h.1; simp at this⟩
  | h :: hs, [] => ⟨fun h => h.elim, fun h => by have := h.1; simp at this⟩
  | h :: hs, a :: as => by
    constructor
    · rintro ⟨h0, h1⟩
      have := (thB_iff hs as).mp h1
      refine ⟨by simp [this.1], fun i x k ex ek => ?_⟩
      cases i with
      | zero =>
        simp at ex ek
        subst ex ek
        exact h0
      | succ i =>
        simp at ex ek
        exact this.2 i x k ex ek
    · intro h1
      refine ⟨h1.2 0 a h (by simp) (by simp), (thB_iff hs as).mpr ⟨by have := h1.1; simpa using this, fun i x k ex ek => h1.2 (i + 1) x k (by simpa using ex) (by simpa using ek)⟩⟩
structure LOk (hs : List Int) (L : List (List Int)) : Prop where
  nd : L.Nodup
  mem : ∀ x, x ∈ L ↔ Th hs x
def tf (hs : List Int) (L : List (List Int)) (i j : Nat) : Nat := L.idxOf (pl hs (L.getD i []) (L.getD j []))
structure Grp (n : Nat) (f : Nat → Nat → Nat) (z : Nat) : Prop where
  zn : z < n
  lt : ∀ i j, i < n → j < n → f i j < n
  comm : ∀ i j, i < n → j < n → f i j = f j i
  assoc : ∀ i j k, i < n → j < n → k < n → f (f i j) k = f i (f j k)
  zl : ∀ a, a < n → f z a = a
  inv : ∀ a, a < n → ∃ b, b < n ∧ f a b = z
theorem grp {hs : List Int} {L : List (List Int)} (H : Ho hs) (O : LOk hs L) : Grp L.length (tf hs L) (L.idxOf (no hs)) := by
  have at_ : ∀ i, i < L.length → Th hs (L.getD i []) := fun i hi => (O.mem _).mp (by
    rw [List.getD, List.getElem?_eq_getElem hi]
    exact List.getElem_mem _)
  have back : ∀ x, Th hs x → L.getD (L.idxOf x) [] = x := fun x hx => by
    have h := List.idxOf_lt_length_of_mem ((O.mem x).mpr hx)
    rw [List.getD, List.getElem?_eq_getElem h]
    exact List.getElem_idxOf h
  have idx : ∀ i, i < L.length → L.idxOf (L.getD i []) = i := fun i hi => by
    rw [List.getD, List.getElem?_eq_getElem hi]
    exact O.nd.idxOf_getElem i hi
  have lt : ∀ x, Th hs x → L.idxOf x < L.length := fun x hx => List.idxOf_lt_length_of_mem ((O.mem x).mpr hx)
  exact {
    zn := lt _ (no_th H)
    lt := fun i j hi hj => lt _ (pl_th H (at_ i hi) (at_ j hj))
    comm := fun i j hi hj => by
      unfold tf
      rw [q_comm H (at_ i hi) (at_ j hj)]
    assoc := fun i j k hi hj hk => by
      unfold tf
      rw [back _ (pl_th H (at_ i hi) (at_ j hj)), back _ (pl_th H (at_ j hj) (at_ k hk)), q_assoc H (at_ i hi) (at_ j hj) (at_ k hk)]
    zl := fun a ha => by
      unfold tf
      rw [back _ (no_th H), q_comm H (no_th H) (at_ a ha), q_zero H (at_ a ha), idx a ha]
    inv := fun a ha => by
      refine ⟨L.idxOf (mi hs (no hs) (L.getD a [])), lt _ (mi_th H (no_th H) (at_ a ha)), ?_⟩
      unfold tf
      rw [back _ (mi_th H (no_th H) (at_ a ha)), q_comm H (at_ a ha) (mi_th H (no_th H) (at_ a ha)), q_back H (no_th H) (at_ a ha)] }
section
variable {n : Nat} {f : Nat → Nat → Nat} {z : Nat}
noncomputable def gab (G : Grp n f z) : Gn.Ab (Fin n) where
  f := fun a b => ⟨f a b, G.lt a b a.2 b.2⟩
  z := ⟨z, G.zn⟩
  n := fun a => ⟨Classical.choose (G.inv a a.2), (Classical.choose_spec (G.inv a a.2)).1⟩
  zl := fun a => Fin.ext (G.zl a a.2)
  cm := fun a b => Fin.ext (G.comm a b a.2 b.2)
  as := fun a b c => Fin.ext (G.assoc a b c a.2 b.2 c.2)
  nl := fun a => Fin.ext (by
    show f (Classical.choose (G.inv a a.2)) a = z
    have := Classical.choose_spec (G.inv a a.2)
    rw [G.comm _ _ this.1 a.2]
    exact this.2)
end
theorem thr_tr : ∀ {R x : List Nat}, x ∈ F.tr R ↔ Gn.Thr R x
  | [], x => by
    cases x with
    | nil => simp [F.tr, Gn.Thr]
    | cons k x => simp [F.tr, Gn.Thr]
  | r :: R, x => by
    have e : F.tr (r :: R) = (List.range r).flatMap fun k => (F.tr R).map fun a => k :: a := rfl
    rw [e, List.mem_flatMap]
    cases x with
    | nil => simp [Gn.Thr]
    | cons k X =>
      constructor
      · rintro ⟨m, hm, h⟩
        obtain ⟨b, hb, e⟩ := List.mem_map.mp h
        injection e with e1 e2
        subst e1 e2
        exact ⟨List.mem_range.mp hm, thr_tr.mp hb⟩
      · rintro ⟨h1, h2⟩
        exact ⟨k, List.mem_range.mpr h1, List.mem_map.mpr ⟨X, thr_tr.mpr h2, rfl⟩⟩
theorem tr_nd : ∀ R : List Nat, (F.tr R).Nodup
  | [] => by simp [F.tr]
  | r :: R => by
    have e : F.tr (r :: R) = (List.range r).flatMap fun k => (F.tr R).map fun a => k :: a := rfl
    rw [e]
    refine Gn.pw_flat _ _ (fun k _ => ?_) ?_
    · exact List.Pairwise.map _ (fun a b h e => h (by injection e)) (tr_nd R)
    · refine List.Pairwise.imp ?_ (List.nodup_range (n := r))
      intro a b h u hu v hv e
      obtain ⟨u', _, rfl⟩ := List.mem_map.mp hu
      obtain ⟨v', _, rfl⟩ := List.mem_map.mp hv
      injection e with e1 _
      exact h e1
theorem dbl {x r : Nat} (h : x < r) (e : (x + x) % r = x) : x = 0 := by
  rcases Nat.lt_or_ge (x + x) r with q | q
  · rw [Nat.mod_eq_of_lt q] at e
    omega
  · rw [Nat.mod_eq_sub_mod q, Nat.mod_eq_of_lt (by omega)] at e
    omega
theorem ads_zero : ∀ {R x : List Nat}, Gn.Thr R x → Gn.ads R x x = x → x = R.map fun _ => 0
  | [], [], _, _ => rfl
  | r :: R, x :: X, h, e => by
    unfold Gn.ads at e
    injection e with e1 e2
    rw [List.map_cons, dbl h.1 e1, ← ads_zero h.2 e2]
  | [], _ :: _, h, _ => h.elim
  | _ :: _, [], h, _ => h.elim
def mls : List Nat → Nat → List Nat → List Nat
  | r :: R, m, x :: X => m * x % r :: mls R m X
  | _, _, _ => []
theorem mls_0 : ∀ {R x : List Nat}, Gn.Thr R x → mls R 0 x = R.map fun _ => 0
  | [], [], _ => rfl
  | r :: R, x :: X, h => by
    unfold mls
    rw [mls_0 h.2, Nat.zero_mul, Nat.zero_mod, List.map_cons]
  | [], _ :: _, h => h.elim
  | _ :: _, [], h => h.elim
theorem mls_succ (m : Nat) : ∀ {R x : List Nat}, Gn.Thr R x → Gn.ads R (mls R m x) x = mls R (m + 1) x
  | [], [], _ => rfl
  | r :: R, x :: X, h => by
    unfold mls Gn.ads
    rw [mls_succ m h.2, Nat.mod_add_mod, Nat.add_mul, Nat.one_mul]
  | [], _ :: _, h => h.elim
  | _ :: _, [], h => h.elim
theorem mls_nz (m : Nat) : ∀ {R x : List Nat}, Gn.Thr R x → (mls R m x = (R.map fun _ => 0) ↔ F.nzB m R x = true)
  | [], [], _ => by simp [mls, F.nzB]
  | r :: R, x :: X, h => by
    have ih := mls_nz m h.2
    unfold mls F.nzB
    rw [Bool.and_eq_true, decide_eq_true_eq, ← ih, List.map_cons]
    constructor
    · intro e
      injection e with e1 e2
      exact ⟨e1, e2⟩
    · rintro ⟨e1, e2⟩
      rw [e1, e2]
  | [], _ :: _, h => h.elim
  | _ :: _, [], h => h.elim
theorem nd_inj {β γ : Type} (f : β → γ) : ∀ {l : List β}, (l.map f).Nodup → ∀ {a b : β}, a ∈ l → b ∈ l → f a = f b → a = b
  | x :: l, h, a, b, ha, hb, e => by
    rw [List.map_cons, List.nodup_cons] at h
    rcases List.mem_cons.mp ha with p | p <;> rcases List.mem_cons.mp hb with q | q
    · rw [p, q]
    · exact absurd (List.mem_map.mpr ⟨b, q, by rw [← e, p]⟩) h.1
    · exact absurd (List.mem_map.mpr ⟨a, p, by rw [e, q]⟩) h.1
    · exact nd_inj f h.2 p q e
section
variable {n : Nat} {f : Nat → Nat → Nat} {z : Nat}
structure Nmd (G : Grp n f z) (R : List Nat) (nm : Fin n → List Nat) : Prop where
  th : ∀ x, Gn.Thr R x ↔ ∃ a, nm a = x
  inj : ∀ a b, nm a = nm b → a = b
  ad : ∀ a b, nm ((gab G).f a b) = Gn.ads R (nm a) (nm b)
end
section
variable {n : Nat} {f : Nat → Nat → Nat} {z : Nat}
variable {G : Grp n f z} {R : List Nat} {nm : Fin n → List Nat}
theorem Nmd.t (H : Nmd G R nm) (a : Fin n) : Gn.Thr R (nm a) := (H.th _).mpr ⟨a, rfl⟩
end
section
variable {n : Nat} {f : Nat → Nat → Nat} {z : Nat}
variable {G : Grp n f z} {R : List Nat} {nm : Fin n → List Nat}
theorem Nmd.zero (H : Nmd G R nm) : nm (gab G).z = R.map fun _ => 0 := by
  have h := H.ad (gab G).z (gab G).z
  rw [(gab G).zl] at h
  exact ads_zero (H.t _) h.symm
end
section
variable {n : Nat} {f : Nat → Nat → Nat} {z : Nat}
variable {G : Grp n f z} {R : List Nat} {nm : Fin n → List Nat}
theorem Nmd.s (H : Nmd G R nm) (a : Fin n) : ∀ m, nm ((gab G).s m a) = mls R m (nm a)
  | 0 => by
    rw [mls_0 (H.t a)]
    exact H.zero
  | m + 1 => by
    have : (gab G).s (m + 1) a = (gab G).f ((gab G).s m a) a := rfl
    rw [this, H.ad, H.s a m, mls_succ m (H.t a)]
end
section
variable {n : Nat} {f : Nat → Nat → Nat} {z : Nat}
variable {G : Grp n f z} {R : List Nat} {nm : Fin n → List Nat}
theorem Nmd.nz (H : Nmd G R nm) (a : Fin n) (m : Nat) : (gab G).s m a = (gab G).z ↔ F.nzB m R (nm a) = true := by
  rw [← mls_nz m (H.t a), ← H.s a m, ← H.zero]
  exact ⟨fun e => by rw [e], H.inj _ _⟩
end
section
variable {n : Nat} {f : Nat → Nat → Nat} {z : Nat}
variable {G : Grp n f z} {R : List Nat} {nm : Fin n → List Nat}
theorem Nmd.perm (H : Nmd G R nm) : ((List.finRange n).map nm).Perm (F.tr R) := by
  refine (List.perm_ext_iff_of_nodup ?_ (tr_nd R)).mpr fun x => ?_
  · rw [List.nodup_iff_pairwise_ne, List.pairwise_map]
    exact List.Pairwise.imp (fun h e => h (H.inj _ _ e)) (List.nodup_finRange n)
  · rw [thr_tr, H.th, List.mem_map]
    exact ⟨fun ⟨a, _, e⟩ => ⟨a, e⟩, fun ⟨a, e⟩ => ⟨a, List.mem_finRange a, e⟩⟩
end
section
variable {n : Nat} {f : Nat → Nat → Nat} {z : Nat}
variable {G : Grp n f z} {R : List Nat} {nm : Fin n → List Nat}
noncomputable def cntG (G : Grp n f z) (m : Nat) : Nat := ((List.finRange n).filter fun a => decide ((gab G).s m a = (gab G).z)).length
end
section
variable {n : Nat} {f : Nat → Nat → Nat} {z : Nat}
variable {G : Grp n f z} {R : List Nat} {nm : Fin n → List Nat}
theorem Nmd.cnt (H : Nmd G R nm) (h1 : ∀ r ∈ R, 1 ≤ r) (m : Nat) : cntG G m = F.A.cnt R m := by
  rw [← F.tr_count m R h1, ← (H.perm.filter (F.nzB m R)).length_eq, List.filter_map, List.length_map]
  unfold cntG
  congr 1
  refine List.filter_congr fun a _ => ?_
  have := H.nz a m
  show decide _ = F.nzB m R (nm a)
  rw [Bool.eq_iff_iff, decide_eq_true_eq]
  exact this
end
section
variable {n : Nat} {f : Nat → Nat → Nat} {z : Nat}
variable {G : Grp n f z} {R : List Nat} {nm : Fin n → List Nat}
theorem Nmd.len (H : Nmd G R nm) : F.pr R = n := by
  have := H.perm.length_eq
  rw [F.tr_len] at this
  simpa using this.symm
end
section
variable {n : Nat} {f : Nat → Nat → Nat} {z : Nat}
variable {G : Grp n f z} {R : List Nat} {nm : Fin n → List Nat}
theorem Nmd.frm (H : Nmd G R nm) {S : List Nat} {nm2 : Fin n → List Nat} (H2 : Nmd G S nm2) (h1 : ∀ r ∈ R, 1 ≤ r) (h2 : ∀ r ∈ S, 1 ≤ r) : F.frm R = F.frm S := F.frm_cnt h1 h2 fun m _ => by
  rw [← H.cnt h1 m, ← H2.cnt h2 m]
end
section
variable {n : Nat} {f : Nat → Nat → Nat} {z : Nat}
variable {G : Grp n f z} {R : List Nat} {nm : Fin n → List Nat}
theorem nmd_of {kv : List (Fin n × List Nat)} (H : Gn.Nm (gab G) R kv) (hl : kv.length = n) : ∃ nm : Fin n → List Nat, Nmd G R nm ∧ ∀ a, (a, nm a) ∈ kv := by
  have all : ∀ a : Fin n, ∃ x, (a, x) ∈ kv := fun a => by
    apply Classical.byContradiction
    intro c
    have nd : (a :: kv.map (·.1)).Nodup := List.nodup_cons.mpr ⟨fun h => by
      obtain ⟨q, hq, e⟩ := List.mem_map.mp h
      exact c ⟨q.2, by rw [← e]; exact hq⟩, H.nd⟩
    have := St.nodup_sub _ (List.finRange n) nd fun x _ => List.mem_finRange x
    simp at this
    omega
  refine ⟨fun a => Classical.choose (all a), ⟨fun x => ?_, fun a b e => ?_, fun a b => ?_⟩, fun a => Classical.choose_spec (all a)⟩
  · rw [← H.th]
    exact ⟨fun ⟨a, h⟩ => ⟨a, H.fst_eq (Classical.choose_spec (all a)) h⟩, fun ⟨a, e⟩ => ⟨a, by rw [← e]; exact Classical.choose_spec (all a)⟩⟩
  · have h1 := Classical.choose_spec (all a)
    have h2 := Classical.choose_spec (all b)
    have := nd_inj (·.2) H.nd2 h1 h2 e
    exact congrArg Prod.fst this
  · exact H.fst_eq (Classical.choose_spec (all _)) (H.ad _ _ _ _ (Classical.choose_spec (all a)) (Classical.choose_spec (all b)))
end
theorem thB_thr : ∀ {ks : List Nat} {y : List Int}, thB (F.IN ks) y ↔ ∃ x, y = F.IN x ∧ Gn.Thr ks x
  | [], [] => ⟨fun _ => ⟨[], rfl, trivial⟩, fun _ => trivial⟩
  | [], a :: as => ⟨fun h => h.elim, fun ⟨x, e, h⟩ => by
    cases x with
    | nil => cases e
    | cons => exact h.elim⟩
  | k :: ks, [] => ⟨fun h => h.elim, fun ⟨x, e, h⟩ => by
    cases x with
    | nil => exact h.elim
    | cons => cases e⟩
  | k :: ks, a :: as => by
    have ih := thB_thr (ks := ks) (y := as)
    constructor
    · rintro ⟨⟨h1, h2⟩, h3⟩
      obtain ⟨x, e, h⟩ := ih.mp h3
      refine ⟨a.toNat :: x, ?_, ?_, h⟩
      · rw [e]
        show _ = ((a.toNat : Nat) : Int) :: F.IN x
        rw [Int.toNat_of_nonneg h1]
      · have h2 : a < (k : Int) := h2
        show a.toNat < k
        omega
    · rintro ⟨x, e, h⟩
      cases x with
      | nil => exact h.elim
      | cons x X =>
        injection e with e1 e2
        refine ⟨?_, ih.mpr ⟨X, e2, h.2⟩⟩
        have h1 : x < k := h.1
        have e1 : a = (x : Int) := e1
        show 0 ≤ a ∧ a < (k : Int)
        omega
theorem th_thr {ks : List Nat} {y : List Int} : Th (F.IN ks) y ↔ ∃ x, y = F.IN x ∧ Gn.Thr ks x := (thB_iff _ _).symm.trans thB_thr
theorem pl_IN : ∀ {ks x y : List Nat}, Gn.Thr ks x → Gn.Thr ks y → pl (F.IN ks) (F.IN x) (F.IN y) = F.IN (Gn.ads ks x y)
  | [], [], [], _, _ => rfl
  | k :: ks, x :: X, y :: Y, h1, h2 => by
    have ih := pl_IN h1.2 h2.2
    unfold Gn.ads
    show ((x : Int) + (y : Int)) % (k : Int) :: pl (F.IN ks) (F.IN X) (F.IN Y) = (((x + y) % k : Nat) : Int) :: F.IN (Gn.ads ks X Y)
    rw [ih]
    congr 1
  | [], _ :: _, _, h, _ => h.elim
  | _ :: _, [], _, h, _ => h.elim
  | [], [], _ :: _, _, h => h.elim
  | _ :: _, _ :: _, [], _, h => h.elim
theorem IN_inj : ∀ {x y : List Nat}, F.IN x = F.IN y → x = y
  | [], [], _ => rfl
  | x :: X, y :: Y, e => by
    injection e with e1 e2
    rw [IN_inj e2, Int.ofNat.inj e1]
  | [], _ :: _, e => by cases e
  | _ :: _, [], e => by cases e
theorem nmd_house {ks : List Nat} {L : List (List Int)} (H : Ho (F.IN ks)) (O : LOk (F.IN ks) L) : ∃ nm : Fin L.length → List Nat, Nmd (grp H O) ks nm ∧ ∀ a, L[a.val]? = some (F.IN (nm a)) := by
  have ex : ∀ a : Fin L.length, ∃ x, L[a.val] = F.IN x ∧ Gn.Thr ks x := fun a => th_thr.mp ((O.mem _).mp (List.getElem_mem a.2))
  have sp : ∀ a : Fin L.length, L[a.val] = F.IN (Classical.choose (ex a)) := fun a => (Classical.choose_spec (ex a)).1
  have st : ∀ a : Fin L.length, Gn.Thr ks (Classical.choose (ex a)) := fun a => (Classical.choose_spec (ex a)).2
  have gd : ∀ a : Fin L.length, L.getD a.val [] = F.IN (Classical.choose (ex a)) := fun a => by
    rw [← sp a, List.getD, List.getElem?_eq_getElem a.2]
    rfl
  refine ⟨fun a => Classical.choose (ex a), ⟨fun x => ⟨fun h => ?_, fun ⟨a, e⟩ => e ▸ st a⟩, fun a b e => ?_, fun a b => ?_⟩, fun a => by rw [List.getElem?_eq_getElem a.2, sp a]⟩
  · have hm := (O.mem (F.IN x)).mpr (th_thr.mpr ⟨x, rfl, h⟩)
    obtain ⟨i, hi, e⟩ := List.getElem_of_mem hm
    refine ⟨⟨i, hi⟩, ?_⟩
    have := sp ⟨i, hi⟩
    exact IN_inj (this.symm.trans e)
  · have e2 : L[a.val] = L[b.val] := by rw [sp a, sp b]; exact congrArg F.IN e
    exact Fin.ext ((List.getElem_inj O.nd).mp e2)
  · apply IN_inj
    have hm := (O.mem _).mpr (th_thr.mpr ⟨Gn.ads ks (Classical.choose (ex a)) (Classical.choose (ex b)), rfl, by
      have q := th_thr.mp ((pl_IN (st a) (st b)) ▸ pl_th H (th_thr.mpr ⟨_, rfl, st a⟩) (th_thr.mpr ⟨_, rfl, st b⟩))
      obtain ⟨x, e, h⟩ := q
      rw [IN_inj e]
      exact h⟩)
    rw [← sp]
    have : ((gab (grp H O)).f a b).val = tf (F.IN ks) L a.val b.val := rfl
    simp only [this]
    unfold tf
    simp only [gd a, gd b, pl_IN (st a) (st b)]
    exact List.getElem_idxOf _
section
variable {n : Nat} {f : Nat → Nat → Nat} {z : Nat}
def nmD (nm : Fin n → List Nat) (i : Nat) : List Nat := if h : i < n then nm ⟨i, h⟩ else []
end
section
variable {n : Nat} {f : Nat → Nat → Nat} {z : Nat}
theorem nmD_at (nm : Fin n → List Nat) (a : Fin n) : nmD nm a.val = nm a := by
  unfold nmD
  rw [dif_pos a.2]
end
end K61
namespace K61.F.Y
open PySem Pu L2
structure Hm (os ps : List Int) (φ : List Int → List Int) : Prop where
  o : Hq os
  p : Hq ps
  th : ∀ x, Th os x → Th ps (φ x)
  su : ∀ x y, Th os x → Th os y → φ (suL os x y) = suL ps (φ x) (φ y)
def zr (os : List Int) : List Int := (List.range os.length).map fun _ => 0
theorem ext_gi {n : Nat} {a b : List Int} (h1 : a.length = n) (h2 : b.length = n) (h : ∀ k, k < n → gi a k = gi b k) : a = b := by
  apply List.ext_getElem?
  intro i
  by_cases hi : i < n
  · rw [gi_at (by omega), gi_at (by omega), h i hi]
  · rw [List.getElem?_eq_none (by omega), List.getElem?_eq_none (by omega)]
theorem th_gi {os a : List Int} (A : Th os a) {k : Nat} (hk : k < os.length) : 0 ≤ gi a k ∧ gi a k < gi os k := A.2 k _ _ (gi_at (by rw [A.1]; exact hk)) (gi_at hk)
theorem th_of {os a : List Int} (hl : a.length = os.length) (h : ∀ k, k < os.length → 0 ≤ gi a k ∧ gi a k < gi os k) : Th os a := ⟨hl, fun i x k e1 e2 => by
  have hi : i < os.length := lt_of_at e2
  have := h i hi
  rw [gi_of e1, gi_of e2] at this
  exact this⟩
theorem su_gi {os a b : List Int} {k : Nat} (hk : k < os.length) : gi (suL os a b) k = (gi a k + gi b k) % gi os k := by
  unfold suL
  rw [gi_map _ hk]
theorem mu_gi {os a : List Int} {n : Int} {k : Nat} (hk : k < os.length) : gi (muL os n a) k = (n * gi a k) % gi os k := by
  unfold muL
  rw [gi_map _ hk]
theorem zr_gi {os : List Int} {k : Nat} (hk : k < os.length) : gi (zr os) k = 0 := gi_map _ hk
theorem zr_th {os : List Int} (H : Hq os) : Th os (zr os) := th_of (by simp [zr]) fun k hk => by
  rw [zr_gi hk]
  have := (H.gi hk).1
  omega
theorem su_len (os a b : List Int) : (suL os a b).length = os.length := by simp [suL]
theorem mu_len (os a : List Int) (n : Int) : (muL os n a).length = os.length := by simp [muL]
section
variable {os ps : List Int} {φ : List Int → List Int} (H : Hm os ps φ)
include H
theorem Hm.zero : φ (zr os) = zr ps := by
  have hz := H.th _ (zr_th H.o)
  have e : suL os (zr os) (zr os) = zr os := ext_gi (su_len _ _ _) (by simp [zr]) fun k hk => by
    rw [su_gi hk, zr_gi hk]
    simp
  have h := H.su _ _ (zr_th H.o) (zr_th H.o)
  rw [e] at h
  refine ext_gi hz.1 (by simp [zr]) fun k hk => ?_
  have h1 := congrArg (fun l => gi l k) h
  simp only [su_gi hk] at h1
  have h2 := th_gi hz hk
  rw [zr_gi hk]
  have h3 : gi ps k ∣ (gi (φ (zr os)) k + gi (φ (zr os)) k) - gi (φ (zr os)) k := by
    refine Int.dvd_of_emod_eq_zero (Int.emod_eq_emod_iff_emod_sub_eq_zero.mp ?_)
    rw [← h1, Int.emod_eq_of_lt h2.1 h2.2]
  rw [Int.add_sub_cancel] at h3
  have := Int.emod_eq_zero_of_dvd h3
  rw [Int.emod_eq_of_lt h2.1 h2.2] at this
  exact this
end
section
variable {os ps : List Int} {φ : List Int → List Int} (H : Hm os ps φ)
include H
theorem Hm.mu {x : List Int} (A : Th os x) : ∀ n : Nat, φ (muL os n x) = muL ps n (φ x)
  | 0 => by
    have e1 : muL os ((0 : Nat) : Int) x = zr os := ext_gi (mu_len _ _ _) (by simp [zr]) fun k hk => by
      rw [mu_gi hk, zr_gi hk]
      simp
    have e2 : muL ps ((0 : Nat) : Int) (φ x) = zr ps := ext_gi (mu_len _ _ _) (by simp [zr]) fun k hk => by
      rw [mu_gi hk, zr_gi hk]
      simp
    rw [e1, e2, H.zero]
  | n + 1 => by
    have st : ∀ (os x : List Int), muL os ((n + 1 : Nat) : Int) x = suL os (muL os n x) x := fun os x => ext_gi (mu_len _ _ _) (su_len _ _ _) fun k hk => by
      rw [mu_gi hk, su_gi hk, mu_gi hk, Int.emod_add_emod]
      congr 1
      rw [Int.natCast_add, Int.add_mul]
      simp
    rw [st, st, H.su _ _ (mu_th H.o) A, Hm.mu A n]
end
section
variable {os ps : List Int} {φ : List Int → List Int} (H : Hm os ps φ)
include H
def imgs (os : List Int) (φ : List Int → List Int) : List (List Int) := (idL os).map φ
end
section
variable {os ps : List Int} {φ : List Int → List Int} (H : Hm os ps φ)
include H
omit H in
theorem idL_len (os : List Int) : (idL os).length = os.length := by simp [idL]
end
section
variable {os ps : List Int} {φ : List Int → List Int} (H : Hm os ps φ)
include H
omit H in
theorem id_th {os : List Int} (H : Hq os) {i : Nat} (hi : i < os.length) : Th os (gr (idL os) i) := im_th ((wy_id H).im i hi)
end
section
variable {os ps : List Int} {φ : List Int → List Int} (H : Hm os ps φ)
include H
omit H in
theorem gr_imgs {i : Nat} (hi : i < os.length) : gr (imgs os φ) i = φ (gr (idL os) i) := by
  unfold imgs gr
  rw [List.getD_eq_getElem?_getD, List.getElem?_map, List.getD_eq_getElem?_getD, List.getElem?_eq_getElem (by rw [idL_len]; exact hi)]
  rfl
end
section
variable {os ps : List Int} {φ : List Int → List Int} (H : Hm os ps φ)
include H
theorem Hm.wy : Wy os ps (imgs os φ) := ⟨H.o, H.p, by unfold imgs; rw [List.length_map, idL_len], fun i hi => by
  rw [gr_imgs hi]
  have t := id_th H.o hi
  have T := H.th _ t
  refine ⟨T.1, fun j a k ea ek => ⟨T.2 j a k ea ek, ?_⟩⟩
  have hj : j < ps.length := lt_of_at ek
  have h1 := (H.o.gi hi).1
  obtain ⟨m, hm⟩ : ∃ m : Nat, gi os i = m := ⟨(gi os i).toNat, by omega⟩
  have e : muL os (m : Nat) (gr (idL os) i) = zr os := ext_gi (mu_len _ _ _) (by simp [zr]) fun k hk => by
    rw [mu_gi hk, zr_gi hk, id_gi hi hk]
    by_cases c : k = i
    · subst c
      rw [if_pos rfl, ← hm, Int.mul_emod_right]
    · rw [if_neg c]
      simp
  have h := H.mu t m
  rw [e, H.zero] at h
  have h2 := congrArg (fun l => gi l j) h
  simp only [zr_gi hj, mu_gi hj] at h2
  rw [hm, ← gi_of ea, ← gi_of ek]
  exact h2.symm⟩
end
section
variable {os ps : List Int} {φ : List Int → List Int} (H : Hm os ps φ)
include H
theorem Hm.led {a : List Int} (A : Th os a) : ledL os ps (imgs os φ) a = φ a := by
  have W := wy_id H.o
  let P : Nat → List Int := fun m => (List.range os.length).map fun j => dt a (idL os) j m % gi os j
  have Pg : ∀ m k, k < os.length → gi (P m) k = dt a (idL os) k m % gi os k := fun m k hk => gi_map _ hk
  have Pt : ∀ m, Th os (P m) := fun m => th_of (by simp [P]) fun k hk => by
    rw [Pg m k hk]
    have := (H.o.gi hk).1
    exact ⟨Int.emod_nonneg _ (by omega), Int.emod_lt_of_pos _ (by omega)⟩
  have key : ∀ m, m ≤ os.length → ∀ j, j < ps.length → gi (φ (P m)) j = dt a (imgs os φ) j m % gi ps j := by
    intro m
    induction m with
    | zero =>
      intro _ j hj
      have e : P 0 = zr os := ext_gi (n := os.length) (by simp [P]) (by simp [zr]) fun k hk => by
        rw [Pg 0 k hk, zr_gi hk]
        simp [dt]
      rw [e, H.zero, zr_gi hj]
      simp [dt]
    | succ m ih =>
      intro hm j hj
      have a0 := th_gi A (k := m) (by omega)
      obtain ⟨c, hc⟩ : ∃ c : Nat, gi a m = c := ⟨(gi a m).toNat, by omega⟩
      have t := id_th H.o (i := m) (by omega)
      have e : P (m + 1) = suL os (P m) (muL os (c : Nat) (gr (idL os) m)) := ext_gi (n := os.length) (by simp [P]) (su_len _ _ _) fun k hk => by
        rw [Pg _ k hk, su_gi hk, Pg _ k hk, mu_gi hk, Int.emod_add_emod, Int.add_emod_emod]
        show (dt a (idL os) k m + gi a m * gi (gr (idL os) m) k) % _ = _
        rw [hc]
      rw [e, H.su _ _ (Pt m) (mu_th H.o), su_gi hj, H.mu t, mu_gi hj, ih (by omega) j hj, Int.emod_add_emod, Int.add_emod_emod]
      show _ = (dt a (imgs os φ) j m + gi a m * gi (gr (imgs os φ) m) j) % _
      rw [gr_imgs (by omega), hc]
  have e : P os.length = a := by
    have := led_id H.o A
    rw [led_eq] at this
    exact this
  refine ext_gi (by rw [led_eq]; simp) (H.th a A).1 fun j hj => ?_
  rw [led_gi hj, ← key os.length (Nat.le_refl _) j hj, e]
end
end K61.F.Y
namespace K61
open PySem Pu L2
section
variable {ks : List Nat} {L : List (List Int)} (H : Ho (F.IN ks)) (O : LOk (F.IN ks) L)
structure Bij (os ps : List Int) (φ ψ : List Int → List Int) : Prop where
  f : F.Y.Hm os ps φ
  b : F.Y.Hm ps os ψ
  bf : ∀ x, Th os x → ψ (φ x) = x
  fb : ∀ y, Th ps y → φ (ψ y) = y
end
section
variable {ks : List Nat} {L : List (List Int)} (H : Ho (F.IN ks)) (O : LOk (F.IN ks) L)
theorem Bij.rev {os ps : List Int} {φ ψ : List Int → List Int} (B : Bij os ps φ ψ) : Bij ps os ψ φ := ⟨B.b, B.f, B.fb, B.bf⟩
end
section
variable {ks : List Nat} {L : List (List Int)} (H : Ho (F.IN ks)) (O : LOk (F.IN ks) L)
theorem su_pl {ks x y : List Nat} (hx : Gn.Thr ks x) (hy : Gn.Thr ks y) : F.Y.suL (F.IN ks) (F.IN x) (F.IN y) = F.IN (Gn.ads ks x y) := by
  have A : F.Y.Th (F.IN ks) (F.IN x) := th_thr.mpr ⟨x, rfl, hx⟩
  have B : F.Y.Th (F.IN ks) (F.IN y) := th_thr.mpr ⟨y, rfl, hy⟩
  rw [← F.Y.plus_su A B]
  exact pl_IN hx hy
end
section
variable {ks : List Nat} {L : List (List Int)} (H : Ho (F.IN ks)) (O : LOk (F.IN ks) L)
noncomputable def phi (L : List (List Int)) (nm : Fin L.length → List Nat) (x : List Int) : List Int := F.IN (nmD nm (L.idxOf x))
end
section
variable {ks : List Nat} {L : List (List Int)} (H : Ho (F.IN ks)) (O : LOk (F.IN ks) L)
theorem bij {R : List Nat} {nm : Fin L.length → List Nat} (Q : Nmd (grp H O) R nm) (hR : F.Y.Hq (F.IN R)) (hK : F.Y.Hq (F.IN ks)) : ∃ ψ, Bij (F.IN ks) (F.IN R) (phi L nm) ψ := by
  have ix : ∀ x, Th (F.IN ks) x → ∃ h : L.idxOf x < L.length, L[L.idxOf x] = x := fun x hx => ⟨List.idxOf_lt_length_of_mem ((O.mem x).mpr hx), List.getElem_idxOf (List.idxOf_lt_length_of_mem ((O.mem x).mpr hx))⟩
  have ph : ∀ x (hx : Th (F.IN ks) x), phi L nm x = F.IN (nm ⟨L.idxOf x, (ix x hx).1⟩) := fun x hx => by
    unfold phi
    rw [← nmD_at nm ⟨L.idxOf x, (ix x hx).1⟩]
  have pt : ∀ x, Th (F.IN ks) x → Th (F.IN R) (phi L nm x) := fun x hx => by
    rw [ph x hx]
    exact th_thr.mpr ⟨_, rfl, Q.t _⟩
  have ps : ∀ x y, Th (F.IN ks) x → Th (F.IN ks) y → phi L nm (F.Y.suL (F.IN ks) x y) = F.Y.suL (F.IN R) (phi L nm x) (phi L nm y) := fun x y hx hy => by
    obtain ⟨x', ex, tx⟩ := th_thr.mp hx
    obtain ⟨y', ey, ty⟩ := th_thr.mp hy
    have e1 : F.Y.suL (F.IN ks) x y = pl (F.IN ks) x y := by
      rw [ex, ey, su_pl tx ty, pl_IN tx ty]
    have hp := pl_th H hx hy
    rw [e1, ph _ hp, ph x hx, ph y hy, su_pl (Q.t _) (Q.t _), ← Q.ad]
    congr 2
    apply Fin.ext
    show L.idxOf (pl (F.IN ks) x y) = tf (F.IN ks) L (L.idxOf x) (L.idxOf y)
    unfold tf
    obtain ⟨h1, g1⟩ := ix x hx
    obtain ⟨h2, g2⟩ := ix y hy
    rw [List.getD_eq_getElem?_getD, List.getElem?_eq_getElem h1, List.getD_eq_getElem?_getD, List.getElem?_eq_getElem h2]
    simp only [Option.getD_some, g1, g2]
  have pi : ∀ x y, Th (F.IN ks) x → Th (F.IN ks) y → phi L nm x = phi L nm y → x = y := fun x y hx hy e => by
    rw [ph x hx, ph y hy] at e
    have := Q.inj _ _ (IN_inj e)
    have e3 : L.idxOf x = L.idxOf y := congrArg Fin.val this
    obtain ⟨h1, g1⟩ := ix x hx
    obtain ⟨h2, g2⟩ := ix y hy
    rw [← g1, ← g2]
    simp only [e3]
  have sj : ∀ y, Th (F.IN R) y → ∃ x, Th (F.IN ks) x ∧ phi L nm x = y := fun y hy => by
    obtain ⟨y', ey, ty⟩ := th_thr.mp hy
    obtain ⟨a, ea⟩ := (Q.th y').mp ty
    have hx : Th (F.IN ks) L[a.val] := (O.mem _).mp (List.getElem_mem a.2)
    refine ⟨L[a.val], hx, ?_⟩
    rw [ph _ hx, ey, ← ea]
    congr 2
    exact Fin.ext (O.nd.idxOf_getElem a.val a.2)
  classical
  let ψ : List Int → List Int := fun y => if h : ∃ x, Th (F.IN ks) x ∧ phi L nm x = y then Classical.choose h else []
  have sp : ∀ y, Th (F.IN R) y → Th (F.IN ks) (ψ y) ∧ phi L nm (ψ y) = y := fun y hy => by
    have e : ψ y = Classical.choose (sj y hy) := dif_pos (sj y hy)
    rw [e]
    exact Classical.choose_spec (sj y hy)
  refine ⟨ψ, ⟨hK, hR, pt, ps⟩, ⟨hR, hK, fun y hy => (sp y hy).1, fun x y hx hy => ?_⟩, fun x hx => pi _ _ (sp _ (pt x hx)).1 hx (sp _ (pt x hx)).2, fun y hy => (sp y hy).2⟩
  have t1 := (sp x hx).1
  have t2 := (sp y hy).1
  have ts : Th (F.IN ks) (F.Y.suL (F.IN ks) (ψ x) (ψ y)) := F.Y.su_th hK
  have tr : Th (F.IN R) (F.Y.suL (F.IN R) x y) := F.Y.su_th hR
  refine pi _ _ (sp _ tr).1 ts ?_
  have e1 := (sp x hx).2
  have e2 := (sp y hy).2
  rw [(sp _ tr).2, ps _ _ t1 t2, e1, e2]
end
theorem gi_gd {ks : List Nat} {k : Nat} (h : k < ks.length) : F.Y.gi (F.IN ks) k = ((ks.getD k 0 : Nat) : Int) := F.Y.gi_IN h
theorem st_th {ks : List Nat} {a : List Int} : St.Th ks a ↔ Th (F.IN ks) a := by
  constructor
  · rintro ⟨h1, h2⟩
    refine F.Y.th_of (by simpa using h1) fun k hk => ?_
    have hk : k < ks.length := by simpa using hk
    rw [gi_gd hk]
    exact h2 k hk
  · intro h
    refine ⟨by simpa using h.1, fun k hk => ?_⟩
    have := F.Y.th_gi h (k := k) (by simpa using hk)
    rw [gi_gd hk] at this
    exact this
theorem st_way {ks gs : List Nat} {I : List (List Int)} (W : F.Y.Wy (F.IN ks) (F.IN gs) I) : St.Way ks gs I := by
  have hl : I.length = ks.length := by simpa using W.l
  refine ⟨hl, fun r hr => ?_, fun k hk j hj => ?_⟩
  · obtain ⟨i, hi, rfl⟩ := List.mem_iff_getElem.mp hr
    have := W.im i (by simp; omega)
    rw [F.Y.gr, List.getD_eq_getElem?_getD, List.getElem?_eq_getElem hi] at this
    exact st_th.mpr (F.Y.im_th this)
  · have := W.zero (i := k) (j := j) (by simpa using hk) (by simpa using hj)
    rw [gi_gd hk, gi_gd hj] at this
    exact Int.dvd_of_emod_eq_zero this
theorem ph_dt (I : List (List Int)) (a : List Int) (j : Nat) : ∀ n, St.ph I (St.vec a) n j = F.Y.dt a I j n
  | 0 => rfl
  | n + 1 => by
    show St.ph I (St.vec a) n j + _ = F.Y.dt a I j n + _
    rw [ph_dt I a j n]
    rfl
end K61
namespace K61
open PySem Pu L2
/-! ### each group has names, plain -/
theorem part {M N : Nat} (hM : 1 ≤ M) (hN : 1 ≤ N) (h : ¬ M ∣ N) : ∃ p j k N0 M0, j < k ∧ 2 ≤ p ∧ N = p ^ j * N0 ∧ M = p ^ k * M0 ∧ Nat.Coprime p N0 := by
  have : ∃ p, F.prm p ∧ F.vp p N < F.vp p M := by
    apply Classical.byContradiction
    intro c
    exact h (F.vp_le_dvd M N hM hN fun p hp => Nat.le_of_not_lt fun hlt => c ⟨p, hp, hlt⟩)
  obtain ⟨p, hp, hlt⟩ := this
  obtain ⟨N0, e1, d1⟩ := F.vp_ex hp.1 hN
  obtain ⟨M0, e2, _⟩ := F.vp_ex hp.1 hM
  exact ⟨p, F.vp p N, F.vp p M, N0, M0, hlt, hp.1, e1, e2, F.prm_co hp d1⟩
theorem max_ex {α : Type} (f : α → Nat) : ∀ {l : List α}, l ≠ [] → ∃ a ∈ l, ∀ b ∈ l, f b ≤ f a
  | [], h => absurd rfl h
  | [x], _ => ⟨x, by simp, by simp⟩
  | x :: y :: l, _ => by
    obtain ⟨a, ha, h⟩ := max_ex f (l := y :: l) (by simp)
    by_cases c : f x ≤ f a
    · exact ⟨a, List.mem_cons_of_mem _ ha, fun b hb => by
        rcases List.mem_cons.mp hb with q | q
        · rw [q]; exact c
        · exact h b q⟩
    · exact ⟨x, by simp, fun b hb => by
        rcases List.mem_cons.mp hb with q | q
        · rw [q]; exact Nat.le_refl _
        · have := h b q
          omega⟩
theorem grow_len {α : Type} (A : Gn.Ab α) (g : α) (N : Nat) (kv : List (α × List Nat)) : (Gn.grow A g N kv).length = kv.length * N := by
  unfold Gn.grow
  induction kv with
  | nil => simp
  | cons p kv ih => simp [List.flatMap_cons, ih, Nat.add_mul]; omega
section
variable {n : Nat} {f : Nat → Nat → Nat} {z : Nat}
theorem one_more (G : Grp n f z) {R : List Nat} {kv : List (Fin n × List Nat)} (H : Gn.Nm (gab G) R kv) (hne : ∃ a, ¬ Gn.keys kv a) : ∃ R' kv', Gn.Nm (gab G) R' kv' ∧ kv.length < kv'.length := by
  have sb := H.sb
  have hz := G.zn
  have kv1 : 1 ≤ kv.length := List.length_pos_of_mem H.z
  have ex : ∀ a : Fin n, ∃ m, m ≤ n ∧ Gn.Ot (gab G) (Gn.keys kv) a m := fun a => by
    have := Gn.ot_ex (L := List.finRange n) (fun a => List.mem_finRange a) sb a
    simpa using this
  let ot : Fin n → Nat := fun a => Classical.choose (ex a)
  have hot : ∀ a : Fin n, ot a ≤ n ∧ Gn.Ot (gab G) (Gn.keys kv) a (ot a) := fun a => Classical.choose_spec (ex a)
  clear_value ot
  obtain ⟨a, _, ha⟩ := max_ex ot (l := List.finRange n) (fun e => by
    have := congrArg List.length e
    simp at this
    omega)
  obtain ⟨N, eN⟩ : ∃ N, N = ot a := ⟨_, rfl⟩
  have oa : Gn.Ot (gab G) (Gn.keys kv) a N := eN ▸ (hot a).2
  have mx : ∀ b M, Gn.Ot (gab G) (Gn.keys kv) b M → M ≤ N := fun b M hb => by
    have e := hb.uni sb (hot b).2
    rw [e, eN]
    exact ha b (List.mem_finRange b)
  have dvd : ∀ b M, Gn.Ot (gab G) (Gn.keys kv) b M → M ∣ N := fun b M hb => Gn.ot_max sb (fun a => List.mem_finRange a) oa mx hb (part hb.p oa.p)
  have exN : ∀ b, Gn.keys kv ((gab G).s N b) := fun b => ((hot b).2.dvd sb N).mpr (dvd b _ (hot b).2)
  have two : 2 ≤ N := by
    obtain ⟨b, hb⟩ := hne
    have h1 := (hot b).2
    have h2 := mx b _ h1
    rcases Nat.lt_or_ge (ot b) 2 with h | h
    · have e : ot b = 1 := by have := h1.p; omega
      have := h1.i
      rw [e, (gab G).s_one] at this
      exact absurd this hb
    · omega
  have dr : ∀ r ∈ R, N ∣ r := by
    have h1 := H.dv
    have h2 := H.ex
    intro r hr
    cases R with
    | nil => cases hr
    | cons r0 R =>
      have hd : N ∣ r0 := (oa.dvd sb r0).mp (h2 r0 rfl a)
      rcases List.mem_cons.mp hr with rfl | hr
      · exact hd
      · exact Nat.dvd_trans hd ((List.pairwise_cons.mp h1).1 r hr)
  obtain ⟨b, hb, e⟩ := H.pu N dr a (exN a)
  obtain ⟨g1, g2⟩ := H.maker oa hb e
  refine ⟨N :: R, _, H.step two g1 g2 exN dr, ?_⟩
  rw [grow_len]
  have := Nat.mul_le_mul_left kv.length two
  omega
theorem nm_le {G : Grp n f z} {R : List Nat} {kv : List (Fin n × List Nat)} (H : Gn.Nm (gab G) R kv) : kv.length ≤ n := by
  have := St.nodup_sub _ (List.finRange n) H.nd fun x _ => List.mem_finRange x
  simpa using this
theorem nm_more {G : Grp n f z} {R : List Nat} {kv : List (Fin n × List Nat)} (H : Gn.Nm (gab G) R kv) (h : kv.length < n) : ∃ a, ¬ Gn.keys kv a := by
  apply Classical.byContradiction
  intro c
  have := St.nodup_sub (List.finRange n) (kv.map (·.1)) (List.nodup_finRange n) fun x _ => by
    apply Classical.byContradiction
    intro d
    exact c ⟨x, fun ⟨y, hy⟩ => d (List.mem_map.mpr ⟨_, hy, rfl⟩)⟩
  simp at this
  omega
theorem names_ex (G : Grp n f z) : ∃ R nm, Nmd G R nm ∧ (∀ r ∈ R, 2 ≤ r) ∧ R.Pairwise (· ∣ ·) := by
  have key : ∀ k R (kv : List (Fin n × List Nat)), Gn.Nm (gab G) R kv → n - kv.length = k → ∃ R kv, Gn.Nm (gab G) R kv ∧ kv.length = n := by
    intro k
    induction k using Nat.strongRecOn with
    | ind k ih =>
      intro R kv H hk
      have hle := nm_le H
      rcases Nat.lt_or_ge kv.length n with h | h
      · obtain ⟨R', kv', H', hl⟩ := one_more G H (nm_more H h)
        have hle' := nm_le H'
        exact ih (n - kv'.length) (by omega) R' kv' H' rfl
      · exact ⟨R, kv, H, by omega⟩
  obtain ⟨R, kv, H, hl⟩ := key _ [] _ Gn.nm_0 rfl
  obtain ⟨nm, Q, _⟩ := nmd_of H hl
  exact ⟨R, nm, Q, H.r2, H.dv⟩
end
end K61
namespace K61
open PySem Pu L2
/-! ### all ways, each once -/
theorem ext_nd {α : Type} {F : List (List α)} {G : List α} (hF : F.Nodup) (hG : G.Nodup) : (Z.ext F G).Nodup := by
  unfold Z.ext
  refine Gn.pw_flat _ _ (fun x _ => ?_) ?_
  · refine List.Pairwise.map _ (fun a b h e => h ?_) hG
    have := List.append_cancel_left e
    injection this
  · refine List.Pairwise.imp ?_ hF
    intro x y h u hu v hv e
    obtain ⟨a, _, rfl⟩ := List.mem_map.mp hu
    obtain ⟨b, _, rfl⟩ := List.mem_map.mp hv
    have := List.append_inj' e rfl
    exact h this.1
theorem shs_nd {o p : Int} (hp : 1 ≤ p) : (Z.shs o p).Nodup := by
  unfold Z.shs
  rw [List.nodup_iff_pairwise_ne, List.pairwise_map]
  refine List.Pairwise.imp (fun {a b} h e => ?_) (List.nodup_range (n := (Z.gg o p).toNat))
  have g0 : 0 < Nat.gcd o.toNat p.toNat := Nat.gcd_pos_of_pos_right _ (by omega)
  have hs : 1 ≤ Z.sh o p := by
    unfold Z.sh Z.gg
    have hd : Nat.gcd o.toNat p.toNat ∣ p.toNat := Nat.gcd_dvd_right _ _
    obtain ⟨c, hc⟩ := hd
    have e1 : p = ((Nat.gcd o.toNat p.toNat * c : Nat) : Int) := by omega
    generalize Nat.gcd o.toNat p.toNat = g at *
    rw [e1, Int.natCast_mul, Int.mul_ediv_cancel_left _ (by omega)]
    rcases Nat.eq_zero_or_pos c with z | z
    · rw [z] at hc
      omega
    · omega
  have : (a : Int) = (b : Int) := by
    first
      | exact Int.eq_of_mul_eq_mul_left (by omega) e
      | exact Int.eq_of_mul_eq_mul_right (by omega) e
  omega
theorem imF_nd {o : Int} : ∀ {ps : List Int}, (∀ p ∈ ps, 1 ≤ p) → (Z.imF o ps).Nodup := fun {ps} => by
  refine Z.rev_ind (P := fun ps => (∀ p ∈ ps, 1 ≤ p) → (Z.imF o ps).Nodup) ?_ ?_ ps
  · intro _
    simp [Z.imF]
  · intro ps p ih h
    rw [Z.imF_app]
    exact ext_nd (ih fun x hx => h x (List.mem_append_left _ hx)) (shs_nd (h p (by simp)))
theorem wyF_nd {ps : List Int} (hp : ∀ p ∈ ps, 1 ≤ p) (os : List Int) : (Z.wyF os ps).Nodup := by
  refine Z.rev_ind (P := fun os => (Z.wyF os ps).Nodup) ?_ ?_ os
  · simp [Z.wyF]
  · intro os o ih
    rw [Z.wyF_app]
    exact ext_nd ih (imF_nd hp)
theorem ext_in {α : Type} {F : List (List α)} {G : List α} {x : List α} {g : α} (h1 : x ∈ F) (h2 : g ∈ G) : x ++ [g] ∈ Z.ext F G := List.mem_flatMap.mpr ⟨x, h1, List.mem_map.mpr ⟨g, h2, rfl⟩⟩
theorem snoc_ex {α : Type} : ∀ {x : List α} {n : Nat}, x.length = n + 1 → ∃ y a, x = y ++ [a] ∧ y.length = n := fun {x n} h => by
  have hne : x ≠ [] := fun e => by rw [e] at h; simp at h
  refine ⟨x.dropLast, x.getLast hne, (List.dropLast_concat_getLast hne).symm, by rw [List.length_dropLast]; omega⟩
theorem shs_in {o p x : Int} (ho : 1 ≤ o) (hp : 1 ≤ p) (h0 : 0 ≤ x) (h1 : x < p) (hd : p ∣ o * x) : x ∈ Z.shs o p := by
  obtain ⟨a, rfl⟩ : ∃ a : Nat, o = a := ⟨o.toNat, by omega⟩
  obtain ⟨b, rfl⟩ : ∃ b : Nat, p = b := ⟨p.toNat, by omega⟩
  obtain ⟨y, rfl⟩ : ∃ y : Nat, x = y := ⟨x.toNat, by omega⟩
  have hd : b ∣ a * y := by
    rw [← Int.natCast_mul] at hd
    exact Int.natCast_dvd_natCast.mp hd
  have g0 : 0 < Nat.gcd a b := Nat.gcd_pos_of_pos_left _ (by omega)
  obtain ⟨c, hc⟩ := Nat.gcd_dvd_left a b
  obtain ⟨d, hdd⟩ := Nat.gcd_dvd_right a b
  have eg : Z.gg (a : Int) (b : Int) = (Nat.gcd a b : Nat) := rfl
  have es : Z.sh (a : Int) (b : Int) = (d : Nat) := by
    unfold Z.sh
    rw [eg]
    have e1 : (b : Int) = ((Nat.gcd a b * d : Nat) : Int) := by omega
    generalize Nat.gcd a b = g at *
    rw [e1, Int.natCast_mul, Int.mul_ediv_cancel_left _ (by omega)]
  have cop : Nat.Coprime d c := by
    have := Nat.gcd_mul_left (Nat.gcd a b) c d
    rw [← hc, ← hdd] at this
    have h1 : Nat.gcd c d = 1 := Nat.eq_of_mul_eq_mul_left g0 (by rw [← this, Nat.mul_one])
    exact (Nat.gcd_comm d c).trans h1
  have hy : d ∣ y := by
    refine cop.dvd_of_dvd_mul_left ?_
    obtain ⟨t, ht⟩ := hd
    refine ⟨t, Nat.eq_of_mul_eq_mul_left g0 ?_⟩
    rw [← Nat.mul_assoc, ← hc, ← Nat.mul_assoc, ← hdd]
    exact ht
  obtain ⟨k, hk⟩ := hy
  have hkg : k < Nat.gcd a b := by
    apply Classical.byContradiction
    intro z
    have : Nat.gcd a b * d ≤ d * k := by
      rw [Nat.mul_comm]
      exact Nat.mul_le_mul_left d (by omega)
    omega
  unfold Z.shs
  rw [eg, es]
  refine List.mem_map.mpr ⟨k, List.mem_range.mpr (by simpa using hkg), ?_⟩
  subst hk
  simp [Int.mul_comm]
end K61
namespace K61
open PySem Pu L2
theorem getD_l {α : Type} {a : List α} {x d : α} {k : Nat} (h : k < a.length) : (a ++ [x]).getD k d = a.getD k d := by
  rw [List.getD_eq_getElem?_getD, List.getElem?_append_left h, ← List.getD_eq_getElem?_getD]
theorem getD_r {α : Type} {a : List α} {x d : α} : (a ++ [x]).getD a.length d = x := by
  rw [List.getD_eq_getElem?_getD, List.getElem?_append_right (Nat.le_refl _)]
  simp
theorem im_in {o : Int} (ho : 1 ≤ o) {ps : List Int} : ∀ {x : List Int}, (∀ p ∈ ps, 1 ≤ p) → x.length = ps.length → (∀ j, j < ps.length → 0 ≤ x.getD j 0 ∧ x.getD j 0 < ps.getD j 0 ∧ ps.getD j 0 ∣ o * x.getD j 0) → x ∈ Z.imF o ps := by
  induction ps using Z.rev_ind with
  | h0 =>
    intro x _ hl _
    have : x = [] := List.eq_nil_of_length_eq_zero hl
    subst this
    simp [Z.imF]
  | hs ps p ih =>
    intro x hp hl h
    rw [List.length_append, List.length_singleton] at hl
    obtain ⟨y, a, rfl, hy⟩ := snoc_ex hl
    rw [Z.imF_app]
    refine ext_in (ih (fun q hq => hp q (List.mem_append_left _ hq)) hy fun j hj => ?_) ?_
    · have := h j (by rw [List.length_append]; omega)
      rw [getD_l (by omega), getD_l hj] at this
      exact this
    · have := h ps.length (by rw [List.length_append]; simp)
      rw [getD_r, ← hy, getD_r] at this
      exact shs_in ho (hp p (by simp)) this.1 this.2.1 this.2.2
theorem wy_in {ps : List Int} {os : List Int} : ∀ {I : List (List Int)}, I.length = os.length → (∀ i, i < os.length → I.getD i [] ∈ Z.imF (os.getD i 0) ps) → I ∈ Z.wyF os ps := by
  induction os using Z.rev_ind with
  | h0 =>
    intro I hl _
    have : I = [] := List.eq_nil_of_length_eq_zero hl
    subst this
    simp [Z.wyF]
  | hs os o ih =>
    intro I hl h
    rw [List.length_append, List.length_singleton] at hl
    obtain ⟨J, r, rfl, hJ⟩ := snoc_ex hl
    rw [Z.wyF_app]
    refine ext_in (ih hJ fun i hi => ?_) ?_
    · have := h i (by rw [List.length_append]; omega)
      rw [getD_l (a := J) (by omega), getD_l (a := os) hi] at this
      exact this
    · have := h os.length (by rw [List.length_append]; simp)
      rw [getD_r, ← hJ, getD_r] at this
      exact this
theorem hI_gd {h : List Nat} {k : Nat} : (hI h).getD k 0 = ((h.getD k 0 : Nat) : Int) := hI_get h k
theorem pos_hI {h : List Nat} (hp : ∀ n ∈ h, 1 ≤ n) : ∀ p ∈ hI h, 1 ≤ p := fun p hm => by
  obtain ⟨n, hn, rfl⟩ := List.mem_map.mp hm
  have := hp n hn
  omega
theorem way_in {h g : List Nat} (hh : ∀ n ∈ h, 1 ≤ n) (hg : ∀ n ∈ g, 1 ≤ n) {I : List (List Int)} (W : St.Way h g I) : I ∈ Z.wyF (hI h) (hI g) := by
  refine wy_in (by rw [W.n, hI_len]) fun i hi => ?_
  rw [hI_len] at hi
  have hiI : i < I.length := by rw [W.n]; exact hi
  have hr := W.th (I.getD i []) (by
    rw [List.getD_eq_getElem?_getD, List.getElem?_eq_getElem hiI]
    exact List.getElem_mem _)
  refine im_in (by
    rw [hI_gd]
    have := hh (h.getD i 0) (by
      rw [List.getD_eq_getElem?_getD, List.getElem?_eq_getElem hi]
      exact List.getElem_mem _)
    omega) (pos_hI hg) (by rw [hr.1, hI_len]) fun j hj => ?_
  rw [hI_len] at hj
  rw [hI_gd, hI_gd]
  have h2 := hr.2 j hj
  exact ⟨h2.1, h2.2, W.ok i hi j hj⟩
theorem wysL_way {h : List Nat} (hh : ∀ n ∈ h, 1 ≤ n) {I : List (List Int)} (hI1 : I ∈ Z.wyF (hI h) (hI h)) : St.Way h h I := by
  obtain ⟨l1, l2⟩ := wy_mem hI1
  rw [hI_len] at l1 l2
  have gd : ∀ k, k < h.length → 1 ≤ h.getD k 0 := fun k hk => hh _ (by
    rw [List.getD_eq_getElem?_getD, List.getElem?_eq_getElem hk]
    exact List.getElem_mem _)
  have rw_ : ∀ i, i < h.length → (I.getD i []).length = h.length ∧ ∀ j, j < h.length → (0 ≤ St.vec (I.getD i []) j ∧ St.vec (I.getD i []) j < ((h.getD j 0 : Nat) : Int)) ∧ ((h.getD j 0 : Nat) : Int) ∣ ((h.getD i 0 : Nat) : Int) * St.vec (I.getD i []) j := fun i hi => by
    have hm := l2 i hi
    rw [hI_gd] at hm
    obtain ⟨m1, m2⟩ := im_mem (by have := gd i hi; omega) (pos_hI hh) hm
    rw [hI_len] at m1 m2
    refine ⟨m1, fun j hj => ?_⟩
    obtain ⟨k, hk, e⟩ := m2 j hj
    rw [hI_gd] at hk e
    have g1 := gd j hj
    have g2 := gd i hi
    generalize h.getD j 0 = p at *
    generalize h.getD i 0 = o at *
    have g0 : 0 < Nat.gcd o p := Nat.gcd_pos_of_pos_left _ (by omega)
    have eg : Z.gg (o : Int) (p : Int) = (Nat.gcd o p : Nat) := rfl
    obtain ⟨d, hd⟩ := Nat.gcd_dvd_right o p
    obtain ⟨c, hc⟩ := Nat.gcd_dvd_left o p
    have es : Z.sh (o : Int) (p : Int) = (d : Nat) := by
      unfold Z.sh
      rw [eg]
      have e1 : (p : Int) = ((Nat.gcd o p * d : Nat) : Int) := by omega
      generalize Nat.gcd o p = g at *
      rw [e1, Int.natCast_mul, Int.mul_ediv_cancel_left _ (by omega)]
    rw [es] at e
    rw [eg] at hk
    rw [e, ← Int.natCast_mul]
    have d1 : 1 ≤ d := by
      rcases Nat.eq_zero_or_pos d with z | z
      · rw [z] at hd; omega
      · exact z
    refine ⟨⟨by omega, ?_⟩, ?_⟩
    · have : d * k < d * Nat.gcd o p := Nat.mul_lt_mul_of_pos_left (by omega) d1
      rw [Nat.mul_comm d (Nat.gcd o p), ← hd] at this
      omega
    · rw [← Int.natCast_mul]
      refine Int.natCast_dvd_natCast.mpr ⟨c * k, ?_⟩
      generalize Nat.gcd o p = g at hd hc
      rw [hc, hd]
      grind
  refine ⟨l1, fun r hr => ?_, fun k hk j hj => ((rw_ k hk).2 j hj).2⟩
  obtain ⟨i, hi, rfl⟩ := List.mem_iff_getElem.mp hr
  have := rw_ i (by rw [← l1]; exact hi)
  rw [List.getD_eq_getElem?_getD, List.getElem?_eq_getElem hi] at this
  exact ⟨this.1, fun j hj => (this.2 j hj).1⟩
/-! ### the same leading -/
theorem st_wy {h g : List Nat} (qh : F.Y.Hq (F.IN h)) (qg : F.Y.Hq (F.IN g)) {I : List (List Int)} (W : St.Way h g I) : F.Y.Wy (F.IN h) (F.IN g) I := by
  have hl : I.length = h.length := W.n
  refine ⟨qh, qg, by rw [hl]; simp, fun i hi => ?_⟩
  have hi : i < h.length := by simpa using hi
  have hr := W.th (I.getD i []) (by
    rw [List.getD_eq_getElem?_getD, List.getElem?_eq_getElem (by omega)]
    exact List.getElem_mem _)
  have t := st_th.mp hr
  refine ⟨t.1, fun j a k ea ek => ⟨t.2 j a k ea ek, ?_⟩⟩
  have hj : j < g.length := by
    have := F.Y.lt_of_at ek
    simpa using this
  have ok := W.ok i hi j hj
  have e1 : F.Y.gi (F.IN h) i = ((h.getD i 0 : Nat) : Int) := gi_gd hi
  have e2 : k = ((g.getD j 0 : Nat) : Int) := by rw [← gi_gd hj, F.Y.gi_of ek]
  have e3 : St.vec (I.getD i []) j = a := F.Y.gi_of ea
  rw [e1, e2, ← e3]
  exact Int.emod_eq_zero_of_dvd ok
theorem st_led {h g : List Nat} (I : List (List Int)) (a : List Int) : St.led h g I a = F.Y.ledL (F.IN h) (F.IN g) I a := by
  refine F.Y.ext_gi (n := g.length) (by unfold St.led; exact St.nrm_len _ _) (by rw [F.Y.led_eq]; simp) fun k hk => ?_
  rw [F.Y.led_gi (by simpa using hk), gi_gd hk]
  show St.vec (St.nrm g _) k = _
  rw [St.vec_nrm hk, ph_dt]
  simp
theorem nrm_zr (h : List Nat) : (St.nrm h fun _ => 0) = F.Y.zr (F.IN h) := by
  refine F.Y.ext_gi (n := h.length) (St.nrm_len _ _) (by simp [F.Y.zr]) fun k hk => ?_
  rw [F.Y.zr_gi (by simpa using hk)]
  show St.vec (St.nrm h _) k = _
  rw [St.vec_nrm hk]
  simp
/-- good: nothing but nought falls -/
def Gd (os : List Int) (χ : List Int → List Int) : Prop := ∀ a, F.Y.Th os a → χ a = F.Y.zr os → a = F.Y.zr os
theorem tB_gd {h : List Nat} {I : List (List Int)} : tB h I = true ↔ Gd (F.IN h) (F.Y.ledL (F.IN h) (F.IN h) I) := by
  rw [tB_iff]
  unfold Gd
  constructor
  · intro H a ta e
    rw [← nrm_zr]
    refine H a (st_th.mpr ta) ?_
    rw [st_led, e, nrm_zr]
  · intro H a ta e
    rw [nrm_zr]
    refine H a (st_th.mp ta) ?_
    rw [← st_led, e, nrm_zr]
end K61
namespace K61
open PySem Pu L2
/-! ### turnings of a house are those of another one that is the same -/
theorem led_hm {os ps : List Int} {I : List (List Int)} (W : F.Y.Wy os ps I) : F.Y.Hm os ps (F.Y.ledL os ps I) := ⟨W.o, W.p, fun x _ => F.Y.led_th W.p x, fun x y _ _ => F.Y.led_su W⟩
theorem hm_comp {os ps qs : List Int} {φ χ : List Int → List Int} (A : F.Y.Hm os ps φ) (B : F.Y.Hm ps qs χ) : F.Y.Hm os qs fun x => χ (φ x) := ⟨A.o, B.p, fun x hx => B.th _ (A.th x hx), fun x y hx hy => by
  rw [A.su x y hx hy, B.su _ _ (A.th x hx) (A.th y hy)]⟩
/-- the way there of a way here -/
def cj (h g : List Nat) (φ ψ : List Int → List Int) (I : List (List Int)) : List (List Int) := F.Y.imgs (F.IN g) fun x => φ (F.Y.ledL (F.IN h) (F.IN h) I (ψ x))
section
variable {h g : List Nat} {φ ψ : List Int → List Int} (B : Bij (F.IN h) (F.IN g) φ ψ)
include B
theorem cj_hm {I : List (List Int)} (W : F.Y.Wy (F.IN h) (F.IN h) I) : F.Y.Hm (F.IN g) (F.IN g) fun x => φ (F.Y.ledL (F.IN h) (F.IN h) I (ψ x)) := hm_comp (hm_comp B.b (led_hm W)) B.f
theorem cj_led {I : List (List Int)} (W : F.Y.Wy (F.IN h) (F.IN h) I) {x : List Int} (hx : F.Y.Th (F.IN g) x) : F.Y.ledL (F.IN g) (F.IN g) (cj h g φ ψ I) x = φ (F.Y.ledL (F.IN h) (F.IN h) I (ψ x)) := (cj_hm B W).led hx
omit B in
theorem led_row {os ps : List Int} {I : List (List Int)} (W : F.Y.Wy os ps I) {i : Nat} (hi : i < os.length) : F.Y.ledL os ps I (F.Y.gr (F.Y.idL os) i) = F.Y.gr I i := by
  have t := F.Y.im_th (W.im i hi)
  refine F.Y.ext_gi (n := ps.length) (by rw [F.Y.led_eq]; simp) t.1 fun j hj => ?_
  rw [F.Y.led_gi hj]
  have z := F.Y.th_gi t hj
  let b : List Int := (List.range os.length).map fun k => if k = i then 1 else 0
  have bg : ∀ k, k < os.length → F.Y.gi b k = if k = i then 1 else 0 := fun k hk => F.Y.gi_map _ hk
  have c := F.Y.dt_cong W hj (a := F.Y.gr (F.Y.idL os) i) (b := b) os.length (Nat.le_refl _) fun k hk => by
    rw [F.Y.id_gi hi hk, bg k hk]
    have := Int.mul_ediv_add_emod (if k = i then (1 : Int) else 0) (F.Y.gi os k)
    exact ⟨-((if k = i then (1 : Int) else 0) / F.Y.gi os k), by rw [Int.mul_neg]; omega⟩
  have d : ∀ m, m ≤ os.length → F.Y.dt b I j m = if i < m then F.Y.gi (F.Y.gr I i) j else 0 := fun m => by
    induction m with
    | zero => intro _; rfl
    | succ m ih =>
      intro hm
      show F.Y.dt b I j m + F.Y.gi b m * F.Y.gi (F.Y.gr I m) j = _
      rw [ih (by omega), bg m (by omega)]
      by_cases c1 : m = i
      · subst c1
        rw [if_neg (by omega), if_pos rfl, if_pos (by omega)]
        omega
      · rw [if_neg c1]
        by_cases c2 : i < m
        · rw [if_pos c2, if_pos (by omega)]
          omega
        · rw [if_neg c2, if_neg (by omega)]
          omega
  rw [d os.length (Nat.le_refl _), if_pos hi] at c
  have e := Int.emod_eq_emod_iff_emod_sub_eq_zero.mpr (Int.emod_eq_zero_of_dvd c)
  rw [e, Int.emod_eq_of_lt z.1 z.2]
omit B in
theorem way_eq {os ps : List Int} {I J : List (List Int)} (W : F.Y.Wy os ps I) (V : F.Y.Wy os ps J) (e : ∀ x, F.Y.Th os x → F.Y.ledL os ps I x = F.Y.ledL os ps J x) : I = J := by
  apply List.ext_getElem?
  intro i
  have w := W.l
  have v := V.l
  by_cases hi : i < os.length
  · have := e _ (F.Y.id_th W.o hi)
    rw [led_row W hi, led_row V hi] at this
    rw [F.Y.gr_at (by omega), F.Y.gr_at (by omega), this]
  · rw [List.getElem?_eq_none (by omega), List.getElem?_eq_none (by omega)]
theorem cj_gd {I : List (List Int)} (W : F.Y.Wy (F.IN h) (F.IN h) I) (G : Gd (F.IN h) (F.Y.ledL (F.IN h) (F.IN h) I)) : Gd (F.IN g) (F.Y.ledL (F.IN g) (F.IN g) (cj h g φ ψ I)) := fun a ta e => by
  rw [cj_led B W ta] at e
  have t1 := B.b.th a ta
  have t2 := F.Y.led_th (os := F.IN h) (ims := I) W.p (ψ a)
  have e1 : F.Y.ledL (F.IN h) (F.IN h) I (ψ a) = F.Y.zr (F.IN h) := by
    rw [← B.bf _ t2, e, B.b.zero]
  have e2 := G _ t1 e1
  rw [← B.fb a ta, e2, B.f.zero]
theorem cj_inj {I J : List (List Int)} (W : F.Y.Wy (F.IN h) (F.IN h) I) (V : F.Y.Wy (F.IN h) (F.IN h) J) (e : cj h g φ ψ I = cj h g φ ψ J) : I = J := way_eq W V fun x hx => by
  have t1 := B.f.th x hx
  have c1 := cj_led B W t1
  have c2 := cj_led B V t1
  rw [e, c2, B.bf x hx] at c1
  have u1 := F.Y.led_th (os := F.IN h) (ims := I) W.p x
  have u2 := F.Y.led_th (os := F.IN h) (ims := J) V.p x
  rw [← B.bf _ u1, ← c1, B.bf _ u2]
theorem good_le (hh : ∀ n ∈ h, 1 ≤ n) (hg : ∀ n ∈ g, 1 ≤ n) : ((wysL h).filter (tB h)).length ≤ ((wysL g).filter (tB g)).length := by
  have mw : ∀ I ∈ wysL h, F.Y.Wy (F.IN h) (F.IN h) I := fun I hI => st_wy B.f.o B.f.o (wysL_way hh hI)
  have nd : (((wysL h).filter (tB h)).map (cj h g φ ψ)).Nodup := by
    rw [List.nodup_iff_pairwise_ne, List.pairwise_map]
    refine List.Pairwise.imp_of_mem (fun {I J} hI hJ ne e => ne ?_) ((wyF_nd (pos_hI hh) _).filter _)
    rw [List.mem_filter] at hI hJ
    exact cj_inj B (mw I hI.1) (mw J hJ.1) e
  have := St.nodup_sub _ ((wysL g).filter (tB g)) nd fun K hK => by
    obtain ⟨I, hI, rfl⟩ := List.mem_map.mp hK
    rw [List.mem_filter] at hI ⊢
    have W := mw I hI.1
    have V := (cj_hm B W).wy
    exact ⟨way_in hg hg (st_way V), tB_gd.mpr (cj_gd B W (tB_gd.mp hI.2))⟩
  simpa using this
end
theorem good_eq {h g : List Nat} {φ ψ : List Int → List Int} (B : Bij (F.IN h) (F.IN g) φ ψ) (hh : ∀ n ∈ h, 1 ≤ n) (hg : ∀ n ∈ g, 1 ≤ n) : ((wysL h).filter (tB h)).length = ((wysL g).filter (tB g)).length := Nat.le_antisymm (good_le B hh hg) (good_le B.rev hg hh)
end K61
namespace K61
open PySem Pu L2
/-! ### the few forms -/
def primeB (p : Nat) : Bool := decide (2 ≤ p) && (List.range p).all fun d => decide (d < 2) || decide (p % d ≠ 0)
theorem prm_B {p : Nat} : primeB p = true ↔ F.prm p := by
  unfold primeB
  rw [Bool.and_eq_true, decide_eq_true_eq, List.all_eq_true]
  constructor
  · rintro ⟨h1, h2⟩
    refine ⟨h1, fun d hd => ?_⟩
    have hle := Nat.le_of_dvd (by omega) hd
    rcases Nat.lt_or_ge d p with z | z
    · have := h2 d (List.mem_range.mpr z)
      rw [Bool.or_eq_true, decide_eq_true_eq, decide_eq_true_eq] at this
      rcases this with q | q
      · left
        rcases Nat.eq_zero_or_pos d with y | y
        · subst y
          have := Nat.eq_zero_of_zero_dvd hd
          omega
        · omega
      · exact absurd (Nat.mod_eq_zero_of_dvd hd) q
    · right
      omega
  · rintro ⟨h1, h2⟩
    refine ⟨h1, fun d hd => ?_⟩
    have hd := List.mem_range.mp hd
    rw [Bool.or_eq_true, decide_eq_true_eq, decide_eq_true_eq]
    by_cases c : d < 2
    · exact .inl c
    · right
      intro z
      have := h2 d (Nat.dvd_of_mod_eq_zero z)
      omega
def ps520 : List Nat := [2, 3, 5, 7, 11, 13, 17, 19, 23, 29, 31, 37, 41, 43, 47, 53, 59, 61, 67, 71, 73, 79, 83, 89, 97, 101, 103, 107, 109, 113, 127, 131, 137, 139, 149, 151, 157, 163, 167, 173, 179, 181, 191, 193, 197, 199, 211, 223, 227, 229, 233, 239, 241, 251, 257, 263, 269, 271, 277, 281, 283, 293, 307, 311, 313, 317, 331, 337, 347, 349, 353, 359, 367, 373, 379, 383, 389, 397, 401, 409, 419, 421, 431, 433, 439, 443, 449, 457, 461, 463, 467, 479, 487, 491, 499, 503, 509]
theorem ps_prm : ∀ p ∈ ps520, F.prm p := fun p hp => prm_B.mp (List.all_eq_true.mp (show ps520.all primeB = true by decide +kernel) p hp)
theorem ps_all {q : Nat} (hq : F.prm q) (h : q ≤ 520) : q ∈ ps520 := by
  have := List.all_eq_true.mp (show ((List.range 521).all fun q => !primeB q || ps520.contains q) = true by decide +kernel) q (List.mem_range.mpr (by omega))
  rw [prm_B.mpr hq] at this
  simpa using this
theorem ps_ord : ps520.Pairwise (· < ·) := by decide +kernel
def BPof (R : List Nat) : List (Nat × List Nat) := (ps520.filter fun p => R.any fun r => decide (r % p = 0)).map fun p => (p, F.PV p R)
theorem bp_of {R : List Nat} (h2 : ∀ r ∈ R, 2 ≤ r) (hd : R.Pairwise (· ∣ ·)) (hb : ∀ r ∈ R, r ≤ 520) : F.BP R (BPof R) := by
  refine ⟨fun x hx => ?_, fun q hq hne => ?_, ?_⟩
  · unfold BPof at hx
    rw [List.mem_map] at hx
    obtain ⟨p, hp, rfl⟩ := hx
    rw [List.mem_filter, List.any_eq_true] at hp
    obtain ⟨h1, r, hr, hm⟩ := hp
    have pp := ps_prm p h1
    refine ⟨pp, ?_, List.Perm.refl _, fun e => ?_⟩
    · exact (F.vp_sorted pp (fun r hr => by have := h2 r hr; omega) hd).filter _
    · have hm : r % p = 0 := by simpa using hm
      have : F.vp p r ∈ F.PV p R := by
        unfold F.PV
        rw [List.mem_filter]
        exact ⟨List.mem_map.mpr ⟨r, hr, rfl⟩, by simpa using (F.vp_pos pp.1 (by have := h2 r hr; omega)).mpr (Nat.dvd_of_mod_eq_zero hm)⟩
      have e : F.PV p R = [] := e
      rw [e] at this
      cases this
  · obtain ⟨v, hv⟩ := List.exists_mem_of_ne_nil _ hne
    unfold F.PV at hv
    rw [List.mem_filter, List.mem_map] at hv
    obtain ⟨⟨r, hr, rfl⟩, h0⟩ := hv
    have r2 := h2 r hr
    have hd : q ∣ r := (F.vp_pos hq.1 (show 1 ≤ r by omega)).mp (by simpa using h0)
    have hle : q ≤ r := Nat.le_of_dvd (show 0 < r by omega) hd
    refine ⟨_, List.mem_map.mpr ⟨q, List.mem_filter.mpr ⟨ps_all hq (by have := hb r hr; omega), ?_⟩, rfl⟩⟩
    rw [List.any_eq_true]
    exact ⟨r, hr, by simpa using Nat.mod_eq_zero_of_dvd hd⟩
  · unfold BPof
    rw [List.pairwise_map]
    exact ps_ord.filter _
/-! one round -/
theorem wys_one {d : Nat} (hd : 1 ≤ d) : wysL [d] = (List.range d).map fun k : Nat => [[(k : Int)]] := by
  have eg : Z.gg (d : Int) (d : Int) = (d : Int) := by
    show ((Nat.gcd (d : Int).toNat (d : Int).toNat : Nat) : Int) = d
    simp
  have es : Z.sh (d : Int) (d : Int) = 1 := by
    unfold Z.sh
    rw [eg]
    exact Int.ediv_self (by omega)
  have e1 : Z.shs (d : Int) (d : Int) = (List.range d).map fun k : Nat => (k : Int) := by
    unfold Z.shs
    rw [eg, es]
    simp
  show Z.ext [[]] (Z.ext [[]] (Z.shs (d : Int) (d : Int))) = _
  rw [e1]
  unfold Z.ext
  simp
theorem tB_one {d k : Nat} (hd : 1 ≤ d) : tB [d] [[(k : Int)]] = true ↔ Nat.gcd k d = 1 := by
  rw [tB_iff]
  have led : ∀ x : Int, St.led [d] [d] [[(k : Int)]] [x] = [(x * k) % d] := fun x => by
    show [(0 + x * (k : Int)) % ((d : Nat) : Int)] = _
    rw [Int.zero_add]
  have nz : (St.nrm [d] fun _ => 0) = [0] := by
    show [(0 : Int) % ((d : Nat) : Int)] = _
    simp
  rw [nz]
  have g0 : 0 < Nat.gcd k d := Nat.gcd_pos_of_pos_right _ (by omega)
  constructor
  · intro H
    obtain ⟨c, hc⟩ := Nat.gcd_dvd_right k d
    obtain ⟨b, hb⟩ := Nat.gcd_dvd_left k d
    generalize Nat.gcd k d = g at *
    apply Classical.byContradiction
    intro ne
    have c1 : 1 ≤ c := by
      rcases Nat.eq_zero_or_pos c with z | z
      · rw [z] at hc; omega
      · exact z
    have clt : c < d := by
      rw [hc]
      have := Nat.mul_le_mul_right c (show 2 ≤ g by omega)
      omega
    have := H [(c : Int)] ⟨rfl, fun j hj => by
      have : j = 0 := by simpa using hj
      subst this
      show 0 ≤ (c : Int) ∧ (c : Int) < (d : Int)
      omega⟩ (by
      rw [led]
      congr 1
      rw [hb, hc]
      refine Int.emod_eq_zero_of_dvd ⟨(b : Int), ?_⟩
      rw [Int.natCast_mul, Int.natCast_mul]
      grind)
    injection this with e _
    omega
  · intro hg a ta e
    obtain ⟨x, rfl⟩ : ∃ x, a = [x] := by
      match a, ta.1 with
      | [x], _ => exact ⟨x, rfl⟩
    have t := ta.2 0 (by simp)
    have t0 : 0 ≤ x ∧ x < (d : Int) := t
    rw [led] at e
    injection e with e _
    obtain ⟨y, rfl⟩ : ∃ y : Nat, x = y := ⟨x.toNat, by omega⟩
    have hdv : d ∣ y * k := by
      have := Int.dvd_of_emod_eq_zero e
      rw [← Int.natCast_mul] at this
      exact Int.natCast_dvd_natCast.mp this
    have : d ∣ y := (show Nat.Coprime d k from (Nat.gcd_comm d k).trans hg).dvd_of_dvd_mul_right hdv
    have y0 : y = 0 := by
      apply Classical.byContradiction
      intro z
      have := Nat.le_of_dvd (by omega) this
      omega
    rw [y0]
    rfl
def phiB (d : Nat) : Bool := ((List.range d).filter fun k => decide (Nat.gcd k d = 1)).length == F.mt (BPof [d])
theorem good_one {d : Nat} (hd : 2 ≤ d) (h : d ≤ 520) : ((wysL [d]).filter (tB [d])).length = F.mt (BPof [d]) := by
  have e := List.all_eq_true.mp (show ((List.range 521).all fun d => decide (d < 2) || phiB d) = true by decide +kernel) d (List.mem_range.mpr (by omega))
  rw [Bool.or_eq_true, decide_eq_true_eq] at e
  have e := e.resolve_left (by omega)
  unfold phiB at e
  rw [beq_iff_eq] at e
  rw [← e, wys_one (by omega), List.filter_map, List.length_map]
  congr 1
  refine List.filter_congr fun k _ => ?_
  show tB [d] [[(k : Int)]] = _
  rw [Bool.eq_iff_iff, tB_one (by omega), decide_eq_true_eq]
end K61
namespace K61
open PySem Pu L2
def psOf (R : List Nat) : List Nat := ps520.filter fun p => R.any fun r => decide (r % p = 0)
def gB (R : List Nat) (I : List (List Int)) : Bool := (lowL R (psOf R)).all fun a => decide (¬ St.led R R I a = St.nrm R fun _ => 0)
theorem prd_dv : ∀ {R : List Nat} {p : Nat}, F.prm p → p ∣ St.prd R → ∃ r ∈ R, p ∣ r
  | [], p, hp, h => by
    have := Nat.le_of_dvd (by decide) (show p ∣ 1 from h)
    have := hp.1
    omega
  | r :: R, p, hp, h => by
    rw [St.prd_cons] at h
    rcases F.prm_mul hp h with q | q
    · exact ⟨r, by simp, q⟩
    · obtain ⟨x, hx, hd⟩ := prd_dv hp q
      exact ⟨x, by simp [hx], hd⟩
theorem gB_tB {R : List Nat} (h1 : ∀ r ∈ R, 1 ≤ r) (hb : ∀ r ∈ R, r ≤ 520) {I : List (List Int)} (W : St.Way R R I) : tB R I = gB R I := by
  obtain ⟨S, FS, sp⟩ := St.lam_ex h1 (A := I) fun a ha => (W.th a ha).1
  have M : St.Img R R I S := ⟨FS, sp⟩
  have t1 := St.onto_iff h1 h1 W M
  have t2 := St.turn_iff h1 W M (ps := psOf R) (fun p hp => by
    unfold psOf at hp
    rw [List.mem_filter] at hp
    exact (ps_prm p hp.1).1) fun p hp hd => by
    have hp : F.prm p := hp
    obtain ⟨r, hr, hdr⟩ := prd_dv hp hd
    unfold psOf
    rw [List.mem_filter, List.any_eq_true]
    have := Nat.le_of_dvd (h1 r hr) hdr
    exact ⟨ps_all hp (by have := hb r hr; omega), r, hr, by simpa using Nat.mod_eq_zero_of_dvd hdr⟩
  rw [Bool.eq_iff_iff, tB_iff, ← t1, t2]
  unfold gB lowL
  rw [List.all_eq_true]
  exact ⟨fun h a ha => decide_eq_true (h a ha), fun h a ha => of_decide_eq_true (h a ha)⟩
def okB (R : List Nat) : Bool := ((wysL R).filter (gB R)).length == F.mt (BPof R)
theorem good_B {R : List Nat} (h1 : ∀ r ∈ R, 1 ≤ r) (hb : ∀ r ∈ R, r ≤ 520) (e : okB R = true) : ((wysL R).filter (tB R)).length = F.mt (BPof R) := by
  unfold okB at e
  rw [beq_iff_eq] at e
  rw [← e]
  congr 1
  refine List.filter_congr fun I hI => gB_tB h1 hb (wysL_way h1 hI)
theorem ok_222 : okB [2, 2, 2] = true := by decide +kernel
theorem ok_2 : ((List.range 33).all fun k => decide (k < 1) || okB [2, 2 * k]) = true := by decide +kernel
theorem ok_3 : ((List.range 7).all fun k => decide (k < 1) || okB [3, 3 * k]) = true := by decide +kernel
theorem ok_4 : ((List.range 3).all fun k => decide (k < 1) || okB [4, 4 * k]) = true := by decide +kernel
end K61
namespace K61
open PySem Pu L2
theorem pd_ge {c : Nat} : ∀ {l : List Nat}, (∀ x ∈ l, c ≤ x) → c ^ l.length ≤ F.pd l
  | [], _ => Nat.le_refl _
  | x :: l, h => by
    rw [List.length_cons, Nat.pow_succ, Nat.mul_comm]
    exact Nat.mul_le_mul (h x (List.mem_cons_self ..)) (pd_ge fun y hy => h y (List.mem_cons_of_mem _ hy))
theorem chain2 : ∀ {R : List Nat}, R.Pairwise (· ∣ ·) → ∀ a ∈ R, ∀ b ∈ R, a ∣ b ∨ b ∣ a
  | [], _, a, ha, _, _ => nomatch ha
  | x :: R, h, a, ha, b, hb => by
    rw [List.pairwise_cons] at h
    rcases List.mem_cons.mp ha with p | p <;> rcases List.mem_cons.mp hb with q | q
    · rw [p, q]; exact .inl (Nat.dvd_refl _)
    · rw [p]; exact .inl (h.1 b q)
    · rw [q]; exact .inr (h.1 a p)
    · exact chain2 h.2 a p b q
theorem tot_ge {R : List Nat} (h2 : ∀ r ∈ R, 2 ≤ r) (hd : R.Pairwise (· ∣ ·)) : (2 ^ R.length) ^ R.length ≤ F.tot R := by
  unfold F.tot
  have := pd_ge (c := 2 ^ R.length) (l := R.map fun a => F.pd (R.map fun b => Nat.gcd a b)) fun y hy => by
    obtain ⟨a, ha, rfl⟩ := List.mem_map.mp hy
    have := pd_ge (c := 2) (l := R.map fun b => Nat.gcd a b) fun x hx => by
      obtain ⟨b, hb, rfl⟩ := List.mem_map.mp hx
      rcases chain2 hd a ha b hb with q | q
      · rw [Nat.gcd_eq_left q]
        exact h2 a ha
      · rw [Nat.gcd_eq_right q]
        exact h2 b hb
    rw [List.length_map] at this
    exact this
  rw [List.length_map] at this
  exact this
theorem chain_good {R : List Nat} (h2 : ∀ r ∈ R, 2 ≤ r) (hd : R.Pairwise (· ∣ ·)) (ht : F.tot R ≤ 520) : R.length ≤ 3 ∧ (∀ r ∈ R, r ≤ 520) ∧ ((wysL R).filter (tB R)).length = F.mt (BPof R) := by
  have hl : R.length ≤ 3 := by
    apply Classical.byContradiction
    intro c
    have h1 := tot_ge h2 hd
    have a1 : (2 : Nat) ^ 4 ≤ 2 ^ R.length := Nat.pow_le_pow_right (by decide) (by omega)
    have a2 : (2 ^ 4) ^ 4 ≤ (2 ^ R.length) ^ R.length := Nat.le_trans (Nat.pow_le_pow_left a1 4) (Nat.pow_le_pow_right (Nat.pow_pos (by decide)) (by omega))
    have a3 : (520 : Nat) < (2 ^ 4) ^ 4 := by decide
    omega
  have fin : ∀ R : List Nat, (∀ r ∈ R, 2 ≤ r) → (∀ r ∈ R, r ≤ 520) → okB R = true → ((wysL R).filter (tB R)).length = F.mt (BPof R) := fun R h2 hb e => good_B (fun r hr => by have := h2 r hr; omega) hb e
  refine ⟨hl, ?_⟩
  match R, hl with
  | [], _ => exact ⟨by simp, fin [] (by simp) (by simp) (by decide +kernel)⟩
  | [d], _ =>
    have d2 := h2 d (by simp)
    have e : F.tot [d] = d := by
      show Nat.gcd d d * 1 * 1 = d
      rw [Nat.gcd_self]
      omega
    rw [e] at ht
    exact ⟨by simpa using ht, good_one d2 ht⟩
  | [a, b], _ =>
    have a2 := h2 a (by simp)
    have hab : a ∣ b := (List.pairwise_cons.mp hd).1 b (by simp)
    have e : F.tot [a, b] = a * a * (a * b) := by
      show Nat.gcd a a * (Nat.gcd a b * 1) * (Nat.gcd b a * (Nat.gcd b b * 1) * 1) = _
      rw [Nat.gcd_self, Nat.gcd_self, Nat.gcd_eq_left hab, Nat.gcd_eq_right hab]
      simp
    obtain ⟨k, rfl⟩ := hab
    rw [e] at ht
    have k1 : 1 ≤ k := by
      have := h2 (a * k) (by simp)
      rcases Nat.eq_zero_or_pos k with z | z
      · rw [z] at this; omega
      · exact z
    have e2 : a * a * (a * (a * k)) = a * a * a * a * k := by grind
    rw [e2] at ht
    have a4 : a ≤ 4 := by
      apply Classical.byContradiction
      intro c
      have h5 : 5 ≤ a := by omega
      have := Nat.mul_le_mul (Nat.mul_le_mul (Nat.mul_le_mul (Nat.mul_le_mul h5 h5) h5) h5) k1
      omega
    have ha : a = 2 ∨ a = 3 ∨ a = 4 := by omega
    rcases ha with rfl | rfl | rfl
    · have hk : k < 33 := by omega
      have := List.all_eq_true.mp ok_2 k (List.mem_range.mpr hk)
      rw [Bool.or_eq_true, decide_eq_true_eq] at this
      have hb : ∀ r ∈ [2, 2 * k], r ≤ 520 := by simp; omega
      exact ⟨hb, fin _ h2 hb (this.resolve_left (by omega))⟩
    · have hk : k < 7 := by omega
      have := List.all_eq_true.mp ok_3 k (List.mem_range.mpr hk)
      rw [Bool.or_eq_true, decide_eq_true_eq] at this
      have hb : ∀ r ∈ [3, 3 * k], r ≤ 520 := by simp; omega
      exact ⟨hb, fin _ h2 hb (this.resolve_left (by omega))⟩
    · have hk : k < 3 := by omega
      have := List.all_eq_true.mp ok_4 k (List.mem_range.mpr hk)
      rw [Bool.or_eq_true, decide_eq_true_eq] at this
      have hb : ∀ r ∈ [4, 4 * k], r ≤ 520 := by simp; omega
      exact ⟨hb, fin _ h2 hb (this.resolve_left (by omega))⟩
  | [a, b, c], _ =>
    have a2 := h2 a (by simp)
    have b2 := h2 b (by simp)
    have c2 := h2 c (by simp)
    have hab : a ∣ b := (List.pairwise_cons.mp hd).1 b (by simp)
    have hac : a ∣ c := (List.pairwise_cons.mp hd).1 c (by simp)
    have hbc : b ∣ c := (List.pairwise_cons.mp (List.pairwise_cons.mp hd).2).1 c (by simp)
    have e : F.tot [a, b, c] = (a * a * a) * (a * b * b) * (a * b * c) := by
      show Nat.gcd a a * (Nat.gcd a b * (Nat.gcd a c * 1)) * (Nat.gcd b a * (Nat.gcd b b * (Nat.gcd b c * 1)) * (Nat.gcd c a * (Nat.gcd c b * (Nat.gcd c c * 1)) * 1)) = _
      rw [Nat.gcd_self, Nat.gcd_self, Nat.gcd_self, Nat.gcd_eq_left hab, Nat.gcd_eq_right hab, Nat.gcd_eq_left hac, Nat.gcd_eq_right hac, Nat.gcd_eq_left hbc, Nat.gcd_eq_right hbc]
      grind
    rw [e] at ht
    have key : a = 2 ∧ b = 2 ∧ c = 2 := by
      have ab : 2 ≤ b := b2
      refine ⟨?_, ?_, ?_⟩
      · apply Classical.byContradiction
        intro z
        have a3 : 3 ≤ a := by omega
        have := Nat.mul_le_mul (Nat.mul_le_mul (Nat.mul_le_mul (Nat.mul_le_mul a3 a3) a3) (Nat.mul_le_mul (Nat.mul_le_mul a3 b2) b2)) (Nat.mul_le_mul (Nat.mul_le_mul a3 b2) c2)
        omega
      · apply Classical.byContradiction
        intro z
        have b3 : 3 ≤ b := by omega
        have := Nat.mul_le_mul (Nat.mul_le_mul (Nat.mul_le_mul (Nat.mul_le_mul a2 a2) a2) (Nat.mul_le_mul (Nat.mul_le_mul a2 b3) b3)) (Nat.mul_le_mul (Nat.mul_le_mul a2 b3) c2)
        omega
      · apply Classical.byContradiction
        intro z
        have c3 : 3 ≤ c := by omega
        have := Nat.mul_le_mul (Nat.mul_le_mul (Nat.mul_le_mul (Nat.mul_le_mul a2 a2) a2) (Nat.mul_le_mul (Nat.mul_le_mul a2 b2) b2)) (Nat.mul_le_mul (Nat.mul_le_mul a2 b2) c3)
        omega
    obtain ⟨rfl, rfl, rfl⟩ := key
    exact ⟨by simp, fin _ h2 (by simp) ok_222⟩
theorem good_mt {h : List Nat} (H : Hs h) (ht : F.tot h ≤ 520) {B : List (Nat × List Nat)} (HB : F.BP h B) : ((wysL h).filter (tB h)).length = F.mt B := by
  have hh := H.pos
  have Hh : Ho (F.IN h) := ⟨by simpa using H.len, fun x hx => by
    obtain ⟨n, hn, rfl⟩ := List.mem_map.mp hx
    have a1 := H.pos n hn
    have a2 := H.lt n hn
    omega⟩
  have O : LOk (F.IN h) ((F.tr h).map F.IN) := ⟨by
    rw [List.nodup_iff_pairwise_ne, List.pairwise_map]
    exact List.Pairwise.imp (fun h e => h (IN_inj e)) (tr_nd h), fun x => by
    rw [List.mem_map, th_thr]
    exact ⟨fun ⟨y, hy, e⟩ => ⟨y, e.symm, thr_tr.mp hy⟩, fun ⟨y, e, hy⟩ => ⟨y, thr_tr.mpr hy, e.symm⟩⟩⟩
  obtain ⟨R, nm, Q, r2, dv⟩ := names_ex (grp Hh O)
  obtain ⟨nm2, Q2, _⟩ := nmd_house Hh O
  have r1 : ∀ r ∈ R, 1 ≤ r := fun r hr => by have := r2 r hr; omega
  have ef : F.frm R = F.frm h := F.frm_cnt r1 hh fun m _ => by rw [← Q.cnt r1 m, ← Q2.cnt hh m]
  have pv : ∀ q, F.prm q → (F.PV q R).Perm (F.PV q h) := fun q hq => by
    have p1 := (F.frm_is r1).pv q hq
    have p2 := (F.frm_is hh).pv q hq
    rw [ef] at p1
    exact p1.symm.trans p2
  have et : F.tot R = F.tot h := F.vp_eq (F.tot_pos r1) (F.tot_pos hh) fun q hq => by
    rw [F.tot_vp r1 hq, F.tot_vp hh hq, ← F.mn_pos, ← F.mn_pos (h.map (F.vp q))]
    exact F.mn_perm (pv q hq)
  obtain ⟨c1, c2, c3⟩ := chain_good r2 dv (by rw [et]; exact ht)
  have hR : F.Y.Hq (F.IN R) := ⟨by simp; omega, fun x hx => by
    obtain ⟨n, hn, rfl⟩ := List.mem_map.mp hx
    have a1 := r1 n hn
    have a2 := c2 n hn
    have : (520 : Int) ≤ 10 ^ 38 := by decide
    omega⟩
  have hK : F.Y.Hq (F.IN h) := ⟨by simpa using H.len, fun x hx => by
    obtain ⟨n, hn, rfl⟩ := List.mem_map.mp hx
    have a1 := H.pos n hn
    have a2 := H.lt n hn
    have : (1000000 : Int) ≤ 10 ^ 38 := by decide
    omega⟩
  obtain ⟨ψ, Bj⟩ := bij Hh O Q hR hK
  rw [good_eq Bj hh r1, c3]
  have := F.BP.uniq HB (bp_of r2 dv c2) fun q hq => (pv q hq).symm
  rw [this]
end K61
namespace K61
open PySem Pu L2
/-! ### due, told, the law -/
theorem N_hI (h : List Nat) : F.N h = T (hI h) := by simp [-po_comp, F.N, hI]
theorem zpr_pd : ∀ xs : List Nat, Z.pr (xs.map fun n : Nat => (n : Int)) = (F.pd xs : Nat)
  | [] => rfl
  | x :: xs => by
    show (x : Int) * Z.pr _ = ((x * F.pd xs : Nat) : Int)
    rw [zpr_pd xs, Int.natCast_mul]
theorem cnt_tot (h : List Nat) : Z.cnt (hI h) (hI h) = (F.tot h : Nat) := by
  unfold Z.cnt F.tot
  rw [← zpr_pd, List.map_map]
  congr 1
  unfold hI
  rw [List.map_map]
  refine List.map_congr_left fun a _ => ?_
  show Z.cG (a : Int) (h.map fun n : Nat => (n : Int)) = ((F.pd (h.map fun b => Nat.gcd a b) : Nat) : Int)
  unfold Z.cG
  rw [← zpr_pd, List.map_map, List.map_map]
  rfl
theorem hs_of {h : List Nat} (hl : h.length ≤ 6) (hh : ∀ x ∈ h, 1 ≤ x ∧ x ≤ 10 ^ 6) : Hs h := ⟨fun x hx => (hh x hx).1, hl, fun x hx => (hh x hx).2⟩
theorem tot_le {h : List Nat} (hl : h.length ≤ 6) (hh : ∀ x ∈ h, 1 ≤ x ∧ x ≤ 10 ^ 6) : F.tot h ≤ 2 ^ 1000 := by
  unfold F.tot
  have := F.pd_le (B := 120) (l := h.map fun a => F.pd (h.map fun b => Nat.gcd a b)) fun y hy => by
    obtain ⟨a, ha, rfl⟩ := List.mem_map.mp hy
    have := F.pd_le (B := 20) (l := h.map fun b => Nat.gcd a b) fun x hx => by
      obtain ⟨b, hb, rfl⟩ := List.mem_map.mp hx
      exact Nat.le_trans (Nat.gcd_le_left _ (hh a ha).1) (Nat.le_trans (hh a ha).2 (by decide))
    rw [List.length_map] at this
    exact Nat.le_trans this (Nat.pow_le_pow_right (by decide) (by omega))
  rw [List.length_map] at this
  exact Nat.le_trans this (Nat.pow_le_pow_right (by decide) (by omega))
theorem due_ok {X : Exn → En → Prop} {h : List Nat} (hl : h.length ≤ 6) (hh : ∀ x ∈ h, 1 ≤ x ∧ x ≤ 10 ^ 6) {B : List (Nat × List Nat)} (HB : F.BP h B) : Wp X (m__law_due [.v (F.N h)]) fun rv _ => rv = .v (.int (F.mt B : Nat)) := by
  have h1 : ∀ x ∈ h, 1 ≤ x := fun x hx => (hh x hx).1
  refine po_mono (F.seen_ok hl hh (F.tot h) (tot_le hl hh) fun X => ?_) ?_
  · rw [N_hI]
    refine po_mono (Z.counted_ok (zhs (hs_of hl hh))) ?_
    rintro _ _ rfl
    rw [cnt_tot]
  · rintro _ _ ⟨ps, S, zz, hz, rfl⟩
    have e := F.due_eq h1 HB S hz
    have bpos : 0 < F.pd (ps.map fun p => F.kp (fun k => p ^ k) (h.map (F.vp p)) (zz p)) := F.pd_pos fun y hy => by
      obtain ⟨p, hp, rfl⟩ := List.mem_map.mp hy
      refine F.pd_pos fun y hy => ?_
      obtain ⟨x, _, rfl⟩ := List.mem_map.mp hy
      split
      · have : ∀ n, 1 ≤ F.upk (fun k => p ^ k) n := fun n => by
          induction n with
          | zero => exact Nat.le_refl _
          | succ n ih => exact Nat.mul_pos ih (Nat.pow_pos (by have := (S.p p hp).1.1; omega))
        exact this _
      · exact Nat.le_refl _
    rw [e]
    generalize F.pd (ps.map fun p => F.kp (fun k => p ^ k) (h.map (F.vp p)) (zz p)) = D at bpos ⊢
    rw [Nat.mul_mod_left, Nat.mul_div_cancel _ bpos]
    rfl
/-- what is told is what is due -/
theorem tells {X : Exn → En → Prop} {h : List Nat} (hl : h.length ≤ 6) (hh : ∀ x ∈ h, 1 ≤ x ∧ x ≤ 10 ^ 6) {B : List (Nat × List Nat)} (HB : F.BP h B) : Wp X (m__law_tells [.v (F.N h), .v (.int (F.mt B : Nat))]) fun rv _ => rv = .v (.bool true) := by
  refine po_mono (F.tells_ok hl hh (F.mt B)) ?_
  rintro _ _ ⟨B', HB', rfl⟩
  rw [F.BP.uniq HB' HB fun q _ => List.Perm.refl _]
  simp [-po_comp]
theorem bp_ex {h : List Nat} (hl : h.length ≤ 6) (hh : ∀ x ∈ h, 1 ≤ x ∧ x ≤ 10 ^ 6) : ∃ B, F.BP h B := by
  have w := F.mt_ok (X := fun _ _ => False) hl hh
  simp only [wp_eq] at w
  cases hm : m_many_turnings [.v (F.N h)] with
  | ok a z =>
    rw [hm] at w
    obtain ⟨B, HB, _⟩ := w
    exact ⟨B, HB⟩
  | ex e z =>
    rw [hm] at w
    exact w.elim
  | no =>
    rw [hm] at w
    exact w.elim
theorem six_ones {X : Exn → En → Prop} : Wp X (m__law_tells [.v (F.N [1, 1, 1, 1, 1, 1]), .v (.int (1 : Nat))]) fun rv _ => rv = .v (.bool true) := by
  have hl : ([1, 1, 1, 1, 1, 1] : List Nat).length ≤ 6 := by decide
  have hh : ∀ x ∈ ([1, 1, 1, 1, 1, 1] : List Nat), 1 ≤ x ∧ x ≤ 10 ^ 6 := by decide
  obtain ⟨B, HB⟩ := bp_ex hl hh
  have e : B = [] := by
    cases B with
    | nil => rfl
    | cons x B =>
      obtain ⟨p, _, _, ne⟩ := HB.a x (List.mem_cons_self ..)
      exfalso
      apply ne
      have v1 : F.vp x.1 1 = 0 := F.vp_one p.1
      unfold F.PV
      simp [-po_comp, v1]
  have := tells (X := X) hl hh HB
  rw [e] at this
  exact this
end K61
namespace K61
open PySem Pu L2
theorem law_true (ns : List Int) (h : ns.length ≤ 63) (hb : ∀ z ∈ ns, Builtin.Int.intBits z ≤ 1048576) : ∃ r, m_law [.v (.list (ns.map .int))] = .ok (.v (.bool true)) r := by
  refine po_true ?_
  refine po_fnK fun Y K hY hK _ => ?_
  unfold b_law
  obtain ⟨S0, hS0⟩ : ∃ S0 : D, S0 = .list (ns.map .int) := ⟨_, rfl⟩
  refine po_step fun K1 h1 _ _ _ => ?_
  simp [-po_comp]
  refine po_mono (V.pen_start ns) ?_
  rintro _ _ ⟨cs, c, rfl, hp⟩
  simp [-po_comp]
  refine h1 _ ?_
  rw [← hS0]
  refine po_step fun K2 h2 _ _ _ => ?_
  simp [-po_comp]
  refine po_mono (few_ways_ok (most := 520) hp (by omega) (by decide)) ?_
  rintro _ _ ⟨h, c, t, rfl, ⟨H, hc⟩, rfl, hp⟩
  simp [-po_comp]
  refine h2 _ ?_
  have ZH := zhs H
  have hc : Z.cnt (hI h) (hI h) ≤ 520 := hc
  have htot : F.tot h ≤ 520 := by
    have := cnt_tot h
    omega
  have hpr : St.prd h ≤ 520 := by have := cnt_ge H; omega
  have hl : (wysL h).length ≤ 520 := Z.sixle (by rw [Z.wyF_len _ fun o ho => (ZH.2 o ho).1]; exact hc)
  have hh : ∀ x ∈ h, 1 ≤ x ∧ x ≤ 10 ^ 6 := fun x hx => ⟨H.pos x hx, H.lt x hx⟩
  obtain ⟨B, HB⟩ := bp_ex H.len hh
  have gm := good_mt H htot HB
  refine po_step fun K3 h3 _ _ _ => ?_
  simp [-po_comp]
  refine po_mono (lows_ok H hpr) ?_
  rintro _ _ ⟨ps, rfl, hp1, hp2⟩
  simp [-po_comp]
  refine h3 _ ?_
  have lth : ∀ a ∈ lowL h ps, St.Th h a := fun a ha => by
    obtain ⟨p, hp, ha⟩ := List.mem_flatMap.mp ha
    exact St.few_th (hp1 p hp).1 h H.pos a (List.mem_of_mem_drop ha)
  have lne : lowL h ps ≠ [] → h ≠ [] := fun q e => by
    subst e
    refine q ?_
    unfold lowL
    refine List.flatMap_eq_nil_iff.mpr fun p hp => ?_
    simp [-po_comp, St.few]
  refine po_step fun K4 h4 _ _ _ => ?_
  simp [-po_comp]
  refine po_LF1 (f := fun I => WD h h I) (g := fun I => WD h h I) (p := tB h) (wysL h) ?_ (by simp [-po_comp, noOwn_cons]) (by omega) ?_ ?_
  · simp [-po_comp]
    refine po_mono (Z.all_ok ZH hc) ?_
    rintro _ _ rfl
    simp [-po_comp, Z.allW]
  · intro I hi
    have W := wysL_way H.pos hi
    simp [-po_comp]
    refine po_mono (falls_ok H W lth lne) ?_
    rintro _ _ rfl
    simp [-po_comp]
    have key : tB h I = !decide (∃ a ∈ lowL h ps, St.led h h I a = St.nrm h fun _ => 0) := by
      obtain ⟨S, F, hS⟩ := St.lam_ex H.pos (A := I) fun a ha => (W.th a ha).1
      have M : St.Img h h I S := ⟨F, hS⟩
      have t1 := St.onto_iff H.pos H.pos W M
      have t2 := St.turn_iff H.pos W M (fun p hp => (hp1 p hp).1) hp2
      rw [Bool.eq_iff_iff, tB_iff, ← t1, t2, Bool.not_eq_true', decide_eq_false_iff_not]
      exact ⟨fun q ⟨a, ha, e⟩ => q a ha e, fun q a ha e => q ⟨a, ha, e⟩⟩
    rw [key]
    simp [-po_comp]
  obtain ⟨Gl, eGl⟩ : ∃ Gl : List D, Gl = ((wysL h).filter (tB h)).map fun I => WD h h I := ⟨_, rfl⟩
  have gl : Gl.length = F.mt B := by rw [eGl, List.length_map, gm]
  obtain ⟨Lw, eLw⟩ : ∃ Lw : D, Lw = .list (TL (lowL h ps)) := ⟨_, rfl⟩
  rw [← eGl, ← eLw]
  simp [-po_comp]
  refine h4 _ ?_
  refine po_step fun K5 h5 _ _ _ => ?_
  rw [← N_hI]
  simp [-po_comp, gl]
  refine po_mono (tells H.len hh HB) ?_
  rintro _ _ rfl
  simp [-po_comp]
  refine po_mono (due_ok H.len hh HB) ?_
  rintro _ _ rfl
  simp [-po_comp, gl]
  refine h5 _ ?_
  refine po_step fun K6 h6 _ _ _ => ?_
  simp [-po_comp]
  refine po_mono (V.take_ok (n := 3) hp (by omega) (by decide) (by decide +kernel)) ?_
  rintro _ _ ⟨k, c, t, rfl, k1, rfl, hp⟩
  simp [-po_comp]
  refine ⟨by omega, ?_⟩
  have ek : (2 + (k : Int)).toNat = 2 + k := by omega
  rw [ek]
  refine po_rngK (fun i r => ∃ (c : Ct) (s5 s6 : Sl), r = [.v S0, .o c, .v (F.N h), .v Lw, .v (.list Gl), s5, s6, .unk, .unk, .unk] ∧ V.PenT cs (100 + 20 * i) c ∧ s5.isIo = false ∧ s6.isIo = false) (2 + k) _ ⟨c, _, _, rfl, hp.le (by omega), rfl, rfl⟩ ?_ ?_
  · rintro i r hi ⟨c, s5, s6, rfl, hp, q5, q6⟩
    refine ⟨[.v S0, .o c, .v (F.N h), .v Lw, .v (.list Gl), .v (.int (0 + (i : Nat))), s6, .unk, .unk, .unk], by simp [-po_comp, q5], fun K7 h7 _ _ _ => ?_⟩
    refine po_step fun K8 h8 _ _ _ => ?_
    simp [-po_comp]
    refine po_mono (V.great_ok hp (by omega)) ?_
    rintro _ _ ⟨g, c, t, rfl, gl, gh, rfl, hp⟩
    have gh : ∀ x ∈ g, 1 ≤ x ∧ x ≤ 10 ^ 6 := gh
    obtain ⟨B, HB⟩ := bp_ex gl gh
    have eN : V.N g = F.N g := rfl
    rw [eN]
    simp [-po_comp, q6]
    refine h8 _ ?_
    simp [-po_comp]
    refine po_mono (due_ok gl gh HB) ?_
    rintro _ _ rfl
    simp [-po_comp]
    refine po_mono (tells gl gh HB) ?_
    rintro _ _ rfl
    simp [-po_comp]
    exact h7 _ ⟨c, .v (.int (i : Nat)), .v (F.N g), by simp, hp.le (by omega), rfl, rfl⟩
  · rintro r ⟨c, s5, s6, rfl, hp, q5, q6⟩
    refine h6 _ ?_
    refine po_step fun K7 h7 _ _ _ => ?_
    simp [-po_comp]
    refine po_mono (V.take_ok (n := 6) hp (by omega) (by decide) (by decide +kernel)) ?_
    rintro _ _ ⟨j, c, t, rfl, j1, rfl, hp⟩
    obtain ⟨o, eo, o1, o2⟩ : ∃ o : Nat, [PyData.int 524288, .int 531441, .int 999983, .int 390625, .int 994009, .int 1000000][j]? = some (.int (o : Int)) ∧ 1 ≤ o ∧ o ≤ 10 ^ 6 := by
      match j, j1 with
      | 0, _ => exact ⟨524288, rfl, by decide, by decide⟩
      | 1, _ => exact ⟨531441, rfl, by decide, by decide⟩
      | 2, _ => exact ⟨999983, rfl, by decide, by decide⟩
      | 3, _ => exact ⟨390625, rfl, by decide, by decide⟩
      | 4, _ => exact ⟨994009, rfl, by decide, by decide⟩
      | 5, _ => exact ⟨1000000, rfl, by decide, by decide⟩
    simp [-po_comp, eo]
    refine h7 _ ?_
    refine po_step fun K8 h8 _ _ _ => ?_
    simp [-po_comp]
    refine po_mono (V.take_ok (n := 7) hp (by omega) (by decide) (by decide +kernel)) ?_
    rintro _ _ ⟨w, c, t, rfl, w1, rfl, hp⟩
    simp [-po_comp]
    refine ⟨by omega, ?_⟩
    obtain ⟨g, eg⟩ : ∃ g : List Nat, g = List.replicate w o := ⟨_, rfl⟩
    have eN : PyData.tuple (List.replicate w (PyData.int (o : Int))) = F.N g := by
      rw [eg]
      simp [-po_comp, F.N]
    rw [eN]
    refine h8 _ ?_
    have gl : g.length ≤ 6 := by rw [eg]; simp [-po_comp]; omega
    have gh : ∀ x ∈ g, 1 ≤ x ∧ x ≤ 10 ^ 6 := fun x hx => by
      rw [eg] at hx
      rw [(List.mem_replicate.mp hx).2]
      exact ⟨o1, o2⟩
    obtain ⟨B, HB⟩ := bp_ex gl gh
    simp [-po_comp]
    refine po_mono (due_ok gl gh HB) ?_
    rintro _ _ rfl
    simp [-po_comp]
    refine po_mono (tells gl gh HB) ?_
    rintro _ _ rfl
    simp [-po_comp]
    refine po_mono six_ones ?_
    rintro _ _ rfl
    simp [-po_comp]
    exact hK _ _ _ rfl rfl
end K61
open PySem PySem.W PySem.Calls PyProof.Rows
theorem PySem.Challenge.cw_commonhouse_k61_turnings_counted_holds : PySem.Challenge.rw_commonhouse_k61_turnings_counted.Holds := by
  w_on; o_law
  refine HandSHeadRun.head_any (r := OpenLaw.row PySem.Challenge.rw_commonhouse_k61_turnings_counted) (q := view (OpenLaw.row PySem.Challenge.rw_commonhouse_k61_turnings_counted).prog [26]) (H := K61.hk) (ob := K61.ob) (M := 18200) (loose := K61.lo) (d := HandSHeadRun.topDef (OpenLaw.row PySem.Challenge.rw_commonhouse_k61_turnings_counted).prog 26) (kwd := []) K61.ob_eq
    (by kernel_rfl) (fun s => by kernel_rfl) K61.run (by kernel_rfl) (by kernel_rfl) (by kernel_rfl) (by rfl) (by first | assumption | decide +kernel) (by decide +kernel) ⟨rfl, rfl, rfl, rfl, rfl, by decide +kernel⟩ ?hw ?hc
  case hw => w_witness2
  case hc =>
    refine Pu.walk_ofP (l := PySem.Challenge.rw_commonhouse_k61_turnings_counted) (n := 63) (k := 6) (x := "_law_script") rfl (by decide) (by kernel_rfl) ⟨⟨rfl, by decide, by decide⟩, rfl, by decide⟩ (by kernel_rfl) ?F
    intro w mg fa h Y G hmg0
    obtain ⟨K, KX, c, l⟩ := Y
    have hmg : mg ("law" : PySem.Str) = some (.ref fa) := by
      have e : (HandSHeadRun.topDef (OpenLaw.row PySem.Challenge.rw_commonhouse_k61_turnings_counted).prog 26).name = ("law" : PySem.Str) := by kernel_rfl
      rw [← e]
      exact hmg0
    obtain ⟨fd, hb, hF⟩ := K61.facts (P := (PySem.Challenge.rw_commonhouse_k61_turnings_counted).prog) (w := w) KX G hmg (by rfl) c l
    have cs := l.cs KX
    exact ⟨K, fd, Pu.csN K61.ln K, _, KX, cs.1, cs.2.1, cs.2.2, hb, fun H a ns hl hb hH hS => K61.sp_law (K61.law_true ns hl hb) H a hS (Pu.tabs_start hH), hF⟩
