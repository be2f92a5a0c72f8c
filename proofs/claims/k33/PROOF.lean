import PyProof.Rows.All
import Wide.All
import OpenK.AllK
import Wide.FinOn
import HandS.Base
import HandS.Call
import HandS.List
import HandS.Comp
import HandS.Ends
import HandS.Dict
import HandS.Iter
import HandS.Text
import HandS.Exc
import HandS.ExcOwn
import HandS.Words
import HandS.WordsList
import HandS.WordsDict
import HandS.WordsExc
import HandS.Flow
import HandS.Wide
import HandS.IsInst
import HandS.Zip
import HandS.TupAny
import HandS.TupMul
import HandS.Style
import HandS.CallSlots
import HandS.Defaults
import PyProof.EqLayable
import PyProof.ReprReads
import HandS.HeadHook1
import HandS.ExcIs
import KE.KExcIs
import HandS.Lambda
import HandS.NoneIn
import KE.GoesEnum
import KE.GoesNew
import HandS.Small
import PyProof.ReprRoads
import HandS.RaiseMore
import HandS.Deep
import HandS.HeadHook3
import HandS.SetFor
import HandS.More
import KE.GoesZip
import KE.GoesMore
import HandS.ExcValue
import HandS.Strs
import HandS.SortInts
import HandS.ExcInit
import HandS.ExcField
import KE.KNestM
import KE.DataFind
import HandS.Conv
import KE.DatumOrd
import HandS.SortKw
import PyProof.StrBlock2
import HandS.Replace
import KE.SortData
import KE.KDictDisplayH
import HandS.SortOrd
import KE.KDictPairs
import KE.DataAny
import HandS.ListItems
import HandS.TupSets
import KE.KeyNested
import KE.KDictKeyed
import KE.KStateDown
import HandS.EndTab
import Lean
import HandS.Head0
import HandS.Head1
import HandS.Head2
import HandS.HeadEnd
import HandS.HeadHook2
import HandS.EndBits
import KE.GoesComp
import PySem.Challenge.RW_commonhouse_k33_whole_ways_are_a_house
set_option Elab.async false
set_option linter.all false
set_option maxRecDepth 100000
set_option maxHeartbeats 2000000
set_option autoImplicit false
set_option exponentiation.threshold 2000
namespace Pu
open PySem PySem.Spec PyProof.Rows L2
/-! ### data, results, slots -/
abbrev D := PySem.PyData
structure Exn where
  name : Str
  flds : List (Str × D)
/-- an item of a deep object: data, or a list of one's own -/
inductive Im where
  | v (d : D) | l (ds : List D)
/-- a deep object: a list, a tuple, a dict of items -/
inductive Nt where
  | l (its : List Im) | u (its : List Im) | d (kvs : List (Key × Im))
def Nt.its : Nt → List Im
  | .l its => its
  | .u its => its
  | .d kvs => kvs.map (·.2)
def Im.data : Im → D
  | .v d => d
  | .l ds => .list ds
def Nt.data : Nt → Option D
  | .l its => some (.list (its.map Im.data))
  | .u its => some (.tuple (its.map Im.data))
  | .d _ => none
/-- what an owned object holds -/
inductive Ct where
  | l (ds : List D) | d (kvs : List (Key × D)) | t (kvs : List (List Key × D)) | n (t : Nt)
/-- what is handed back: data that nobody changes, or an object of one's own -/
inductive RV where
  | v (d : D) | o (c : Ct)
/-- a slot: not known, data, an owned object, an owned object of the caller's; a reference that is kept, of whose object nothing is said -/
inductive Sl where
  | unk | v (d : D) | o (c : Ct) | io (c : Ct) | pin
abbrev En := List Sl
inductive Re (α : Type) where
  | ok (a : α) (r : En) | ex (e : Exn) (r : En) | no
abbrev M (α : Type) := En → Re α
def Re.bind {α β : Type} (r : Re α) (f : α → M β) : Re β := match r with
  | .ok a r => f a r
  | .ex e r => .ex e r
  | .no => .no
def M.bind {α β : Type} (m : M α) (f : α → M β) : M β := fun r => (m r).bind f
def M.ret {α : Type} (a : α) : M α := fun r => .ok a r
def M.no {α : Type} : M α := fun _ => .no
def M.opt {α : Type} (o : Option α) : M α := fun r => match o with
  | some a => .ok a r
  | none => .no
@[simp] theorem Re.bind_ok {α β : Type} (a : α) (r : En) (f : α → M β) : (Re.ok a r).bind f = f a r := rfl
@[simp] theorem Re.bind_ex {α β : Type} (e : Exn) (r : En) (f : α → M β) : (Re.ex e r : Re α).bind f = .ex e r := rfl
@[simp] theorem Re.bind_no {α β : Type} (f : α → M β) : (Re.no : Re α).bind f = .no := rfl
@[simp] theorem M.bind_ap {α β : Type} (m : M α) (f : α → M β) (r : En) : m.bind f r = (m r).bind f := rfl
@[simp] theorem M.ret_ap {α : Type} (a : α) (r : En) : M.ret a r = .ok a r := rfl
@[simp] theorem M.no_ap {α : Type} (r : En) : (M.no : M α) r = .no := rfl
@[simp] theorem M.opt_some {α : Type} (a : α) (r : En) : M.opt (some a) r = .ok a r := rfl
@[simp] theorem M.opt_none {α : Type} (r : En) : (M.opt none : M α) r = .no := rfl
def Po {α : Type} (X : Exn → En → Prop) (r : Re α) (k : α → En → Prop) : Prop := match r with
  | .ok a r => k a r
  | .ex e r => X e r
  | .no => False
theorem Po.bind {α β : Type} {X : Exn → En → Prop} {r : Re α} {f : α → M β} {k : β → En → Prop} (h : Po X (r.bind f) k) : Po X r fun a r' => Po X (f a r') k := by
  cases r <;> exact h
theorem Po.mono {α : Type} {X X' : Exn → En → Prop} {r : Re α} {k k' : α → En → Prop} (h : Po X r k) (hX : ∀ e r, X e r → X' e r) (hk : ∀ a r, k a r → k' a r) : Po X' r k' := by
  cases r with
  | ok a r => exact hk _ _ h
  | ex e r => exact hX _ _ h
  | no => exact h
/-! ### heaps -/
/-- all stays; tables of code objects may grow -/
structure Ex (H H' : Hp) : Prop where
  at_ : ∀ a o, H a = some o → (∀ ps, o ≠ .tbl ps) → H' a = some o
  tb : ∀ a ps, H a = some (.tbl ps) → ∃ more, H' a = some (.tbl (ps ++ more))
theorem Ex.of {H H' : Hp} (h : ∀ a o, H a = some o → H' a = some o) : Ex H H' := ⟨fun a o e _ => h a o e, fun a ps e => ⟨#[], by rw [Array.append_empty]; exact h a _ e⟩⟩
theorem Ex.refl (H : Hp) : Ex H H := .of fun _ _ h => h
theorem Ex.trans {H H1 H2 : Hp} (a : Ex H H1) (b : Ex H1 H2) : Ex H H2 := ⟨fun x o h n => b.at_ x o (a.at_ x o h n) n, fun x ps h => by
  obtain ⟨m1, h1⟩ := a.tb x ps h
  obtain ⟨m2, h2⟩ := b.tb x _ h1
  exact ⟨m1 ++ m2, by rw [h2, Array.append_assoc]⟩⟩
theorem Ex.new {H : Hp} {p : Addr} {o : HO} (h : H p = none) : Ex H (upd H p o) := .of fun a u e => by
  rw [upd_ne (ne_of_none e h)]
  exact e
theorem Ex.some {H H' : Hp} {p : Addr} {o : HO} (e : Ex H H') (h : H p = some o) : ∃ o', H' p = some o' := by
  by_cases n : ∃ ps, o = .tbl ps
  · obtain ⟨ps, rfl⟩ := n
    obtain ⟨m, hm⟩ := e.tb p ps h
    exact ⟨_, hm⟩
  · exact ⟨o, e.at_ p o h fun ps z => n ⟨ps, z⟩⟩
theorem Ex.nn {H H' : Hp} {p : Addr} (e : Ex H H') (h : H' p = none) : H p = none := by
  cases h1 : H p with
  | none => rfl
  | some o =>
    obtain ⟨o', h2⟩ := e.some h1
    rw [h2] at h
    cases h
theorem Ex.mut {H H' : Hp} {p : Addr} {o : HO} (e : Ex H H') (h : H p = none) : Ex H (upd H' p o) := ⟨fun a u ha n => by
  rw [upd_ne (ne_of_none ha h)]
  exact e.at_ a u ha n, fun a ps ha => by
  rw [upd_ne (ne_of_none ha h)]
  exact e.tb a ps ha⟩
/-- the tables of code objects that are looked after -/
class TabT where
  T : PySem.W.Frag → List (Addr × Str)
theorem Ex.rd {H H' : Hp} {a : Addr} {u : HO} (e : Ex H H') (h : Rd H a u) (n : ∀ ps, u ≠ .tbl ps) : Rd H' a u := by
  rcases h with h | ⟨o, h⟩
  · exact Or.inl (e.at_ a _ h n)
  · exact Or.inr ⟨o, e.at_ a _ h fun ps z => nomatch z⟩
theorem Ex.l {K : PySem.W.Frag} {H H' : Hp} {a : Addr} {xs : List V} (e : Ex H H') (h : SqL K H a xs) : SqL K H' a xs := by
  rcases h with h | h
  · exact Or.inl (e.rd h fun ps z => nomatch z)
  · exact Or.inr h
theorem Ex.t {K : PySem.W.Frag} {H H' : Hp} {a : Addr} {xs : List V} (e : Ex H H') (h : SqT K H a xs) : SqT K H' a xs := by
  rcases h with h | h
  · exact Or.inl (e.rd h fun ps z => nomatch z)
  · exact Or.inr h
/-- an exception that was caught: its class, its dict -/
def CauO (cls : Value) (d : Option Addr) (a : Addr) : HO := .ext fun h => ∃ (oe : Obj) (vs : Array Value), h.get? a = some oe ∧ Zc cls d oe ∧ oe.data = .fields vs
theorem cau_ne {cls : Value} {d : Option Addr} {a : Addr} (ps : Array Value) : CauO cls d a ≠ .tbl ps := fun z => by
  unfold CauO at z
  cases z
/-- a tuple that is tracked -/
def SqU (H : Hp) (a : Addr) (xs : List V) : Prop := H a = some (.tup xs)
theorem SqU.s {K : PySem.W.Frag} {H : Hp} {a : Addr} {xs : List V} (h : SqU H a xs) : SqT K H a xs := .inl (.inl h)
instance {K : PySem.W.Frag} {H : Hp} {a : Addr} {xs : List V} : Coe (SqU H a xs) (SqT K H a xs) := ⟨SqU.s⟩
theorem Ex.u {H H' : Hp} {a : Addr} {xs : List V} (e : Ex H H') (h : SqU H a xs) : SqU H' a xs := e.at_ _ _ h fun ps z => nomatch z
def basicT : List String := ["int", "bool", "tuple", "list", "str", "dict"]
/-- the class nm of the program: isinstance asks its instances rightly -/
structure ExcK (K : PySem.W.Frag) (nm : Str) : Prop where
  c : ExcC K (He.ga K nm)
  t : ∀ T ∈ basicT, PySem.W.kitOne K (.ref (He.ga K nm)) (.type T) = some false
mutual
/-- v stands for the data d, by what is frozen -/
inductive Rp (K : PySem.W.Frag) (H : Hp) : V → D → Prop
  | non : Rp K H .non .none
  | bl (b : Bool) : Rp K H (.bl b) (.bool b)
  | int (i : Int) : Rp K H (.int i) (.int i)
  | str (x : Str) : Rp K H (.str x) (.str x)
  | lst {a : Addr} {xs : List V} {ds : List D} : SqL K H a xs → RpAll K H xs ds → Rp K H (.ref a) (.list ds)
  | tup {a : Addr} {xs : List V} {ds : List D} : SqU H a xs → RpAll K H xs ds → Rp K H (.ref a) (.tuple ds)
  | emp {a : Addr} : H a = some (.dK []) → Rp K H (.ref a) (.dict [])
  | exc0 {a : Addr} {nm : Str} : H a = some (CauO (.ref (He.ga K nm)) none a) → ExcK K nm → Rp K H (.ref a) (.dict [(.str nm, .none)])
  | excF {a dd : Addr} {nm : Str} {fs : List (Str × V)} {kv : List (D × D)} : H a = some (CauO (.ref (He.ga K nm)) (some dd) a) → H dd = some (.xd fs) → ExcK K nm → kv.map (·.1) = fs.map (fun p => PyData.str p.1) → RpAll K H (fs.map (·.2)) (kv.map (·.2)) → Rp K H (.ref a) (.dict ((.str nm, .none) :: kv))
  | dci {a : Addr} {od : Obj} {ks : List (Int × V)} {kv : List (Int × D)} {dd : List (D × D)} : H a = some (.frz od (.dK (ks.map fun p => ((Sum.inl p.1 : Key), p.2)))) → ks.map (·.1) = kv.map (·.1) → RpAll K H (ks.map (·.2)) (kv.map (·.2)) → kv ≠ [] → dd = kv.map (fun q => (PyData.int q.1, q.2)) → Rp K H (.ref a) (.dict dd)
inductive RpAll (K : PySem.W.Frag) (H : Hp) : List V → List D → Prop
  | nil : RpAll K H [] []
  | cons {v : V} {vs : List V} {d : D} {ds : List D} : Rp K H v d → RpAll K H vs ds → RpAll K H (v :: vs) (d :: ds)
end
mutual
theorem rp_dp0 {K : PySem.W.Frag} {H : Hp} : ∀ {v : V} {d : D}, Rp K H v d → d.hasDict = false → Dp K H v d
  | _, _, .non, _ => .non
  | _, _, .bl b, _ => .bl b
  | _, _, .int i, _ => .int i
  | _, _, .str x, _ => .str x
  | _, _, .lst h a, e => .lst h (rpa_dpa0 a (by simpa [PyData.hasDict] using e))
  | _, _, .tup h a, e => .tup h (rpa_dpa0 a (by simpa [PyData.hasDict] using e))
  | _, _, .emp _, e => by simp [PyData.hasDict] at e
  | _, _, .exc0 _ _, e => by simp [PyData.hasDict] at e
  | _, _, .excF _ _ _ _ _, e => by simp [PyData.hasDict] at e
  | _, _, .dci _ _ _ _ _, e => by simp [PyData.hasDict] at e
theorem rpa_dpa0 {K : PySem.W.Frag} {H : Hp} : ∀ {vs : List V} {ds : List D}, RpAll K H vs ds → PyData.hasDictAll ds = false → DpAll K H vs ds
  | _, _, .nil, _ => .nil
  | _, _, .cons h t, e => by
    simp only [PyData.hasDictAll, Bool.or_eq_false_iff] at e
    exact .cons (rp_dp0 h e.1) (rpa_dpa0 t e.2)
end
theorem rp_dp {K : PySem.W.Frag} {H : Hp} {v : V} {d : D} (h : Rp K H v d) (s : SeqAt.shaped d = true) : Dp K H v d := rp_dp0 h (PyData.hasDict_of_canLay d (SeqAt.canLay_of_shaped s))
mutual
theorem dp_mono {K : PySem.W.Frag} {H H' : Hp} (e : Ex H H') : ∀ {v : V} {d : D}, Rp K H v d → Rp K H' v d
  | _, _, .non => .non
  | _, _, .bl b => .bl b
  | _, _, .int i => .int i
  | _, _, .str x => .str x
  | _, _, .lst h a => .lst (e.l h) (dpa_mono e a)
  | _, _, .tup h a => .tup (e.u h) (dpa_mono e a)
  | _, _, .emp h => .emp (e.at_ _ _ h fun ps z => nomatch z)
  | _, _, .exc0 h x => .exc0 (e.at_ _ _ h cau_ne) x
  | _, _, .excF h h2 x y a => .excF (e.at_ _ _ h cau_ne) (e.at_ _ _ h2 fun ps z => nomatch z) x y (dpa_mono e a)
  | _, _, .dci h x a n w => .dci (e.at_ _ _ h fun ps z => nomatch z) x (dpa_mono e a) n w
theorem dpa_mono {K : PySem.W.Frag} {H H' : Hp} (e : Ex H H') : ∀ {vs : List V} {ds : List D}, RpAll K H vs ds → RpAll K H' vs ds
  | _, _, .nil => .nil
  | _, _, .cons h t => .cons (dp_mono e h) (dpa_mono e t)
end
theorem dpa_len {K : PySem.W.Frag} {H : Hp} : ∀ {vs : List V} {ds : List D}, RpAll K H vs ds → vs.length = ds.length
  | _, _, .nil => rfl
  | _, _, .cons _ t => congrArg Nat.succ (dpa_len t)
theorem dpa_get {K : PySem.W.Frag} {H : Hp} : ∀ {vs : List V} {ds : List D} {i : Nat} {d : D}, RpAll K H vs ds → ds[i]? = some d → ∃ v, vs[i]? = some v ∧ Rp K H v d
  | _, _, _, _, .nil, e => by simp at e
  | _, _, 0, _, .cons h _, e => by
    simp at e
    subst e
    exact ⟨_, rfl, h⟩
  | _, _, i + 1, d, .cons _ t, e => by
    obtain ⟨v, h1, h2⟩ := dpa_get (i := i) (d := d) t (by simpa using e)
    exact ⟨v, by simpa using h1, h2⟩
theorem dpa_app {K : PySem.W.Frag} {H : Hp} : ∀ {vs ws : List V} {ds es : List D}, RpAll K H vs ds → RpAll K H ws es → RpAll K H (vs ++ ws) (ds ++ es)
  | _, _, _, _, .nil, h => h
  | _, _, _, _, .cons h t, q => .cons h (dpa_app t q)
theorem dpa_take {K : PySem.W.Frag} {H : Hp} : ∀ (n : Nat) {vs : List V} {ds : List D}, RpAll K H vs ds → RpAll K H (vs.take n) (ds.take n)
  | 0, _, _, _ => .nil
  | _ + 1, _, _, .nil => .nil
  | n + 1, _, _, .cons h t => .cons h (dpa_take n t)
theorem dpa_drop {K : PySem.W.Frag} {H : Hp} : ∀ (n : Nat) {vs : List V} {ds : List D}, RpAll K H vs ds → RpAll K H (vs.drop n) (ds.drop n)
  | 0, _, _, h => h
  | _ + 1, _, _, .nil => .nil
  | n + 1, _, _, .cons _ t => dpa_drop n t
theorem dpa_set {K : PySem.W.Frag} {H : Hp} {v : V} {d : D} (h : Rp K H v d) : ∀ (i : Nat) {vs : List V} {ds : List D}, RpAll K H vs ds → RpAll K H (vs.set i v) (ds.set i d)
  | _, _, _, .nil => .nil
  | 0, _, _, .cons _ t => .cons h t
  | i + 1, _, _, .cons q t => .cons q (dpa_set h i t)
theorem dpa_rep {K : PySem.W.Frag} {H : Hp} {vs : List V} {ds : List D} (h : RpAll K H vs ds) : ∀ n : Nat, RpAll K H (List.replicate n vs).flatten (List.replicate n ds).flatten
  | 0 => .nil
  | n + 1 => by
    rw [List.replicate_succ, List.replicate_succ, List.flatten_cons, List.flatten_cons]
    exact dpa_app h (dpa_rep h n)
theorem dpa_ints {K : PySem.W.Frag} {H : Hp} : ∀ (ns : List Int), RpAll K H (ns.map V.int) (ns.map PyData.int)
  | [] => .nil
  | n :: ns => .cons (.int n) (dpa_ints ns)
/-- the pairs of a dict -/
inductive KvAll (K : PySem.W.Frag) (F : Hp) {κ : Type} : List (κ × V) → List (κ × D) → Prop
  | nil : KvAll K F [] []
  | cons {k : κ} {v : V} {d : D} {ks : List (κ × V)} {kvs : List (κ × D)} : Rp K F v d → KvAll K F ks kvs → KvAll K F ((k, v) :: ks) ((k, d) :: kvs)
theorem KvAll.mono {K : PySem.W.Frag} {F F' : Hp} {κ : Type} (e : Ex F F') : ∀ {ks : List (κ × V)} {kvs : List (κ × D)}, KvAll K F ks kvs → KvAll K F' ks kvs
  | _, _, .nil => .nil
  | _, _, .cons h t => .cons (dp_mono e h) (KvAll.mono e t)
/-- the values within an object -/
def valsO : Option HO → Option (List V)
  | some (.lst vs) => some vs
  | some (.tup vs) => some vs
  | some (.dK ks) => some (ks.map (·.2))
  | _ => none
/-- b is the inner list at place i of the object at a -/
def InnAt (H : Hp) (a : Addr) (c : Ct) (i : Nat) (b : Addr) : Prop := match c with
  | .n t => ∃ vs ds, valsO (H a) = some vs ∧ vs[i]? = some (.ref b) ∧ t.its[i]? = some (.l ds)
  | _ => False
def Inn (H : Hp) (a : Addr) (c : Ct) (b : Addr) : Prop := ∃ i, InnAt H a c i b
theorem Inn.cg {H H' : Hp} {a b : Addr} {c : Ct} (h : Inn H a c b) (e : H' a = H a) : Inn H' a c b := by
  obtain ⟨i, h⟩ := h
  refine ⟨i, ?_⟩
  cases c with
  | n t =>
    obtain ⟨vs, ds, h1, h2, h3⟩ := h
    exact ⟨vs, ds, by rw [e]; exact h1, h2, h3⟩
  | _ => exact h
theorem inn_l {H : Hp} {a b : Addr} {ds : List D} : ¬ Inn H a (.l ds) b := fun ⟨_, h⟩ => h
theorem inn_d {H : Hp} {a b : Addr} {ds : List (Key × D)} : ¬ Inn H a (.d ds) b := fun ⟨_, h⟩ => h
theorem inn_t {H : Hp} {a b : Addr} {ds : List (List Key × D)} : ¬ Inn H a (.t ds) b := fun ⟨_, h⟩ => h
/-- v stands for the item -/
def ItOk (K : PySem.W.Frag) (F H : Hp) (v : V) : Im → Prop
  | .v d => Rp K F v d
  | .l ds => ∃ b vs, v = .ref b ∧ H b = some (.lst vs) ∧ RpAll K F vs ds
inductive ItAll (K : PySem.W.Frag) (F H : Hp) : List V → List Im → Prop
  | nil : ItAll K F H [] []
  | cons {v : V} {vs : List V} {i : Im} {is : List Im} : ItOk K F H v i → ItAll K F H vs is → ItAll K F H (v :: vs) (i :: is)
theorem ItAll.len {K : PySem.W.Frag} {F H : Hp} : ∀ {vs : List V} {is : List Im}, ItAll K F H vs is → vs.length = is.length
  | _, _, .nil => rfl
  | _, _, .cons _ t => congrArg Nat.succ t.len
theorem ItAll.get {K : PySem.W.Frag} {F H : Hp} : ∀ {vs : List V} {is : List Im} {j : Nat} {i : Im}, ItAll K F H vs is → is[j]? = some i → ∃ v, vs[j]? = some v ∧ ItOk K F H v i
  | _, _, _, _, .nil, e => by simp at e
  | _, _, 0, _, .cons h _, e => by
    simp at e
    subst e
    exact ⟨_, rfl, h⟩
  | _, _, j + 1, i, .cons _ t, e => by
    obtain ⟨v, h1, h2⟩ := ItAll.get (j := j) (i := i) t (by simpa using e)
    exact ⟨v, by simpa using h1, h2⟩
theorem ItAll.mono {K : PySem.W.Frag} {F F' H H' : Hp} (e : Ex F F') : ∀ {vs : List V} {is : List Im}, ItAll K F H vs is → (∀ (j : Nat) (b : Addr) (ds : List D), vs[j]? = some (.ref b) → is[j]? = some (.l ds) → H' b = H b) → ItAll K F' H' vs is
  | _, _, .nil, _ => .nil
  | _, _, @ItAll.cons _ _ _ v vs i is h t, q => by
    refine .cons ?_ (ItAll.mono e t fun j b ds h1 h2 => q (j + 1) b ds (by simpa using h1) (by simpa using h2))
    cases i with
    | v d => exact dp_mono e h
    | l ds =>
      obtain ⟨b, ws, rfl, h1, h2⟩ := h
      exact ⟨b, ws, rfl, (q 0 b ds rfl rfl).trans h1, dpa_mono e h2⟩
/-- the object at a is the deep one, its values vs -/
def NtAt (H : Hp) (a : Addr) (vs : List V) : Nt → Prop
  | .l _ => H a = some (.lst vs)
  | .u _ => H a = some (.tup vs)
  | .d kvs => ∃ ks, H a = some (.dK ks) ∧ ks.map (·.1) = kvs.map (·.1) ∧ vs = ks.map (·.2)
theorem NtAt.vals {H : Hp} {a : Addr} {vs : List V} {t : Nt} (h : NtAt H a vs t) : valsO (H a) = some vs := by
  cases t with
  | l is => have h : H a = some (.lst vs) := h; rw [h]; rfl
  | u is => have h : H a = some (.tup vs) := h; rw [h]; rfl
  | d kvs =>
    obtain ⟨ks, h1, _, rfl⟩ := h
    rw [h1]; rfl
/-- the object at a holds c -/
def CtOk (K : PySem.W.Frag) (F H : Hp) (a : Addr) : Ct → Prop
  | .l ds => ∃ vs, H a = some (.lst vs) ∧ RpAll K F vs ds
  | .d kvs => ∃ ks, H a = some (.dK ks) ∧ KvAll K F ks kvs
  | .t kvs => ∃ ks, H a = some (.dT ks) ∧ KvAll K F ks kvs
  | .n t => ∃ vs, NtAt H a vs t ∧ ItAll K F H vs t.its ∧ ∀ (i j : Nat) (b : Addr), i ≠ j → InnAt H a (.n t) i b → InnAt H a (.n t) j b → False
/-- an inner list is there -/
theorem CtOk.innl {K : PySem.W.Frag} {F H : Hp} {a : Addr} {c : Ct} (h : CtOk K F H a c) {i : Nat} {b : Addr} (n : InnAt H a c i b) : ∃ ws, H b = some (.lst ws) := by
  cases c with
  | n t =>
    obtain ⟨vs, h1, h2, h3⟩ := h
    obtain ⟨us, ds, g1, g2, g3⟩ := n
    rw [h1.vals] at g1
    cases g1
    obtain ⟨w, w1, b', ws, rfl, w2, w3⟩ := h2.get g3
    rw [g2] at w1
    cases w1
    exact ⟨ws, w2⟩
  | _ => exact n.elim
theorem CtOk.inn {K : PySem.W.Frag} {F H : Hp} {a : Addr} {c : Ct} (h : CtOk K F H a c) {b : Addr} (n : Inn H a c b) : ∃ ws, H b = some (.lst ws) := h.innl n.choose_spec
theorem CtOk.mono {K : PySem.W.Frag} {F F' H H' : Hp} {a : Addr} {c : Ct} (h : CtOk K F H a c) (e : Ex F F') (eH : H' a = H a) (eI : ∀ b, Inn H a c b → H' b = H b) : CtOk K F' H' a c := by
  cases c with
  | n t =>
    obtain ⟨vs, h1, h2, h3⟩ := h
    refine ⟨vs, ?_, h2.mono e fun j b ds g1 g2 => eI b ⟨j, vs, ds, h1.vals, g1, g2⟩, fun i j b ne g1 g2 => h3 i j b ne ?_ ?_⟩
    · cases t with
      | l is => exact eH.trans h1
      | u is => exact eH.trans h1
      | d kvs =>
        obtain ⟨ks, z1, z2, z3⟩ := h1
        exact ⟨ks, eH.trans z1, z2, z3⟩
    · obtain ⟨us, ds, x1, x2, x3⟩ := g1
      exact ⟨us, ds, by rw [← eH]; exact x1, x2, x3⟩
    · obtain ⟨us, ds, x1, x2, x3⟩ := g2
      exact ⟨us, ds, by rw [← eH]; exact x1, x2, x3⟩
  | l ds =>
    obtain ⟨vs, h1, h2⟩ := h
    exact ⟨vs, eH.trans h1, dpa_mono e h2⟩
  | d kvs =>
    obtain ⟨ks, h1, h2⟩ := h
    exact ⟨ks, eH.trans h1, KvAll.mono e h2⟩
  | t kvs =>
    obtain ⟨ks, h1, h2⟩ := h
    exact ⟨ks, eH.trans h1, KvAll.mono e h2⟩
theorem CtOk.there' {K : PySem.W.Frag} {F H : Hp} {a : Addr} {c : Ct} (h : CtOk K F H a c) : ∃ o, H a = some o ∧ ∀ ps, o ≠ .tbl ps := by
  cases c with
  | n t =>
    obtain ⟨vs, h1, h2⟩ := h
    cases t with
    | l is => exact ⟨_, h1, fun ps z => nomatch z⟩
    | u is => exact ⟨_, h1, fun ps z => nomatch z⟩
    | d kvs =>
      obtain ⟨ks, z1, _⟩ := h1
      exact ⟨_, z1, fun ps z => nomatch z⟩
  | l ds =>
    obtain ⟨vs, h1, h2⟩ := h
    exact ⟨_, h1, fun ps z => nomatch z⟩
  | d kvs =>
    obtain ⟨ks, h1, h2⟩ := h
    exact ⟨_, h1, fun ps z => nomatch z⟩
  | t kvs =>
    obtain ⟨ks, h1, h2⟩ := h
    exact ⟨_, h1, fun ps z => nomatch z⟩
theorem CtOk.there {K : PySem.W.Frag} {F H : Hp} {a : Addr} {c : Ct} (h : CtOk K F H a c) : ∃ o, H a = some o := by
  obtain ⟨o, h1, _⟩ := h.there'
  exact ⟨o, h1⟩
theorem tabs_upd {T : List (Addr × Str)} {H : Hp} {a : Addr} {o u : HO} (t : LamX.Tabs T H) (h1 : H a = some u) (n1 : ∀ ps, u ≠ .tbl ps) (n2 : ∀ c q, u ≠ LamX.CodeO c q) : LamX.Tabs T (upd H a o) := by
  intro p hp
  obtain ⟨ps, e1, e2, e3⟩ := t p hp
  refine ⟨ps, ?_, e2, fun pos cv hcv => ?_⟩
  · rw [upd_ne fun z => n1 ps (by rw [z, h1] at e1; exact Option.some.inj e1)]
    exact e1
  · obtain ⟨c, g1, g2⟩ := e3 pos cv hcv
    refine ⟨c, g1, ?_⟩
    rw [upd_ne fun z => n2 c p.2 (by rw [z, h1] at g2; rw [z]; exact Option.some.inj g2)]
    exact g2
theorem tabs_lst {T : List (Addr × Str)} {H : Hp} {a : Addr} {o : HO} {vs : List V} (t : LamX.Tabs T H) (h : H a = some (.lst vs)) : LamX.Tabs T (upd H a o) := tabs_upd t h (fun ps z => nomatch z) (fun c q z => by unfold LamX.CodeO at z; cases z)
theorem tabs_new {T : List (Addr × Str)} {H : Hp} {a : Addr} {o : HO} (t : LamX.Tabs T H) (h : H a = none) : LamX.Tabs T (upd H a o) := t.ext fun b u e => by rw [upd_ne (ne_of_none e h)]; exact e
theorem tabs_put {T : List (Addr × Str)} {K : PySem.W.Frag} {F H : Hp} {a : Addr} {c : Ct} {o : HO} (t : LamX.Tabs T H) (h : CtOk K F H a c) : LamX.Tabs T (upd H a o) := by
  have key : ∃ u, H a = some u ∧ (∀ ps, u ≠ .tbl ps) ∧ ∀ c q, u ≠ LamX.CodeO c q := by
    cases c with
    | n t =>
      obtain ⟨vs, h1, h2⟩ := h
      cases t with
      | l is => exact ⟨_, h1, (fun ps z => nomatch z), (fun c q z => by unfold LamX.CodeO at z; cases z)⟩
      | u is => exact ⟨_, h1, (fun ps z => nomatch z), (fun c q z => by unfold LamX.CodeO at z; cases z)⟩
      | d kvs =>
        obtain ⟨ks, z1, _⟩ := h1
        exact ⟨_, z1, (fun ps z => nomatch z), (fun c q z => by unfold LamX.CodeO at z; cases z)⟩
    | l ds =>
      obtain ⟨vs, h1, h2⟩ := h
      exact ⟨_, h1, ⟨(fun ps z => nomatch z), (fun c q z => by unfold LamX.CodeO at z; cases z)⟩⟩
    | d kvs =>
      obtain ⟨ks, h1, h2⟩ := h
      exact ⟨_, h1, ⟨(fun ps z => nomatch z), (fun c q z => by unfold LamX.CodeO at z; cases z)⟩⟩
    | t kvs =>
      obtain ⟨ks, h1, h2⟩ := h
      exact ⟨_, h1, ⟨(fun ps z => nomatch z), (fun c q z => by unfold LamX.CodeO at z; cases z)⟩⟩
  obtain ⟨u, h1, n1, n2⟩ := key
  intro p hp
  obtain ⟨ps, e1, e2, e3⟩ := t p hp
  refine ⟨ps, ?_, e2, fun pos cv hcv => ?_⟩
  · rw [upd_ne fun z => n1 ps (by rw [z, h1] at e1; exact Option.some.inj e1)]
    exact e1
  · obtain ⟨c, g1, g2⟩ := e3 pos cv hcv
    refine ⟨c, g1, ?_⟩
    rw [upd_ne fun z => n2 c p.2 (by rw [z, h1] at g2; rw [z]; exact Option.some.inj g2)]
    exact g2
/-- the owned object of a slot -/
def Sl.own : Sl → Option Ct
  | .o c => some c
  | .io c => some c
  | _ => none
def SlOk (K : PySem.W.Frag) (pa : Addr) (H0 F H : Hp) (v : V) : Sl → Prop
  | .unk => True
  | .v d => Rp K F v d
  | .o c => ∃ a, v = .ref a ∧ F a = none ∧ H0 a = none ∧ CtOk K F H a c
  | .io c => v = .ref pa ∧ F pa = none ∧ H0 pa = none ∧ CtOk K F H pa c
  | .pin => v = .ref pa
theorem SlOk.owned {K : PySem.W.Frag} {pa : Addr} {H0 F H : Hp} {v : V} {s : Sl} {c : Ct} (h : SlOk K pa H0 F H v s) (e : s.own = some c) : ∃ a, v = .ref a ∧ F a = none ∧ H0 a = none ∧ CtOk K F H a c := by
  cases s with
  | unk => cases e
  | pin => cases e
  | v d => cases e
  | o c' => cases e; exact h
  | io c' => cases e; exact ⟨pa, h⟩
/-- p is no slot's object, nor within one -/
def Nob (H : Hp) (st : L2.St) (r : En) (p : Addr) : Prop := ∀ (i : Nat) (s : Sl) (c : Ct) (a : Addr), r[i]? = some s → s.own = some c → st[i]? = some (some (.ref a)) → a ≠ p ∧ ¬ Inn H a c p
variable [TabT]
/-- THE STATE: what must stand as it was (H0), what was frozen at the start (F0), what is frozen by now (F), the heap, the slots -/
structure Ok (K : PySem.W.Frag) (pa : Nat → Addr) (H0 F0 F H : Hp) (st : L2.St) (r : En) : Prop where
  hH : Ex H0 H
  fF : Ex F0 F
  fH : Ex F H
  sep : ∀ a, H0 a ≠ none → F a ≠ none → F0 a ≠ none
  len : st.length = r.length
  sl : ∀ (i : Nat) (s : Sl), r[i]? = some s → s ≠ .unk → ∃ v, st[i]? = some (some v) ∧ SlOk K (pa i) H0 F H v s
  tb : LamX.Tabs (TabT.T K) H
  dis : ∀ (i j : Nat) (s q : Sl) (c c' : Ct) (a : Addr), i ≠ j → r[i]? = some s → r[j]? = some q → s.own = some c → q.own = some c' → st[i]? = some (some (.ref a)) → st[j]? = some (some (.ref a)) → False
  inn : ∀ (i : Nat) (s : Sl) (c : Ct) (a b : Addr), r[i]? = some s → s.own = some c → st[i]? = some (some (.ref a)) → Inn H a c b → F b = none ∧ H0 b = none ∧ ∀ (j : Nat) (q : Sl) (c' : Ct) (a' : Addr), r[j]? = some q → q.own = some c' → st[j]? = some (some (.ref a')) → a' ≠ b ∧ (j ≠ i → ¬ Inn H a' c' b)
section
variable {K : PySem.W.Frag} {pa : Nat → Addr} {H0 F0 F H F' H' : Hp} {st : L2.St} {r : En}
theorem ne_none {α : Type} {o : Option α} {a : α} (h : o = some a) : o ≠ none := by
  rw [h]
  exact fun z => nomatch z
theorem none_of_not {α : Type} {o : Option α} (h : ¬ o ≠ none) : o = none := by
  cases o with
  | none => rfl
  | some a => exact absurd (ne_none rfl) h
/-- new objects only, some of them frozen -/
theorem Ok.grow (k : Ok K pa H0 F0 F H st r) (eH : Ex H H') (eF : Ex F F') (fh : Ex F' H') (new : ∀ a, F' a ≠ none → H a ≠ none → F a ≠ none) (tb : LamX.Tabs (TabT.T K) H') : Ok K pa H0 F0 F' H' st r where
  hH := k.hH.trans eH
  fF := k.fF.trans eF
  fH := fh
  sep := fun a h1 h2 => k.sep a h1 (new a h2 (by
    cases q : H0 a with
    | none => exact absurd q h1
    | some o =>
      obtain ⟨o', q'⟩ := k.hH.some q
      exact ne_none q'))
  len := k.len
  sl := fun i s h n => by
    obtain ⟨v, h1, h2⟩ := k.sl i s h n
    refine ⟨v, h1, ?_⟩
    have own : ∀ a c, F a = none → CtOk K F H a c → F' a = none ∧ CtOk K F' H' a c := fun a c hf hc => by
      obtain ⟨o, ho, hnt⟩ := hc.there'
      refine ⟨none_of_not fun z => new a z (ne_none ho) hf, hc.mono eF ((eH.at_ a o ho hnt).trans ho.symm) fun b hb => ?_⟩
      obtain ⟨ws, hw⟩ := hc.inn hb
      exact (eH.at_ b _ hw fun ps z => nomatch z).trans hw.symm
    cases s with
    | unk => trivial
    | pin => exact h2
    | v d => exact dp_mono eF h2
    | o c =>
      obtain ⟨a, e1, e2, e3, e4⟩ := h2
      obtain ⟨z1, z2⟩ := own a c e2 e4
      exact ⟨a, e1, z1, e3, z2⟩
    | io c =>
      obtain ⟨e1, e2, e3, e4⟩ := h2
      obtain ⟨z1, z2⟩ := own _ c e2 e4
      exact ⟨e1, z1, e3, z2⟩
  tb := tb
  dis := k.dis
  inn := fun i s c a b h1 h2 h3 h4 => by
    have own : ∀ (j : Nat) (q : Sl) (c' : Ct) (a' : Addr), r[j]? = some q → q.own = some c' → st[j]? = some (some (.ref a')) → H' a' = H a' ∧ CtOk K F H a' c' := fun j q c' a' g1 g2 g3 => by
      obtain ⟨v, w1, w2⟩ := k.sl j q g1 (by
        intro z
        subst z
        cases g2)
      obtain ⟨a2, z1, z2, z3, z4⟩ := w2.owned g2
      rw [g3] at w1
      cases w1
      cases z1
      obtain ⟨o, ho, hnt⟩ := z4.there'
      exact ⟨(eH.at_ _ o ho hnt).trans ho.symm, z4⟩
    obtain ⟨e1, ok1⟩ := own i s c a h1 h2 h3
    have h5 : Inn H a c b := h4.cg e1.symm
    obtain ⟨f1, f2, f3⟩ := k.inn i s c a b h1 h2 h3 h5
    obtain ⟨ws, hw⟩ := ok1.inn h5
    refine ⟨none_of_not fun z => new b z (ne_none hw) f1, f2, fun j q c' a' g1 g2 g3 => ?_⟩
    obtain ⟨y1, y2⟩ := f3 j q c' a' g1 g2 g3
    exact ⟨y1, fun nj n => y2 nj (n.cg (own j q c' a' g1 g2 g3).1.symm)⟩
/-- a new tracked object that nobody freezes -/
theorem Ok.lay (k : Ok K pa H0 F0 F H st r) {p : Addr} {o : HO} (n : H p = none) : Ok K pa H0 F0 F (upd H p o) st r :=
  k.grow (Ex.new n) (Ex.refl F) (k.fH.mut (k.fH.nn n)) (fun _ h _ => h) (k.tb.ext fun a u e => by rw [upd_ne (ne_of_none e n)]; exact e)
/-- a new object, frozen at once -/
theorem Ok.layF (k : Ok K pa H0 F0 F H st r) {p : Addr} {o : HO} (n : H p = none) : Ok K pa H0 F0 (upd F p o) (upd H p o) st r := by
  have nF := k.fH.nn n
  refine k.grow (Ex.new n) (Ex.new nF) ⟨fun a u e nt => ?_, fun a ps e => ?_⟩ (fun a h1 h2 => ?_) (k.tb.ext fun a u e => by rw [upd_ne (ne_of_none e n)]; exact e)
  · by_cases ha : a = p
    · subst ha
      rw [upd_same] at e ⊢
      exact e
    · rw [upd_ne ha] at e ⊢
      exact k.fH.at_ a u e nt
  · by_cases ha : a = p
    · subst ha
      rw [upd_same] at e ⊢
      exact ⟨#[], by rw [Array.append_empty]; exact e⟩
    · rw [upd_ne ha] at e ⊢
      exact k.fH.tb a ps e
  · by_cases ha : a = p
    · subst ha
      exact absurd n h2
    · rw [upd_ne ha] at h1
      exact h1
/-- a tracked object that is nobody's is frozen -/
theorem Ok.frz (k : Ok K pa H0 F0 F H st r) {p : Addr} {o : HO} (h : H p = some o) (n0 : H0 p = none) (nO : Nob H st r p) (nF : F p = none) : Ok K pa H0 F0 (upd F p o) H st r where
  hH := k.hH
  fF := k.fF.trans (Ex.new nF)
  fH := ⟨fun a u e nt => by
    by_cases ha : a = p
    · subst ha
      rw [upd_same] at e
      rw [h]
      exact e
    · rw [upd_ne ha] at e
      exact k.fH.at_ a u e nt, fun a ps e => by
    by_cases ha : a = p
    · subst ha
      rw [upd_same] at e
      rw [h]
      exact ⟨#[], by rw [Array.append_empty]; exact e⟩
    · rw [upd_ne ha] at e
      exact k.fH.tb a ps e⟩
  sep := fun a h1 h2 => by
    by_cases ha : a = p
    · subst ha
      exact absurd n0 h1
    · rw [upd_ne ha] at h2
      exact k.sep a h1 h2
  len := k.len
  sl := fun i s h1 n => by
    obtain ⟨v, h2, h3⟩ := k.sl i s h1 n
    refine ⟨v, h2, ?_⟩
    cases s with
    | unk => trivial
    | pin => exact h3
    | v d => exact dp_mono (Ex.new nF) h3
    | o c =>
      obtain ⟨a, e1, e2, e3, e4⟩ := h3
      have ne : a ≠ p := (nO i _ c a h1 rfl (by rw [h2, e1])).1
      exact ⟨a, e1, by rw [upd_ne ne]; exact e2, e3, e4.mono (Ex.new nF) rfl fun _ _ => rfl⟩
    | io c =>
      obtain ⟨e1, e2, e3, e4⟩ := h3
      have ne : pa i ≠ p := (nO i _ c _ h1 rfl (by rw [h2, e1])).1
      exact ⟨e1, by rw [upd_ne ne]; exact e2, e3, e4.mono (Ex.new nF) rfl fun _ _ => rfl⟩
  tb := k.tb
  dis := k.dis
  inn := fun i s c a b h1 h2 h3 h4 => by
    obtain ⟨f1, f2, f3⟩ := k.inn i s c a b h1 h2 h3 h4
    have ne : b ≠ p := fun z => (nO i s c a h1 h2 h3).2 (z ▸ h4)
    exact ⟨by rw [upd_ne ne]; exact f1, f2, f3⟩
/-- a new address is nobody's -/
theorem Ok.nobody (k : Ok K pa H0 F0 F H st r) {p : Addr} (n : H p = none) : Nob H st r p := fun i s c a h1 h2 h3 => by
  obtain ⟨v, e1, e2⟩ := k.sl i s h1 (by
    intro z
    subst z
    cases h2)
  obtain ⟨a', z1, _, _, z4⟩ := e2.owned h2
  rw [h3] at e1
  cases e1
  cases z1
  refine ⟨fun z => ?_, fun z => ?_⟩
  · subst z
    obtain ⟨o, ho⟩ := z4.there
    rw [n] at ho
    cases ho
  · obtain ⟨ws, hw⟩ := z4.inn z
    rw [n] at hw
    cases hw
/-- another frame to be kept -/
theorem Ok.frame (k : Ok K pa H0 F0 F H st r) {H0' : Hp} (h1 : Ex H0' H) (h2 : ∀ a, H0' a ≠ none → F a ≠ none → F0 a ≠ none) (h3 : ∀ (i : Nat) (s : Sl) (c : Ct) (a : Addr), r[i]? = some s → s.own = some c → st[i]? = some (some (.ref a)) → H0' a = none ∧ ∀ b, Inn H a c b → H0' b = none) : Ok K pa H0' F0 F H st r where
  hH := h1
  fF := k.fF
  fH := k.fH
  sep := h2
  len := k.len
  sl := fun i s e n => by
    obtain ⟨v, e1, e2⟩ := k.sl i s e n
    refine ⟨v, e1, ?_⟩
    cases s with
    | unk => trivial
    | pin => exact e2
    | v d => exact e2
    | o c =>
      obtain ⟨a, z1, z2, z3, z4⟩ := e2
      exact ⟨a, z1, z2, (h3 i _ c a e rfl (by rw [e1, z1])).1, z4⟩
    | io c =>
      obtain ⟨z1, z2, z3, z4⟩ := e2
      exact ⟨z1, z2, (h3 i _ c (pa i) e rfl (by rw [e1, z1])).1, z4⟩
  tb := k.tb
  dis := k.dis
  inn := fun i s c a b g1 g2 g3 g4 => by
    obtain ⟨f1, f2, f3⟩ := k.inn i s c a b g1 g2 g3 g4
    exact ⟨f1, (h3 i s c a g1 g2 g3).2 b g4, f3⟩
end
end Pu
namespace Pu
open PySem PySem.Spec PyProof.Rows L2
variable [TabT]
/-! ### slots changed -/
def Sl.isIo : Sl → Bool
  | .io _ => true
  | .pin => true
  | _ => false
def Sl.put (c : Ct) : Sl → Sl
  | .io _ => .io c
  | _ => .o c
section
variable {K : PySem.W.Frag} {pa : Nat → Addr} {H0 F0 F H F' H' : Hp} {st : L2.St} {r : En}
theorem Ok.lookup (k : Ok K pa H0 F0 F H st r) {i : Nat} {s : Sl} (h : r[i]? = some s) (n : s ≠ .unk) : ∃ v, st[i]? = some (some v) ∧ SlOk K (pa i) H0 F H v s := k.sl i s h n
theorem Ok.val (k : Ok K pa H0 F0 F H st r) {i : Nat} {d : D} (h : r[i]? = some (.v d)) : ∃ v, st[i]? = some (some v) ∧ Rp K F v d := k.sl i _ h (fun z => nomatch z)
theorem Ok.ownd (k : Ok K pa H0 F0 F H st r) {i : Nat} {s : Sl} {c : Ct} (h : r[i]? = some s) (hc : s.own = some c) : ∃ a, st[i]? = some (some (.ref a)) ∧ F a = none ∧ H0 a = none ∧ CtOk K F H a c := by
  obtain ⟨v, e1, e2⟩ := k.sl i s h (by
    intro z
    subst z
    cases hc)
  obtain ⟨a, rfl, z⟩ := e2.owned hc
  exact ⟨a, e1, z⟩
/-- the object at a, with what is within it, is no slot's -/
def Away (H0 F H : Hp) (st : L2.St) (r : En) (a : Addr) (c : Ct) : Prop := Nob H st r a ∧ ∀ b, Inn H a c b → F b = none ∧ H0 b = none ∧ a ≠ b ∧ Nob H st r b
omit [TabT] in
theorem Away.l {a : Addr} {ds : List D} (h : Nob H st r a) : Away H0 F H st r a (.l ds) := ⟨h, fun _ z => (inn_l z).elim⟩
omit [TabT] in
theorem Away.d {a : Addr} {ds : List (Key × D)} (h : Nob H st r a) : Away H0 F H st r a (.d ds) := ⟨h, fun _ z => (inn_d z).elim⟩
omit [TabT] in
theorem Away.t {a : Addr} {ds : List (List Key × D)} (h : Nob H st r a) : Away H0 F H st r a (.t ds) := ⟨h, fun _ z => (inn_t z).elim⟩
omit [TabT] in
theorem Nob.cg {a : Addr} (h : Nob H st r a) (e : ∀ (i : Nat) (s : Sl) (c : Ct) (b : Addr), r[i]? = some s → s.own = some c → st[i]? = some (some (.ref b)) → H' b = H b) : Nob H' st r a := fun i s c b h1 h2 h3 => by
  obtain ⟨g1, g2⟩ := h i s c b h1 h2 h3
  exact ⟨g1, fun n => g2 (n.cg (e i s c b h1 h2 h3).symm)⟩
omit [TabT] in
theorem Nob.upd {a : Addr} {o : HO} (h : Nob H st r a) : Nob (upd H a o) st r a := h.cg fun i s c b h1 h2 h3 => upd_ne (h i s c b h1 h2 h3).1
omit [TabT] in
/-- fewer slots -/
theorem Nob.unk {a : Addr} (h : Nob H st r a) {i : Nat} {x : Option V} : Nob H (st.set i x) (r.set i .unk) a := fun j s c b hj hc hst => by
  by_cases e : i = j
  · subst e
    rw [List.getElem?_set_self'] at hj
    cases hr : r[i]? with
    | none =>
      rw [hr] at hj
      cases hj
    | some z =>
      rw [hr] at hj
      cases hj
      cases hc
  · rw [List.getElem?_set_ne e] at hj hst
    exact h j s c b hj hc hst
/-- a slot is stored -/
theorem Ok.set (k : Ok K pa H0 F0 F H st r) {i : Nat} {v : V} {s : Sl} (hi : ∀ q, r[i]? = some q → q.isIo = false) (hs : s.isIo = false) (ok : SlOk K (pa i) H0 F H v s)
    (hd : ∀ (a : Addr) (c : Ct), s.own = some c → v = .ref a → Away H0 F H (st.set i none) (r.set i .unk) a c) : Ok K pa H0 F0 F H (st.set i (some v)) (r.set i s) where
  hH := k.hH
  fF := k.fF
  fH := k.fH
  sep := k.sep
  len := by rw [List.length_set, List.length_set, k.len]
  sl := fun j q h n => by
    by_cases e : i = j
    · subst e
      rw [List.getElem?_set_self'] at h
      by_cases hl : i < r.length
      · rw [List.getElem?_eq_getElem hl] at h
        cases h
        refine ⟨v, ?_, ok⟩
        rw [List.getElem?_set_self (by rw [k.len]; exact hl)]
      · rw [List.getElem?_eq_none (by omega)] at h
        cases h
    · rw [List.getElem?_set_ne e] at h
      obtain ⟨w, z1, z2⟩ := k.sl j q h n
      exact ⟨w, by rw [List.getElem?_set_ne e]; exact z1, z2⟩
  tb := k.tb
  dis := fun j1 j2 q1 q2 c1 c2 a ne h1 h2 o1 o2 s1 s2 => by
    by_cases e1 : i = j1
    · subst e1
      have e2 : i ≠ j2 := ne
      rw [List.getElem?_set_ne e2] at h2 s2
      rw [List.getElem?_set_self'] at h1 s1
      by_cases hl : i < r.length
      · rw [List.getElem?_eq_getElem hl] at h1
        rw [List.getElem?_eq_getElem (by rw [k.len]; exact hl)] at s1
        cases h1
        cases s1
        exact ((hd a c1 o1 rfl).1 j2 q2 c2 a (by rw [List.getElem?_set_ne e2]; exact h2) o2 (by rw [List.getElem?_set_ne e2]; exact s2)).1 rfl
      · rw [List.getElem?_eq_none (by omega)] at h1
        cases h1
    · rw [List.getElem?_set_ne e1] at h1 s1
      by_cases e2 : i = j2
      · subst e2
        rw [List.getElem?_set_self'] at h2 s2
        by_cases hl : i < r.length
        · rw [List.getElem?_eq_getElem hl] at h2
          rw [List.getElem?_eq_getElem (by rw [k.len]; exact hl)] at s2
          cases h2
          cases s2
          exact ((hd a c2 o2 rfl).1 j1 q1 c1 a (by rw [List.getElem?_set_ne e1]; exact h1) o1 (by rw [List.getElem?_set_ne e1]; exact s1)).1 rfl
        · rw [List.getElem?_eq_none (by omega)] at h2
          cases h2
      · rw [List.getElem?_set_ne e2] at h2 s2
        exact k.dis j1 j2 q1 q2 c1 c2 a ne h1 h2 o1 o2 s1 s2
  inn := by
    have old : ∀ (j : Nat) (q : Sl) (x : Option V), i ≠ j → (r.set i s)[j]? = some q → (st.set i (some v))[j]? = some x → r[j]? = some q ∧ st[j]? = some x ∧ (r.set i .unk)[j]? = some q ∧ (st.set i none)[j]? = some x := fun j q x e h1 h2 => by
      rw [List.getElem?_set_ne e] at h1 h2
      exact ⟨h1, h2, by rw [List.getElem?_set_ne e]; exact h1, by rw [List.getElem?_set_ne e]; exact h2⟩
    have new : ∀ (q : Sl) (x : Option V), (r.set i s)[i]? = some q → (st.set i (some v))[i]? = some x → q = s ∧ x = some v := fun q x h1 h2 => by
      rw [List.getElem?_set_self'] at h1 h2
      cases hr : r[i]? with
      | none =>
        rw [hr] at h1
        cases h1
      | some z =>
        cases hs : st[i]? with
        | none =>
          rw [hs] at h2
          cases h2
        | some y =>
          rw [hr] at h1
          rw [hs] at h2
          cases h1
          cases h2
          exact ⟨rfl, rfl⟩
    intro j q c a b h1 h2 h3 h4
    by_cases e : i = j
    · subst e
      obtain ⟨rfl, hx⟩ := new q _ h1 h3
      cases hx
      obtain ⟨n1, n2⟩ := hd a c h2 rfl
      obtain ⟨g1, g2, g3, g4⟩ := n2 b h4
      refine ⟨g1, g2, fun j q' c' a' w1 w2 w3 => ?_⟩
      by_cases e : i = j
      · subst e
        obtain ⟨rfl, hx⟩ := new q' _ w1 w3
        cases hx
        exact ⟨g3, fun z => absurd rfl z⟩
      · obtain ⟨y1, y2, y3, y4⟩ := old j q' _ e w1 w3
        obtain ⟨u1, u2⟩ := g4 j q' c' a' y3 w2 y4
        exact ⟨u1, fun _ => u2⟩
    · obtain ⟨x1, x2, x3, x4⟩ := old j q _ e h1 h3
      obtain ⟨g1, g2, g3⟩ := k.inn j q c a b x1 h2 x2 h4
      refine ⟨g1, g2, fun j2 q' c' a' w1 w2 w3 => ?_⟩
      by_cases e2 : i = j2
      · subst e2
        obtain ⟨rfl, hx⟩ := new q' _ w1 w3
        cases hx
        obtain ⟨n1, n2⟩ := hd a' c' w2 rfl
        refine ⟨fun z => (n1 j q c a x3 h2 x4).2 (z ▸ h4), fun _ n => ?_⟩
        exact ((n2 b n).2.2.2 j q c a x3 h2 x4).2 h4
      · obtain ⟨y1, y2, y3, y4⟩ := old j2 q' _ e2 w1 w3
        exact g3 j2 q' c' a' y1 w2 y2
theorem Ok.setV (k : Ok K pa H0 F0 F H st r) {i : Nat} {v : V} {d : D} (hi : ∀ q, r[i]? = some q → q.isIo = false) (ok : Rp K F v d) : Ok K pa H0 F0 F H (st.set i (some v)) (r.set i (.v d)) :=
  k.set (s := .v d) hi rfl ok fun _ _ z => nomatch z
/-- a slot is forgotten -/
theorem Ok.forget (k : Ok K pa H0 F0 F H st r) {i : Nat} {x : Option V} : Ok K pa H0 F0 F H (st.set i x) (r.set i .unk) where
  hH := k.hH
  fF := k.fF
  fH := k.fH
  sep := k.sep
  len := by rw [List.length_set, List.length_set, k.len]
  sl := fun j q h n => by
    by_cases e : i = j
    · subst e
      rw [List.getElem?_set_self'] at h
      by_cases hl : i < r.length
      · rw [List.getElem?_eq_getElem hl] at h
        cases h
        exact absurd rfl n
      · rw [List.getElem?_eq_none (by omega)] at h
        cases h
    · rw [List.getElem?_set_ne e] at h
      obtain ⟨w, z1, z2⟩ := k.sl j q h n
      exact ⟨w, by rw [List.getElem?_set_ne e]; exact z1, z2⟩
  tb := k.tb
  dis := fun j1 j2 q1 q2 c1 c2 a ne h1 h2 o1 o2 s1 s2 => by
    have no : ∀ (j : Nat) (q : Sl) (c : Ct), (r.set i .unk)[j]? = some q → q.own = some c → i ≠ j := fun j q c h o e => by
      subst e
      rw [List.getElem?_set_self'] at h
      by_cases hl : i < r.length
      · rw [List.getElem?_eq_getElem hl] at h
        cases h
        cases o
      · rw [List.getElem?_eq_none (by omega)] at h
        cases h
    have e1 := no j1 q1 c1 h1 o1
    have e2 := no j2 q2 c2 h2 o2
    rw [List.getElem?_set_ne e1] at h1 s1
    rw [List.getElem?_set_ne e2] at h2 s2
    exact k.dis j1 j2 q1 q2 c1 c2 a ne h1 h2 o1 o2 s1 s2
  inn := by
    have no : ∀ (j : Nat) (q : Sl) (c : Ct), (r.set i .unk)[j]? = some q → q.own = some c → i ≠ j := fun j q c h o e => by
      subst e
      rw [List.getElem?_set_self'] at h
      by_cases hl : i < r.length
      · rw [List.getElem?_eq_getElem hl] at h
        cases h
        cases o
      · rw [List.getElem?_eq_none (by omega)] at h
        cases h
    intro j q c a b h1 h2 h3 h4
    have e1 := no j q c h1 h2
    rw [List.getElem?_set_ne e1] at h1 h3
    obtain ⟨g1, g2, g3⟩ := k.inn j q c a b h1 h2 h3 h4
    refine ⟨g1, g2, fun j2 q' c' a' w1 w2 w3 => ?_⟩
    have e2 := no j2 q' c' w1 w2
    rw [List.getElem?_set_ne e2] at w1 w3
    exact g3 j2 q' c' a' w1 w2 w3
/-- an owned object is changed -/
theorem Ok.put (k : Ok K pa H0 F0 F H st r) {i : Nat} {s : Sl} {c c' : Ct} {a : Addr} {o : HO} (h : r[i]? = some s) (hc : s.own = some c) (ha : st[i]? = some (some (.ref a))) (new : CtOk K F (upd H a o) a c')
    (newI : ∀ b, Inn (upd H a o) a c' b → Inn H a c b ∨ (F b = none ∧ H0 b = none ∧ a ≠ b ∧ Nob H st r b) := by intro b hb; first | exact (inn_l hb).elim | exact (inn_d hb).elim | exact (inn_t hb).elim) : Ok K pa H0 F0 F (upd H a o) st (r.set i (s.put c')) := by
  obtain ⟨a', z1, z2, z3, z4⟩ := k.ownd h hc
  rw [ha] at z1
  cases z1
  have hl : i < r.length := (List.getElem?_eq_some_iff.mp h).1
  have po : (s.put c').own = some c' := by cases s <;> rfl
  have other : ∀ (j : Nat) (q : Sl) (c2 : Ct) (b : Addr), i ≠ j → r[j]? = some q → q.own = some c2 → st[j]? = some (some (.ref b)) → b ≠ a := fun j q c2 b e hq hq2 hb z => by
    subst z
    exact k.dis i j s q c c2 b e h hq hc hq2 ha hb
  have get : ∀ (j : Nat) (q : Sl) (c2 : Ct), (r.set i (s.put c'))[j]? = some q → q.own = some c2 → (i = j ∧ q = s.put c' ∧ c2 = c') ∨ (i ≠ j ∧ r[j]? = some q) := fun j q c2 hq ho => by
    by_cases e : i = j
    · subst e
      rw [List.getElem?_set_self hl] at hq
      cases hq
      rw [po] at ho
      cases ho
      exact .inl ⟨rfl, rfl, rfl⟩
    · rw [List.getElem?_set_ne e] at hq
      exact .inr ⟨e, hq⟩
  refine ⟨k.hH.mut z3, k.fF, k.fH.mut z2, k.sep, by rw [List.length_set, k.len], fun j q hq n => ?_, tabs_put k.tb z4, fun j1 j2 q1 q2 c1 c2 b ne h1 h2 o1 o2 s1 s2 => ?_, fun j q c2 b b2 hq ho hst hin => ?_⟩
  · by_cases e : i = j
    · subst e
      rw [List.getElem?_set_self hl] at hq
      cases hq
      obtain ⟨v, w1, w2⟩ := k.sl i s h (by
        intro z
        subst z
        cases hc)
      rw [ha] at w1
      cases w1
      refine ⟨_, ha, ?_⟩
      cases s with
      | unk => cases hc
      | pin => cases hc
      | v d => cases hc
      | o c1 => exact ⟨a, rfl, z2, z3, new⟩
      | io c1 =>
        obtain ⟨y1, y2, y3, y4⟩ := w2
        cases y1
        exact ⟨rfl, z2, z3, new⟩
    · rw [List.getElem?_set_ne e] at hq
      obtain ⟨v, w1, w2⟩ := k.sl j q hq n
      refine ⟨v, w1, ?_⟩
      cases q with
      | unk => trivial
      | pin => exact w2
      | v d => exact w2
      | o c1 =>
        obtain ⟨b, y1, y2, y3, y4⟩ := w2
        have nb : b ≠ a := other j _ c1 b e hq rfl (by rw [w1, y1])
        exact ⟨b, y1, y2, y3, y4.mono (Ex.refl F) (upd_ne nb) fun b2 hb2 => upd_ne fun z => ((k.inn j _ c1 b b2 hq rfl (by rw [w1, y1]) hb2).2.2 i s c a h hc ha).1 z.symm⟩
      | io c1 =>
        obtain ⟨y1, y2, y3, y4⟩ := w2
        have nb : pa j ≠ a := other j _ c1 (pa j) e hq rfl (by rw [w1, y1])
        exact ⟨y1, y2, y3, y4.mono (Ex.refl F) (upd_ne nb) fun b2 hb2 => upd_ne fun z => ((k.inn j _ c1 _ b2 hq rfl (by rw [w1, y1]) hb2).2.2 i s c a h hc ha).1 z.symm⟩
  · have get : ∀ (j : Nat) (q : Sl) (c2 : Ct), (r.set i (s.put c'))[j]? = some q → q.own = some c2 → ∃ q' c3, r[j]? = some q' ∧ q'.own = some c3 := fun j q c2 hq ho => by
      by_cases e : i = j
      · subst e
        exact ⟨s, c, h, hc⟩
      · rw [List.getElem?_set_ne e] at hq
        exact ⟨q, c2, hq, ho⟩
    obtain ⟨q1', c1', g1, g2⟩ := get j1 q1 c1 h1 o1
    obtain ⟨q2', c2', g3, g4⟩ := get j2 q2 c2 h2 o2
    exact k.dis j1 j2 q1' q2' c1' c2' b ne g1 g3 g2 g4 s1 s2
  · -- what is within
    have far : ∀ (j : Nat) (q : Sl) (c3 : Ct) (b3 b4 : Addr), i ≠ j → r[j]? = some q → q.own = some c3 → st[j]? = some (some (.ref b3)) → Inn (upd H a o) b3 c3 b4 → Inn H b3 c3 b4 := fun j q c3 b3 b4 e g1 g2 g3 g4 => g4.cg (upd_ne (other j q c3 b3 e g1 g2 g3)).symm
    rcases get j q c2 hq ho with ⟨rfl, rfl, rfl⟩ | ⟨e, hq'⟩
    · rw [ha] at hst
      cases hst
      rcases newI b2 hin with hi | ⟨f1, f2, f3, f4⟩
      · obtain ⟨f1, f2, f3⟩ := k.inn i s c a b2 h hc ha hi
        refine ⟨f1, f2, fun j2 q2 c3 b3 g1 g2 g3 => ?_⟩
        rcases get j2 q2 c3 g1 g2 with ⟨rfl, rfl, rfl⟩ | ⟨e, g1⟩
        · rw [ha] at g3
          cases g3
          exact ⟨(f3 i s c a h hc ha).1, fun z => absurd rfl z⟩
        · obtain ⟨y1, y2⟩ := f3 j2 q2 c3 b3 g1 g2 g3
          exact ⟨y1, fun nj n => y2 nj (far j2 q2 c3 b3 b2 e g1 g2 g3 n)⟩
      · refine ⟨f1, f2, fun j2 q2 c3 b3 g1 g2 g3 => ?_⟩
        rcases get j2 q2 c3 g1 g2 with ⟨rfl, rfl, rfl⟩ | ⟨e, g1⟩
        · rw [ha] at g3
          cases g3
          exact ⟨f3, fun z => absurd rfl z⟩
        · obtain ⟨y1, y2⟩ := f4 j2 q2 c3 b3 g1 g2 g3
          exact ⟨y1, fun _ n => y2 (far j2 q2 c3 b3 b2 e g1 g2 g3 n)⟩
    · have hin2 := far j q c2 b b2 e hq' ho hst hin
      obtain ⟨f1, f2, f3⟩ := k.inn j q c2 b b2 hq' ho hst hin2
      refine ⟨f1, f2, fun j2 q2 c3 b3 g1 g2 g3 => ?_⟩
      rcases get j2 q2 c3 g1 g2 with ⟨rfl, rfl, rfl⟩ | ⟨e2, g1⟩
      · rw [ha] at g3
        cases g3
        obtain ⟨y1, y2⟩ := f3 i s c a h hc ha
        refine ⟨y1, fun _ n => ?_⟩
        rcases newI b2 n with hi | ⟨_, _, _, f4⟩
        · exact y2 (fun z => e z) hi
        · exact (f4 j q c2 b hq' ho hst).2 hin2
      · obtain ⟨y1, y2⟩ := f3 j2 q2 c3 b3 g1 g2 g3
        exact ⟨y1, fun nj n => y2 nj (far j2 q2 c3 b3 b2 e2 g1 g2 g3 n)⟩
/-- a slot's object is no other slot's -/
theorem Ok.away (k : Ok K pa H0 F0 F H st r) {i : Nat} {s : Sl} {c : Ct} {a : Addr} (h : r[i]? = some s) (hc : s.own = some c) (ha : st[i]? = some (some (.ref a))) {x : Option V} : Away H0 F H (st.set i x) (r.set i .unk) a c := by
  have hl : i < r.length := (List.getElem?_eq_some_iff.mp h).1
  have old : ∀ (j : Nat) (q : Sl) (c2 : Ct) (b : Addr), (r.set i .unk)[j]? = some q → q.own = some c2 → (st.set i x)[j]? = some (some (.ref b)) → i ≠ j ∧ r[j]? = some q ∧ st[j]? = some (some (.ref b)) := fun j q c2 b hj hc2 hst => by
    by_cases e : i = j
    · subst e
      rw [List.getElem?_set_self hl] at hj
      cases hj
      cases hc2
    · rw [List.getElem?_set_ne e] at hj hst
      exact ⟨e, hj, hst⟩
  refine ⟨fun j q c2 b hj hc2 hst => ?_, fun b hb => ?_⟩
  · obtain ⟨e, hj, hst⟩ := old j q c2 b hj hc2 hst
    refine ⟨fun z => ?_, fun z => ((k.inn j q c2 b a hj hc2 hst z).2.2 i s c a h hc ha).1 rfl⟩
    subst z
    exact k.dis i j s q c c2 b e h hj hc hc2 ha hst
  · obtain ⟨g1, g2, g3⟩ := k.inn i s c a b h hc ha hb
    refine ⟨g1, g2, (g3 i s c a h hc ha).1, fun j q c2 b2 hj hc2 hst => ?_⟩
    obtain ⟨e, hj, hst⟩ := old j q c2 b2 hj hc2 hst
    obtain ⟨y1, y2⟩ := g3 j q c2 b2 hj hc2 hst
    exact ⟨y1, y2 fun z => e z.symm⟩
/-- an owned list is frozen -/
theorem Ok.freeze (k : Ok K pa H0 F0 F H st r) {i : Nat} {ds : List D} (h : r[i]? = some (.o (.l ds))) : ∃ F', Ok K pa H0 F0 F' H st (r.set i (.v (.list ds))) ∧ Ex F F' := by
  obtain ⟨a, z1, z2, z3, vs, z4, z5⟩ := k.ownd h rfl
  have hl : i < r.length := (List.getElem?_eq_some_iff.mp h).1
  have k2 : Ok K pa H0 F0 F H (st.set i none) (r.set i .unk) := k.forget
  have nO : Nob H (st.set i none) (r.set i .unk) a := (k.away h rfl z1).1
  have k3 := k2.frz z4 z3 nO z2
  refine ⟨upd F a (.lst vs), ?_, Ex.new z2⟩
  have k4 := k3.setV (i := i) (v := .ref a) (d := .list ds) (fun q hq => by
    rw [List.getElem?_set_self hl] at hq
    cases hq
    rfl) (.lst (.inl (.inl upd_same)) (dpa_mono (Ex.new z2) z5))
  rw [List.set_set, List.set_set] at k4
  have e : st.set i (some (.ref a)) = st := by
    apply List.ext_getElem?
    intro j
    by_cases e : i = j
    · subst e
      rw [List.getElem?_set_self (by rw [k.len]; exact hl), z1]
    · rw [List.getElem?_set_ne e]
  rw [e] at k4
  exact k4
/-- objects that are nobody's are frozen -/
theorem Ok.frzS (k : Ok K pa H0 F0 F H st r) (S : Addr → Bool) (h1 : ∀ b, S b = true → ∃ o, H b = some o) (n0 : ∀ b, S b = true → H0 b = none) (nF : ∀ b, S b = true → F b = none) (nO : ∀ b, S b = true → Nob H st r b) :
    Ok K pa H0 F0 (fun b => if S b = true then H b else F b) H st r ∧ Ex F (fun b => if S b = true then H b else F b) := by
  have ne : ∀ {b o}, F b = some o → ¬ S b = true := fun {b o} e z => by
    rw [nF b z] at e
    cases e
  have eF : Ex F (fun b => if S b = true then H b else F b) := ⟨fun b o e nt => by
    show (if S b = true then H b else F b) = _
    rw [if_neg (ne e)]
    exact e, fun b ps e => ⟨#[], by
    show (if S b = true then H b else F b) = _
    rw [if_neg (ne e), Array.append_empty]
    exact e⟩⟩
  refine ⟨⟨k.hH, k.fF.trans eF, ⟨fun b o e nt => ?_, fun b ps e => ?_⟩, fun b z1 z2 => ?_, k.len, fun i s h n => ?_, k.tb, k.dis, fun i s c a b g1 g2 g3 g4 => ?_⟩, eF⟩
  · have e : (if S b = true then H b else F b) = some o := e
    by_cases hb : S b = true
    · rw [if_pos hb] at e
      exact e
    · rw [if_neg hb] at e
      exact k.fH.at_ b o e nt
  · have e : (if S b = true then H b else F b) = some (.tbl ps) := e
    by_cases hb : S b = true
    · rw [if_pos hb] at e
      exact ⟨#[], by rw [Array.append_empty]; exact e⟩
    · rw [if_neg hb] at e
      exact k.fH.tb b ps e
  · have z2 : (if S b = true then H b else F b) ≠ none := z2
    by_cases hb : S b = true
    · exact absurd (n0 b hb) z1
    · rw [if_neg hb] at z2
      exact k.sep b z1 z2
  · obtain ⟨v, w1, w2⟩ := k.sl i s h n
    refine ⟨v, w1, ?_⟩
    have far : ∀ (c : Ct) (a : Addr), s.own = some c → v = .ref a → ¬ S a = true := fun c a g1 g2 z => by
      subst g2
      exact (nO a z i s c a h g1 w1).1 rfl
    cases s with
    | unk => trivial
    | pin => exact w2
    | v d => exact dp_mono eF w2
    | o c =>
      obtain ⟨a, e1, e2, e3, e4⟩ := w2
      exact ⟨a, e1, by
        show (if S a = true then H a else F a) = none
        rw [if_neg (far c a rfl e1)]
        exact e2, e3, e4.mono eF rfl fun _ _ => rfl⟩
    | io c =>
      obtain ⟨e1, e2, e3, e4⟩ := w2
      exact ⟨e1, by
        show (if S (pa i) = true then H (pa i) else F (pa i)) = none
        rw [if_neg (far c _ rfl e1)]
        exact e2, e3, e4.mono eF rfl fun _ _ => rfl⟩
  · obtain ⟨f1, f2, f3⟩ := k.inn i s c a b g1 g2 g3 g4
    have hb : ¬ S b = true := fun z => (nO b z i s c a g1 g2 g3).2 g4
    exact ⟨by
      show (if S b = true then H b else F b) = none
      rw [if_neg hb]
      exact f1, f2, f3⟩
theorem its_rp {K : PySem.W.Frag} {F H F' : Hp} (e : Ex F F') : ∀ {vs : List V} {is : List Im}, ItAll K F H vs is → (∀ (j : Nat) (b : Addr) (ds : List D), vs[j]? = some (.ref b) → is[j]? = some (.l ds) → F' b = H b) → RpAll K F' vs (is.map Im.data)
  | _, _, .nil, _ => .nil
  | _, _, @ItAll.cons _ _ _ v vs i is h t, q => by
    refine .cons ?_ (its_rp e t fun j b ds h1 h2 => q (j + 1) b ds (by simpa using h1) (by simpa using h2))
    cases i with
    | v d => exact dp_mono e h
    | l ds =>
      obtain ⟨b, ws, rfl, h1, h2⟩ := h
      exact .lst (.inl (.inl ((q 0 b ds rfl rfl).trans h1))) (dpa_mono e h2)
/-- a deep object as data, within a heap where it stands -/
theorem nt_rp {K : PySem.W.Frag} {F H F' : Hp} {a : Addr} {t : Nt} {d : D} (h : CtOk K F H a (.n t)) (e : Ex F F') (hd : t.data = some d) (ha : F' a = H a) (hi : ∀ b, Inn H a (.n t) b → F' b = H b) : Rp K F' (.ref a) d := by
  obtain ⟨vs, h1, h2, h3⟩ := h
  have h4 := its_rp e h2 fun j b ds g1 g2 => hi b ⟨j, vs, ds, h1.vals, g1, g2⟩
  cases t with
  | l its =>
    cases hd
    exact .lst (.inl (.inl (ha.trans h1))) h4
  | u its =>
    cases hd
    exact .tup (ha.trans h1) h4
  | d kvs => cases hd
open Classical in
/-- a deep object is frozen -/
theorem Ok.freezeN (k : Ok K pa H0 F0 F H st r) {i : Nat} {t : Nt} {d : D} (h : r[i]? = some (.o (.n t))) (hd : t.data = some d) : ∃ F', Ok K pa H0 F0 F' H st (r.set i (.v d)) ∧ Ex F F' := by
  obtain ⟨a, z1, z2, z3, z4⟩ := k.ownd h rfl
  have hl : i < r.length := (List.getElem?_eq_some_iff.mp h).1
  have aw := k.away (x := none) h rfl z1
  have k2 : Ok K pa H0 F0 F H (st.set i none) (r.set i .unk) := k.forget
  have hS : ∀ b, decide (b = a ∨ Inn H a (.n t) b) = true → b = a ∨ Inn H a (.n t) b := fun b hb => of_decide_eq_true hb
  obtain ⟨k3, eF⟩ := k2.frzS (fun b => decide (b = a ∨ Inn H a (.n t) b)) (fun b hb => by
      rcases hS b hb with rfl | hb
      · exact z4.there
      · obtain ⟨ws, hw⟩ := z4.inn hb
        exact ⟨_, hw⟩) (fun b hb => by
      rcases hS b hb with rfl | hb
      · exact z3
      · exact (aw.2 b hb).2.1) (fun b hb => by
      rcases hS b hb with rfl | hb
      · exact z2
      · exact (aw.2 b hb).1) (fun b hb => by
      rcases hS b hb with rfl | hb
      · exact aw.1
      · exact (aw.2 b hb).2.2.2)
  refine ⟨_, ?_, eF⟩
  have rp := nt_rp z4 eF hd (if_pos (decide_eq_true (.inl rfl))) fun b hb => if_pos (decide_eq_true (.inr hb))
  have k4 := k3.setV (i := i) (v := .ref a) (d := d) (fun q hq => by
    rw [List.getElem?_set_self hl] at hq
    cases hq
    rfl) rp
  rw [List.set_set, List.set_set] at k4
  have e : st.set i (some (.ref a)) = st := by
    apply List.ext_getElem?
    intro j
    by_cases e : i = j
    · subst e
      rw [List.getElem?_set_self (by rw [k.len]; exact hl), z1]
    · rw [List.getElem?_set_ne e]
  rw [e] at k4
  exact k4
end
/-! ### readings -/
structure Cc where
  K : PySem.W.Frag
  mg : Str → Option Value
  W : WX
def ExOk (c : Cc) (F H : Hp) (e : Exn) (cls : Value) (dd : Option Addr) : Prop := cls = .ref (He.ga c.K e.name) ∧
  ((e.flds = [] ∧ dd = none) ∨ ∃ d fs, dd = some d ∧ F d = some (.xd fs) ∧ fs.map (·.1) = e.flds.map (·.1) ∧ RpAll c.K F (fs.map (·.2)) (e.flds.map (·.2)))
def XW (c : Cc) (pa : Nat → Addr) (H0 F0 F : Hp) : Exn → En → Prop := fun e r' => ∀ F' H' st' cls dd, Ok c.K pa H0 F0 F' H' st' r' → Ex F F' → ExOk c F' H' e cls dd → c.W cls dd st' H'
theorem XW.mono {c : Cc} {pa : Nat → Addr} {H0 F0 F F1 : Hp} (e : Ex F F1) : ∀ x r, XW c pa H0 F0 F x r → XW c pa H0 F0 F1 x r := fun x r h F' H' st' cls dd ok ex => h F' H' st' cls dd ok (e.trans ex)
/-- a value, or a new object of one's own -/
def RvOk (K : PySem.W.Frag) (H0 F H : Hp) (st : L2.St) (r : En) (v : V) : RV → Prop
  | .v d => Rp K F v d
  | .o c => ∃ a, v = .ref a ∧ F a = none ∧ H0 a = none ∧ CtOk K F H a c ∧ Away H0 F H st r a c
def tM (c : Cc) (m : M D) : TE := fun st H Q => ∃ pa H0 F0 F r, Ok c.K pa H0 F0 F H st r ∧ Po (XW c pa H0 F0 F) (m r) fun d r' => ∀ F' H' v, Ok c.K pa H0 F0 F' H' st r' → Ex F F' → Rp c.K F' v d → Q v H'
def tO (c : Cc) (m : M RV) : TE := fun st H Q => ∃ pa H0 F0 F r, Ok c.K pa H0 F0 F H st r ∧ Po (XW c pa H0 F0 F) (m r) fun d r' => ∀ F' H' v, Ok c.K pa H0 F0 F' H' st r' → Ex F F' → RvOk c.K H0 F' H' st r' v d → Q v H'
def tT (c : Cc) (m : M Bool) : TT := fun st H Q => ∃ pa H0 F0 F r, Ok c.K pa H0 F0 F H st r ∧ Po (XW c pa H0 F0 F) (m r) fun b r' => ∀ F' H', Ok c.K pa H0 F0 F' H' st r' → Ex F F' → Q b H'
def tA (c : Cc) (m : M (List D)) : TA := fun st H Q => ∃ pa H0 F0 F r, Ok c.K pa H0 F0 F H st r ∧ Po (XW c pa H0 F0 F) (m r) fun ds r' => ∀ F' H' vs, Ok c.K pa H0 F0 F' H' st r' → Ex F F' → RpAll c.K F' vs ds → Q vs H'
inductive Fl where
  | nx | bk | ct | rt (r : RV)
def flEnd (K : PySem.W.Frag) (pa : Nat → Addr) (H0 F0 F : Hp) (Dd : Ends) (r' : En) : Fl → Prop
  | .nx => ∀ F' H' st', Ok K pa H0 F0 F' H' st' r' → Ex F F' → Dd.nx st' H'
  | .bk => ∀ F' H' st', Ok K pa H0 F0 F' H' st' r' → Ex F F' → Dd.bk st' H'
  | .ct => ∀ F' H' st', Ok K pa H0 F0 F' H' st' r' → Ex F F' → Dd.ct st' H'
  | .rt rv => ∀ F' H' st' v, Ok K pa H0 F0 F' H' st' r' → Ex F F' → RvOk K H0 F' H' st' r' v rv → Dd.rt v H'
def sM (c : Cc) (m : M Fl) : TS := fun Dd st H => ∃ pa H0 F0 F r, Ok c.K pa H0 F0 F H st r ∧ Po (XW c pa H0 F0 F) (m r) fun fl r' => flEnd c.K pa H0 F0 F Dd r' fl
theorem flEnd.mono {K : PySem.W.Frag} {pa : Nat → Addr} {H0 F0 F F1 : Hp} {Dd : Ends} {r' : En} {fl : Fl} (e : Ex F F1) (h : flEnd K pa H0 F0 F Dd r' fl) : flEnd K pa H0 F0 F1 Dd r' fl := by
  cases fl with
  | nx => exact fun F' H' st' k ex => h F' H' st' k (e.trans ex)
  | bk => exact fun F' H' st' k ex => h F' H' st' k (e.trans ex)
  | ct => exact fun F' H' st' k ex => h F' H' st' k (e.trans ex)
  | rt rv => exact fun F' H' st' v k ex => h F' H' st' v k (e.trans ex)
section
variable {X : Cx} {c : Cc}
theorem pe_cq {e : Expr} {t t' : TE} (h : PE X e t) (i : ∀ st H Q, t' st H Q → t st H Q) : PE X e t' := ⟨fun pins s st H Q I q => h.run pins s st H Q I (i st H Q q)⟩
theorem pt_cq {e : Expr} {t t' : TT} (h : PT X e t) (i : ∀ st H Q, t' st H Q → t st H Q) : PT X e t' := ⟨fun pins s st H Q I q => h.run pins s st H Q I (i st H Q q)⟩
theorem pw_cq {e : Expr} {t t' : TT} (h : PW X e t) (i : ∀ st H Q, t' st H Q → t st H Q) : PW X e t' := ⟨fun wh pins s st H Q I q => h.run wh pins s st H Q I (i st H Q q)⟩
theorem pa_cq {e : List Expr} {t t' : TA} (h : PA X e t) (i : ∀ st H Q, t' st H Q → t st H Q) : PA X e t' := ⟨fun pos pins s st H Q I q => h.run pos pins s st H Q I (i st H Q q)⟩
theorem ps_cq {e : Stmt} {t t' : TS} (h : PS X e t) (i : ∀ Dd st H, t' Dd st H → t Dd st H) : PS X e t' := ⟨fun pins s st H Dd I q => h.run pins s st H Dd I (i Dd st H q)⟩
theorem pss_cq {e : List Stmt} {t t' : TS} (h : PSs X e t) (i : ∀ Dd st H, t' Dd st H → t Dd st H) : PSs X e t' := ⟨fun pins s st H Dd I q => h.run pins s st H Dd I (i Dd st H q)⟩
/-! ### the chaining of two parts -/
theorem seqM {α : Type} {pa : Nat → Addr} {H0 F0 F H : Hp} {st : L2.St} {r : En} {ma : M D} {f : D → M α} {k : α → En → Prop} {Q : VK} (ok : Ok c.K pa H0 F0 F H st r) (po : Po (XW c pa H0 F0 F) (ma.bind f r) k)
    (h : ∀ d r1 F1 H1 v, Ok c.K pa H0 F0 F1 H1 st r1 → Ex F F1 → Rp c.K F1 v d → Po (XW c pa H0 F0 F1) (f d r1) k → Q v H1) : tM c ma st H Q :=
  ⟨pa, H0, F0, F, r, ok, (Po.bind po).mono (fun _ _ x => x) fun d r1 q F1 H1 v k1 e1 dp => h d r1 F1 H1 v k1 e1 dp (q.mono (XW.mono e1) fun _ _ x => x)⟩
theorem seqO {α : Type} {pa : Nat → Addr} {H0 F0 F H : Hp} {st : L2.St} {r : En} {ma : M RV} {f : RV → M α} {k : α → En → Prop} {Q : VK} (ok : Ok c.K pa H0 F0 F H st r) (po : Po (XW c pa H0 F0 F) (ma.bind f r) k)
    (h : ∀ d r1 F1 H1 v, Ok c.K pa H0 F0 F1 H1 st r1 → Ex F F1 → RvOk c.K H0 F1 H1 st r1 v d → Po (XW c pa H0 F0 F1) (f d r1) k → Q v H1) : tO c ma st H Q :=
  ⟨pa, H0, F0, F, r, ok, (Po.bind po).mono (fun _ _ x => x) fun d r1 q F1 H1 v k1 e1 dp => h d r1 F1 H1 v k1 e1 dp (q.mono (XW.mono e1) fun _ _ x => x)⟩
theorem seqT {α : Type} {pa : Nat → Addr} {H0 F0 F H : Hp} {st : L2.St} {r : En} {ma : M Bool} {f : Bool → M α} {k : α → En → Prop} {Q : Bool → Hp → Prop} (ok : Ok c.K pa H0 F0 F H st r) (po : Po (XW c pa H0 F0 F) (ma.bind f r) k)
    (h : ∀ d r1 F1 H1, Ok c.K pa H0 F0 F1 H1 st r1 → Ex F F1 → Po (XW c pa H0 F0 F1) (f d r1) k → Q d H1) : tT c ma st H Q :=
  ⟨pa, H0, F0, F, r, ok, (Po.bind po).mono (fun _ _ x => x) fun d r1 q F1 H1 k1 e1 => h d r1 F1 H1 k1 e1 (q.mono (XW.mono e1) fun _ _ x => x)⟩
theorem seqA {α : Type} {pa : Nat → Addr} {H0 F0 F H : Hp} {st : L2.St} {r : En} {ma : M (List D)} {f : List D → M α} {k : α → En → Prop} {Q : List V → Hp → Prop} (ok : Ok c.K pa H0 F0 F H st r) (po : Po (XW c pa H0 F0 F) (ma.bind f r) k)
    (h : ∀ d r1 F1 H1 vs, Ok c.K pa H0 F0 F1 H1 st r1 → Ex F F1 → RpAll c.K F1 vs d → Po (XW c pa H0 F0 F1) (f d r1) k → Q vs H1) : tA c ma st H Q :=
  ⟨pa, H0, F0, F, r, ok, (Po.bind po).mono (fun _ _ x => x) fun d r1 q F1 H1 v k1 e1 dp => h d r1 F1 H1 v k1 e1 dp (q.mono (XW.mono e1) fun _ _ x => x)⟩
theorem againM {pa : Nat → Addr} {H0 F0 F F1 H : Hp} {st : L2.St} {r : En} {m : M D} {Q : VK} (ok : Ok c.K pa H0 F0 F1 H st r) (e : Ex F F1) (po : Po (XW c pa H0 F0 F1) (m r) fun d r' => ∀ F' H' v, Ok c.K pa H0 F0 F' H' st r' → Ex F F' → Rp c.K F' v d → Q v H') : tM c m st H Q :=
  ⟨pa, H0, F0, F1, r, ok, po.mono (fun _ _ x => x) fun d r' q F' H' v k e' => q F' H' v k (e.trans e')⟩
theorem againT {pa : Nat → Addr} {H0 F0 F F1 H : Hp} {st : L2.St} {r : En} {m : M Bool} {Q : Bool → Hp → Prop} (ok : Ok c.K pa H0 F0 F1 H st r) (e : Ex F F1) (po : Po (XW c pa H0 F0 F1) (m r) fun d r' => ∀ F' H', Ok c.K pa H0 F0 F' H' st r' → Ex F F' → Q d H') : tT c m st H Q :=
  ⟨pa, H0, F0, F1, r, ok, po.mono (fun _ _ x => x) fun d r' q F' H' k e' => q F' H' k (e.trans e')⟩
theorem againS {pa : Nat → Addr} {H0 F0 F F1 H : Hp} {st : L2.St} {r : En} {m : M Fl} {Dd : Ends} (ok : Ok c.K pa H0 F0 F1 H st r) (e : Ex F F1) (po : Po (XW c pa H0 F0 F1) (m r) fun fl r' => flEnd c.K pa H0 F0 F Dd r' fl) : sM c m Dd st H :=
  ⟨pa, H0, F0, F1, r, ok, po.mono (fun _ _ x => x) fun d r' q => q.mono e⟩
/-! ### names and constants -/
def getS (i : Nat) : M D := fun r => match r[i]? with
  | some (.v d) => .ok d r
  | _ => .no
theorem getS_po {i : Nat} {r : En} {Xp : Exn → En → Prop} {k : D → En → Prop} (h : Po Xp (getS i r) k) : ∃ d, r[i]? = some (.v d) ∧ k d r := by
  unfold getS at h
  split at h
  · exact ⟨_, by assumption, h⟩
  · exact h.elim
theorem e_var (i : Nat) {x : Str} {pos : Pos} (hN : X.N[i]? = some x := by rfl) (hv : Vis X.env.scope x := by first | exact Or.inl rfl | exact Or.inr (Or.inl rfl) | exact Or.inr (Or.inr rfl)) (hd : (x == ("__debug__" : Str)) = false := by decide)
    (hcd : (x == ("__classdict__" : Str)) = false := by decide) : PE X (.Name x pos) (tM c (getS i)) :=
  pe_cq (pe_var (i := i) hN hv hd hcd) fun st H Q ⟨pa, H0, F0, F, r, ok, po⟩ => by
    obtain ⟨d, h1, h2⟩ := getS_po po
    obtain ⟨v, e1, e2⟩ := ok.val h1
    exact ⟨v, e1, h2 F H v ok (Ex.refl F) e2⟩
theorem e_cst {e : Expr} {v : V} {d : D} (h : PE X e (tC v)) (hr : ∀ F, Rp c.K F v d) : PE X e (tM c (M.ret d)) :=
  pe_cq h fun st H Q ⟨pa, H0, F0, F, r, ok, po⟩ => po F H v ok (Ex.refl F) (hr F)
theorem e_int {i j pos} : PE X (.Constant (.int i) j pos) (tM c (M.ret (.int i))) := e_cst pe_int fun _ => .int i
theorem e_bl {b j pos} : PE X (.Constant (.bool b) j pos) (tM c (M.ret (.bool b))) := e_cst pe_bl fun _ => .bl b
theorem e_non {j pos} : PE X (.Constant .none j pos) (tM c (M.ret .none)) := e_cst pe_non fun _ => .non
theorem e_str {x j pos} : PE X (.Constant (.str x) j pos) (tM c (M.ret (.str x))) := e_cst pe_str fun _ => .str x
theorem e_globI {x : Str} {i : Int} {t : Tok} {pos : Pos} (hm : X.mg x = some (.int i t)) (hg : Gl X x := by rfl) (hd : (x == ("__debug__" : Str)) = false := by decide) : PE X (.Name x pos) (tM c (M.ret (.int i))) := e_cst (pe_glob (v := .int i) hg hm ⟨_, rfl⟩ hd) fun _ => .int i
/-! ### a value from an owned one -/
def RV.data : RV → Option D
  | .v d => some d
  | .o (.l ds) => some (.list ds)
  | .o (.d _) => none
  | .o (.t _) => none
  | .o (.n t) => t.data
theorem opt_po' {α : Type} {o : Option α} {r : En} {Xp : Exn → En → Prop} {k : α → En → Prop} (h : Po Xp (M.opt o r) k) : ∃ a, o = some a ∧ k a r := by
  cases o with
  | none => exact h.elim
  | some a => exact ⟨a, rfl, h⟩
def frzM (m : M RV) : M D := m.bind fun rv => M.opt rv.data
open Classical in
theorem Ok.frzRv {K : PySem.W.Frag} {pa : Nat → Addr} {H0 F0 F H : Hp} {st : L2.St} {r : En} (k : Ok K pa H0 F0 F H st r) {a : Addr} {t : Nt} {d : D} (z : F a = none ∧ H0 a = none ∧ CtOk K F H a (.n t) ∧ Away H0 F H st r a (.n t)) (hd : t.data = some d) : ∃ F', Ok K pa H0 F0 F' H st r ∧ Ex F F' ∧ Rp K F' (.ref a) d := by
  obtain ⟨z1, z2, z4, z5⟩ := z
  have hS : ∀ b, decide (b = a ∨ Inn H a (.n t) b) = true → b = a ∨ Inn H a (.n t) b := fun b hb => of_decide_eq_true hb
  obtain ⟨k3, eF⟩ := k.frzS (fun b => decide (b = a ∨ Inn H a (.n t) b)) (fun b hb => by
      rcases hS b hb with rfl | hb
      · exact z4.there
      · obtain ⟨ws, hw⟩ := z4.inn hb
        exact ⟨_, hw⟩) (fun b hb => by
      rcases hS b hb with rfl | hb
      · exact z2
      · exact (z5.2 b hb).2.1) (fun b hb => by
      rcases hS b hb with rfl | hb
      · exact z1
      · exact (z5.2 b hb).1) (fun b hb => by
      rcases hS b hb with rfl | hb
      · exact z5.1
      · exact (z5.2 b hb).2.2.2)
  exact ⟨_, k3, eF, nt_rp z4 eF hd (if_pos (decide_eq_true (.inl rfl))) fun b hb => if_pos (decide_eq_true (.inr hb))⟩
theorem e_val {e : Expr} {m : M RV} (h : PE X e (tO c m)) : PE X e (tM c (frzM m)) :=
  pe_cq h fun st H Q ⟨pa, H0, F0, F, r, ok, po⟩ => seqO ok po fun rv r1 F1 H1 v k1 e1 dp q => by
    cases rv with
    | v d => exact q F1 H1 v k1 e1 dp
    | o ct =>
      cases ct with
      | l ds =>
        obtain ⟨a, rfl, z1, z2, ⟨vs, z3, z4⟩, z5⟩ := dp
        have k2 := k1.frz z3 z2 z5.1 z1
        exact q _ H1 _ k2 (e1.trans (Ex.new z1)) (.lst (.inl (.inl upd_same)) (dpa_mono (Ex.new z1) z4))
      | t kvs => exact q.elim
      | d kvs => exact q.elim
      | n t =>
        obtain ⟨d, hd, q⟩ := opt_po' q
        obtain ⟨a, rfl, z⟩ := dp
        obtain ⟨F2, k2, eF, rp⟩ := k1.frzRv z hd
        exact q F2 H1 _ k2 (e1.trans eF) rp
theorem o_val {e : Expr} {m : M D} (h : PE X e (tM c m)) : PE X e (tO c (m.bind fun d => M.ret (.v d))) :=
  pe_cq h fun st H Q ⟨pa, H0, F0, F, r, ok, po⟩ => seqM ok po fun d r1 F1 H1 v k1 e1 dp q => q F1 H1 v k1 e1 dp
/-! ### argument lists -/
def aNil : M (List D) := M.ret []
def aCons (m : M D) (ms : M (List D)) : M (List D) := m.bind fun d => ms.bind fun ds => M.ret (d :: ds)
theorem a_nil : PA X [] (tA c aNil) := pa_cq pa_nil fun st H Q ⟨pa, H0, F0, F, r, ok, po⟩ => po F H [] ok (Ex.refl F) .nil
theorem a_cons {e : Expr} {es : List Expr} {m : M D} {ms : M (List D)} (h : PE X e (tM c m)) (hr : PA X es (tA c ms)) (hs : starEach (e :: es) X.env = (false, eval e X.env) :: starEach es X.env := by rfl) : PA X (e :: es) (tA c (aCons m ms)) :=
  pa_cq (pa_cons h hr hs) fun st H Q ⟨pa, H0, F0, F, r, ok, po⟩ => seqM ok po fun d r1 F1 H1 v k1 e1 dp q => seqA k1 q fun ds r2 F2 H2 vs k2 e2 dps q2 => q2 F2 H2 _ k2 (e1.trans e2) (.cons (dp_mono e2 dp) dps)
/-! ### displays -/
def szC (n : Nat) {α : Type} (a : α) : Option α := if n ≤ 16777216 then some a else none
theorem szC_po {α : Type} {n : Nat} {a : α} {r : En} {Xp : Exn → En → Prop} {k : α → En → Prop} (h : Po Xp (M.opt (szC n a) r) k) : n ≤ sizeLine ∧ k a r := by
  unfold szC at h
  split at h
  · exact ⟨by rw [sizeLine_eq]; assumption, h⟩
  · exact h.elim
def eTup (ms : M (List D)) : M D := ms.bind fun ds => M.opt (szC ds.length (.tuple ds))
def oLst (ms : M (List D)) : M RV := ms.bind fun ds => M.opt (szC ds.length (.o (.l ds)))
theorem e_tup {es : List Expr} {x1 : Nat} {pos : Pos} {ms : M (List D)} (h : PA X es (tA c ms)) : PE X (.Tuple es x1 pos) (tM c (eTup ms)) :=
  pe_cq (pe_tup h) fun st H Q ⟨pa, H0, F0, F, r, ok, po⟩ => seqA ok po fun ds r1 F1 H1 vs k1 e1 dps q => by
    obtain ⟨hz, q⟩ := szC_po q
    refine ⟨by rw [dpa_len dps]; exact hz, fun p np => ?_⟩
    have nF := k1.fH.nn np
    exact q _ _ _ (k1.layF np) (e1.trans (Ex.new nF)) (.tup upd_same (dpa_mono (Ex.new nF) dps))
theorem o_lst {es : List Expr} {pos : Pos} {ms : M (List D)} (h : PA X es (tA c ms)) : PE X (.List es pos) (tO c (oLst ms)) :=
  pe_cq (pe_lst h) fun st H Q ⟨pa, H0, F0, F, r, ok, po⟩ => seqA ok po fun ds r1 F1 H1 vs k1 e1 dps q => by
    obtain ⟨hz, q⟩ := szC_po q
    refine ⟨by rw [dpa_len dps]; exact hz, fun p np => ?_⟩
    have nF := k1.fH.nn np
    exact q F1 _ _ (k1.lay np) e1 ⟨p, rfl, nF, k1.hH.nn np, ⟨vs, upd_same, dps⟩, .l (k1.nobody np).upd⟩
/-! ### operators on data: g tells the answer -/
/-- nothing new, or one new frozen object -/
def NewF (F H F' H' : Hp) : Prop := (F' = F ∧ H' = H) ∨ ∃ p o, H p = none ∧ F' = upd F p o ∧ H' = upd H p o
theorem NewF.ok {K : PySem.W.Frag} {pa : Nat → Addr} {H0 F0 F H F' H' : Hp} {st : L2.St} {r : En} (n : NewF F H F' H') (k : Ok K pa H0 F0 F H st r) : Ok K pa H0 F0 F' H' st r ∧ Ex F F' := by
  rcases n with ⟨rfl, rfl⟩ | ⟨p, o, np, rfl, rfl⟩
  · exact ⟨k, Ex.refl _⟩
  · exact ⟨k.layF np, Ex.new (k.fH.nn np)⟩
def rD2 (K : PySem.W.Frag) (g : D → D → Option D) : R2 := fun x y H Q => ∃ F d e z, Ex F H ∧ Rp K F x d ∧ Rp K F y e ∧ g d e = some z ∧ ∀ v F' H', NewF F H F' H' → Rp K F' v z → Q v H'
def rDA (K : PySem.W.Frag) (g : List D → Option D) : List V → Hp → VK → Prop := fun xs H Q => ∃ F ds z, Ex F H ∧ RpAll K F xs ds ∧ g ds = some z ∧ ∀ v F' H', NewF F H F' H' → Rp K F' v z → Q v H'
def bin (g : D → D → Option D) (ma mb : M D) : M D := ma.bind fun x => mb.bind fun y => M.opt (g x y)
def una (g : D → Option D) (ma : M D) : M D := ma.bind fun x => M.opt (g x)
def nry (g : List D → Option D) (ms : M (List D)) : M D := ms.bind fun ds => M.opt (g ds)
def nryO (g : List D → Option (List D)) (ms : M (List D)) : M RV := ms.bind fun ds => M.opt ((g ds).map fun z => .o (.l z))
theorem opt_po {α : Type} {o : Option α} {r : En} {Xp : Exn → En → Prop} {k : α → En → Prop} (h : Po Xp (M.opt o r) k) : ∃ a, o = some a ∧ k a r := by
  cases o with
  | none => exact h.elim
  | some a => exact ⟨a, rfl, h⟩
theorem op_end {pa : Nat → Addr} {H0 F0 F H : Hp} {st : L2.St} {r r' : En} {d : D} {Q : VK} (k : Ok c.K pa H0 F0 F H st r) (q : ∀ F' H' v, Ok c.K pa H0 F0 F' H' st r → Ex F F' → Rp c.K F' v d → Q v H') :
    ∀ v F' H', NewF F H F' H' → Rp c.K F' v d → Q v H' := fun v F' H' n dp => by
  obtain ⟨k2, e2⟩ := n.ok k
  exact q F' H' v k2 e2 dp
theorem bin_ok {g : D → D → Option D} {ta tb : M D} {st : L2.St} {H : Hp} {Q : VK} (h : tM c (bin g ta tb) st H Q) : tOp (rD2 c.K g) (tM c ta) (tM c tb) st H Q := by
  obtain ⟨pa, H0, F0, F, r, ok, po⟩ := h
  refine seqM ok po fun d r1 F1 H1 v k1 e1 dp q => seqM k1 q fun d2 r2 F2 H2 v2 k2 e2 dp2 q2 => ?_
  obtain ⟨z, hz, q3⟩ := opt_po q2
  exact ⟨F2, d, d2, z, k2.fH, dp_mono e2 dp, dp2, hz, op_end (r' := r2) k2 fun F' H' v ok ex dp => q3 F' H' v ok ((e1.trans e2).trans ex) dp⟩
theorem e_op {op : Operator} {g : D → D → Option D} {a b : Expr} {ma mb : M D} {pos : Pos} (ho : OpR X (binaryOp op) (rD2 c.K g)) (ha : PE X a (tM c ma)) (hb : PE X b (tM c mb)) : PE X (.BinOp a op b pos) (tM c (bin g ma mb)) :=
  pe_cq (pe_op ho ha hb) fun _ _ _ h => bin_ok h
theorem e_cmp {op : CmpOp} {g : D → D → Option D} {a b : Expr} {ma mb : M D} {pos : Pos} (ho : OpR X (compareOp op) (rD2 c.K g)) (ha : PE X a (tM c ma)) (hb : PE X b (tM c mb)) (hm : behindInMarks op b = false := by first | exact nomark _ | rfl) : PE X (.Compare a [op] [b] pos) (tM c (bin g ma mb)) :=
  pe_cq (pe_cmpR ho ha hb hm) fun _ _ _ h => bin_ok h
theorem e_ix {g : D → D → Option D} {a b : Expr} {ma mb : M D} {pos : Pos} (ho : IxR X (rD2 c.K g)) (ha : PE X a (tM c ma)) (hb : PE X b (tM c mb)) (hs : PlainIx b := by exact fun _ _ => rfl) : PE X (.Subscript a b pos) (tM c (bin g ma mb)) :=
  pe_cq (pe_ix ho ha hb hs) fun _ _ _ h => bin_ok h
theorem e_callB {id : String} {g : List D → Option D} {x : Str} {e : Expr} {es : List Expr} {p pos : Pos} {ms : M (List D)} (hc : CallR X (.builtin id) (rDA c.K g)) (hm : X.mg x = none) (ha : PA X (e :: es) (tA c ms)) (hg : Gl X x := by rfl) (hv : bootBuiltins x = some (.builtin id) := by decide +kernel) (hn : x ≠ "__name__" := by decide) (hdb : (x == ("__debug__" : Str)) = false := by decide)
    (he : starEach (e :: es) X.env = (false, eval e X.env) :: starEach es X.env := by rfl) (hpl : (backTo pos (starEach es X.env)).any (·.1) = false := by rfl) : PE X (.Call (.Name x p) (e :: es) [] pos) (tM c (nry g ms)) :=
  pe_cq (pe_callB hc hg hm hv ha hn hdb he hpl) fun _ _ _ ⟨pa, H0, F0, F, r, ok, po⟩ => seqA ok po fun ds r1 F1 H1 vs k1 e1 dps q => by
    obtain ⟨z, hz, q3⟩ := opt_po q
    exact ⟨F1, ds, z, k1.fH, dps, hz, op_end (r' := r1) k1 fun F' H' v ok ex dp => q3 F' H' v ok (e1.trans ex) dp⟩
theorem e_callT {T : String} {g : List D → Option D} {x : Str} {e : Expr} {es : List Expr} {p pos : Pos} {ms : M (List D)} (hc : CallR X (.type T) (rDA c.K g)) (hm : X.mg x = none) (ha : PA X (e :: es) (tA c ms)) (hg : Gl X x := by rfl) (hv : bootBuiltins x = some (.type T) := by decide +kernel) (hn : x ≠ "__name__" := by decide) (hdb : (x == ("__debug__" : Str)) = false := by decide)
    (he : starEach (e :: es) X.env = (false, eval e X.env) :: starEach es X.env := by rfl) (hpl : (backTo pos (starEach es X.env)).any (·.1) = false := by rfl) : PE X (.Call (.Name x p) (e :: es) [] pos) (tM c (nry g ms)) :=
  pe_cq (pe_callTy hc hg hm hv ha hn hdb he hpl) fun _ _ _ ⟨pa, H0, F0, F, r, ok, po⟩ => seqA ok po fun ds r1 F1 H1 vs k1 e1 dps q => by
    obtain ⟨z, hz, q3⟩ := opt_po q
    exact ⟨F1, ds, z, k1.fH, dps, hz, op_end (r' := r1) k1 fun F' H' v ok ex dp => q3 F' H' v ok (e1.trans ex) dp⟩
/-! ### tests -/
def tru : D → Option Bool
  | .none => some false
  | .bool b => some b
  | .int i => some (i != 0)
  | .str x => if x.length ≤ 16777216 then some ((x.length : Int) != 0) else none
  | .list ds => some (!ds.isEmpty)
  | .tuple ds => some (!ds.isEmpty)
  | .dict _ => none
def tBool (m : M D) : M Bool := m.bind fun d => M.opt (match d with
  | .bool b => some b
  | _ => none)
def tTru (m : M D) : M Bool := m.bind fun d => M.opt (tru d)
def tNotM (m : M Bool) : M Bool := m.bind fun b => M.ret (!b)
def tAndM (m n : M Bool) : M Bool := m.bind fun b => if b = true then n else M.ret false
def tOrM (m n : M Bool) : M Bool := m.bind fun b => if b = true then M.ret true else n
theorem dpa_emp {K : PySem.W.Frag} {F : Hp} : ∀ {vs : List V} {ds : List D}, RpAll K F vs ds → (!ds.isEmpty) = !vs.isEmpty
  | _, _, .nil => rfl
  | _, _, .cons _ _ => rfl
/-- a comparison as a test -/
theorem t_cmp {op : CmpOp} {g : D → D → Option D} {a b : Expr} {ma mb : M D} {pos : Pos} (ho : OpR X (compareOp op) (rD2 c.K g)) (ha : PE X a (tM c ma)) (hb : PE X b (tM c mb)) (hm : behindInMarks op b = false := by first | exact nomark _ | rfl) : PT X (.Compare a [op] [b] pos) (tT c (tBool (bin g ma mb))) :=
  pt_cq (pt_cmpR ho ha hb hm) fun st H Q h => by
    obtain ⟨pa, H0, F0, F, r, ok, po⟩ := h
    refine bin_ok ?_
    refine seqM ok po fun d r1 F1 H1 v k1 e1 dp q => ?_
    obtain ⟨b, hb, q⟩ := opt_po q
    cases dp with
    | bl b' =>
      cases hb
      exact ⟨_, rfl, q F1 H1 k1 e1⟩
    | _ => cases hb
theorem t_tru {e : Expr} {m : M D} (h : PE X e (tM c m)) (hK : c.K = X.K := by rfl) (he : ∀ whole, isTrue e X.env whole = (do let v ← whole; standAt e.pos; holding [v] (truthy v)) := by intro _; rfl) : PT X e (tT c (tTru m)) :=
  pt_cq (pt_truth h he) fun st H Q ⟨pa, H0, F0, F, r, ok, po⟩ => seqM ok po fun d r1 F1 H1 v k1 e1 dp q => by
    obtain ⟨b, hb, q⟩ := opt_po q
    have fin := q F1 H1 k1 e1
    cases dp with
    | non => cases hb; exact ⟨_, rfl, fin⟩
    | bl b' => cases hb; exact ⟨_, rfl, fin⟩
    | int i => cases hb; exact ⟨_, rfl, fin⟩
    | str x =>
      have hb : (if x.length ≤ 16777216 then some ((x.length : Int) != 0) else none) = some b := hb
      by_cases hx : x.length ≤ 16777216
      · rw [if_pos hx] at hb
        cases hb
        exact ⟨_, ⟨by rw [sizeLine_eq]; exact hx, rfl⟩, fin⟩
      · rw [if_neg hx] at hb
        cases hb
    | lst h1 h2 =>
      cases hb
      exact ⟨_, .inl ⟨_, by rw [← hK]; exact k1.fH.l h1, dpa_emp h2⟩, fin⟩
    | tup h1 h2 =>
      cases hb
      exact ⟨_, .inr (.inl ⟨_, by rw [← hK]; exact k1.fH.t h1, dpa_emp h2⟩), fin⟩
    | _ => cases hb
theorem t_not {e : Expr} {m : M Bool} {pos : Pos} (h : PT X e (tT c m)) : PT X (.UnaryOp .Not e pos) (tT c (tNotM m)) :=
  pt_cq (pt_not h) fun st H Q ⟨pa, H0, F0, F, r, ok, po⟩ => seqT ok po fun b r1 F1 H1 k1 e1 q => q F1 H1 k1 e1
theorem w_and1 {e : Expr} {m : M Bool} {pos : Pos} (h : PT X e (tT c m)) : PW X (.BoolOp .And [e] pos) (tT c m) := pw_and1 h
theorem w_or1 {e : Expr} {m : M Bool} {pos : Pos} (h : PT X e (tT c m)) : PW X (.BoolOp .Or [e] pos) (tT c m) := pw_or1 h
theorem w_and {a b : Expr} {rest : List Expr} {m n : M Bool} {pos : Pos} (h : PT X a (tT c m)) (h2 : PW X (.BoolOp .And (b :: rest) pos) (tT c n)) : PW X (.BoolOp .And (a :: b :: rest) pos) (tT c (tAndM m n)) :=
  pw_cq (pw_and h h2) fun st H Q ⟨pa, H0, F0, F, r, ok, po⟩ => seqT ok po fun b r1 F1 H1 k1 e1 q => by
    cases b with
    | true => exact againT k1 e1 q
    | false => exact q F1 H1 k1 e1
theorem w_or {a b : Expr} {rest : List Expr} {m n : M Bool} {pos : Pos} (h : PT X a (tT c m)) (h2 : PW X (.BoolOp .Or (b :: rest) pos) (tT c n)) : PW X (.BoolOp .Or (a :: b :: rest) pos) (tT c (tOrM m n)) :=
  pw_cq (pw_or h h2) fun st H Q ⟨pa, H0, F0, F, r, ok, po⟩ => seqT ok po fun b r1 F1 H1 k1 e1 q => by
    cases b with
    | true => exact q F1 H1 k1 e1
    | false => exact againT k1 e1 q
/-! ### and, or, not as values -/
def eNot (m : M D) : M D := (tBool m).bind fun b => M.ret (.bool (!b))
def eAnd (m n : M D) : M D := (tBool m).bind fun b => if b = true then n else M.ret (.bool false)
def eOr (m n : M D) : M D := (tBool m).bind fun b => if b = true then M.ret (.bool true) else n
theorem seqB {α : Type} {pa : Nat → Addr} {H0 F0 F H : Hp} {st : L2.St} {r : En} {ma : M D} {f : Bool → M α} {k : α → En → Prop} {Q : VK} (ok : Ok c.K pa H0 F0 F H st r) (po : Po (XW c pa H0 F0 F) ((tBool ma).bind f r) k)
    (h : ∀ b r1 F1 H1, Ok c.K pa H0 F0 F1 H1 st r1 → Ex F F1 → Po (XW c pa H0 F0 F1) (f b r1) k → Q (.bl b) H1) : tM c ma st H Q := by
  have po2 : Po (XW c pa H0 F0 F) (ma.bind (fun d => (M.opt (match d with
    | .bool b => some b
    | _ => none)).bind f) r) k := by
    unfold tBool M.bind at po
    unfold M.bind
    cases hm : ma r with
    | ok d r1 =>
      rw [hm] at po
      exact po
    | ex e r1 =>
      rw [hm] at po
      exact po
    | no =>
      rw [hm] at po
      exact po
  refine seqM ok po2 fun d r1 F1 H1 v k1 e1 dp q => ?_
  cases dp with
  | bl b => exact h b r1 F1 H1 k1 e1 q
  | _ => exact q.elim
theorem e_not {e : Expr} {m : M D} {pos : Pos} (h : PE X e (tM c m)) : PE X (.UnaryOp .Not e pos) (tM c (eNot m)) :=
  pe_cq (pe_not h) fun st H Q ⟨pa, H0, F0, F, r, ok, po⟩ => seqB ok po fun b r1 F1 H1 k1 e1 q => ⟨b, rfl, q F1 H1 _ k1 e1 (.bl _)⟩
theorem e_one {op} {e : Expr} {m : M D} {pos : Pos} (h : PE X e (tM c m)) : PE X (.BoolOp op [e] pos) (tM c m) := pe_one h
theorem e_and {a b : Expr} {rest : List Expr} {m n : M D} {pos : Pos} (h : PE X a (tM c m)) (h2 : PE X (.BoolOp .And (b :: rest) pos) (tM c n)) : PE X (.BoolOp .And (a :: b :: rest) pos) (tM c (eAnd m n)) :=
  pe_cq (pe_and h h2) fun st H Q ⟨pa, H0, F0, F, r, ok, po⟩ => seqB ok po fun b r1 F1 H1 k1 e1 q => ⟨b, rfl, by
    cases b with
    | true => exact againM k1 e1 q
    | false => exact q F1 H1 _ k1 e1 (.bl _)⟩
/-- a if t else b -/
def eIf (t : M Bool) (m n : M D) : M D := t.bind fun b => if b = true then m else n
end
end Pu
namespace Pu
open PySem PySem.Spec PyProof.Rows L2
variable [TabT]
/-! ### storing -/
def setN (i : Nat) (s : Sl) (r : En) : Option En := match r[i]? with
  | some (.io _) => none
  | some .pin => none
  | some _ => some (r.set i s)
  | none => none
theorem setN_some {i : Nat} {s : Sl} {r r' : En} (h : setN i s r = some r') : r' = r.set i s ∧ ∀ q, r[i]? = some q → q.isIo = false := by
  unfold setN at h
  split at h
  · cases h
  · cases h
  · rename_i q hn hp hq
    cases h
    refine ⟨rfl, fun q' e => ?_⟩
    rw [hq] at e
    cases e
    cases q with
    | io c => exact absurd rfl (hn c)
    | pin => exact absurd rfl hp
    | _ => rfl
  · cases h
def setM (i : Nat) (s : Sl) : M Fl := fun r => match setN i s r with
  | some r' => .ok .nx r'
  | none => .no
theorem setM_po {i : Nat} {s : Sl} {r : En} {Xp : Exn → En → Prop} {k : Fl → En → Prop} (h : Po Xp (setM i s r) k) : k .nx (r.set i s) ∧ ∀ q, r[i]? = some q → q.isIo = false := by
  unfold setM at h
  cases e : setN i s r with
  | none =>
    rw [e] at h
    exact h.elim
  | some r' =>
    rw [e] at h
    obtain ⟨rfl, h2⟩ := setN_some e
    exact ⟨h, h2⟩
def slOf : RV → Sl
  | .v d => .v d
  | .o c => .o c
def sSet (i : Nat) (m : M D) : M Fl := m.bind fun d => setM i (.v d)
def sSetO (i : Nat) (m : M RV) : M Fl := m.bind fun d => setM i (slOf d)
def sNil : M Fl := M.ret .nx
def sSeq (m n : M Fl) : M Fl := m.bind fun fl => match fl with
  | .nx => n
  | f => M.ret f
def sIf (t : M Bool) (a b : M Fl) : M Fl := t.bind fun x => if x = true then a else b
def sRet (m : M RV) : M Fl := m.bind fun d => M.ret (.rt d)
def sDrop (m : M D) : M Fl := m.bind fun _ => M.ret .nx
def sDropO (m : M RV) : M Fl := m.bind fun _ => M.ret .nx
section
variable {X : Cx} {c : Cc} {K : PySem.W.Frag} {pa : Nat → Addr} {H0 F0 F H : Hp} {st0 : L2.St} {r0 : En}
theorem Ok.setRv (k : Ok K pa H0 F0 F H st0 r0) {i : Nat} {v : V} {d : RV} (hi : ∀ q, r0[i]? = some q → q.isIo = false) (h : RvOk K H0 F H st0 r0 v d) : Ok K pa H0 F0 F H (st0.set i (some v)) (r0.set i (slOf d)) := by
  cases d with
  | v d => exact k.setV hi h
  | o ct =>
    obtain ⟨a, rfl, z1, z2, z3, z4⟩ := h
    refine k.set (s := .o ct) hi rfl ⟨a, rfl, z1, z2, z3⟩ fun a' c' e0 e => ?_
    cases e
    cases e0
    exact ⟨z4.1.unk, fun b hb => by
      obtain ⟨g1, g2, g3, g4⟩ := z4.2 b hb
      exact ⟨g1, g2, g3, g4.unk⟩⟩
theorem s_set {i : Nat} {x : Str} {e : Expr} {m : M D} {pos pos' : Pos} (he : PE X e (tM c m)) (hN : X.N.Nodup) (hi : X.N[i]? = some x := by rfl) (hx : Loc X.env.scope x := by first | exact Or.inl rfl | exact Or.inr rfl)
    (hs : swapsWith e (some (.Name x pos')) pos.line X.env = pure false := by rfl) (hf : X.fn x = true ∨ X.env.scope.names.lookup x = some .local := by first | exact .inl rfl | exact .inr rfl) : PS X (.Assign [.Name x pos'] e pos) (sM c (sSet i m)) :=
  ps_cq (ps_set hN hi hx he hs hf) fun Dd st H ⟨pa, H0, F0, F, r, ok, po⟩ => seqM ok po fun d r1 F1 H1 v k1 e1 dp q => by
    obtain ⟨q, hi⟩ := setM_po q
    exact q F1 H1 _ (k1.setV hi dp) e1
theorem s_setO {i : Nat} {x : Str} {e : Expr} {m : M RV} {pos pos' : Pos} (he : PE X e (tO c m)) (hN : X.N.Nodup) (hi : X.N[i]? = some x := by rfl) (hx : Loc X.env.scope x := by first | exact Or.inl rfl | exact Or.inr rfl)
    (hs : swapsWith e (some (.Name x pos')) pos.line X.env = pure false := by rfl) (hf : X.fn x = true ∨ X.env.scope.names.lookup x = some .local := by first | exact .inl rfl | exact .inr rfl) : PS X (.Assign [.Name x pos'] e pos) (sM c (sSetO i m)) :=
  ps_cq (ps_set hN hi hx he hs hf) fun Dd st H ⟨pa, H0, F0, F, r, ok, po⟩ => seqO ok po fun d r1 F1 H1 v k1 e1 dp q => by
    obtain ⟨q, hi⟩ := setM_po q
    exact q F1 H1 _ (k1.setRv hi dp) e1
theorem ss_nil : PSs X [] (sM c sNil) := pss_cq pss_nil fun Dd st H ⟨pa, H0, F0, F, r, ok, po⟩ => po F H st ok (Ex.refl F)
theorem seqS {s1 : M Fl} {t : TS} {n : M Fl} {Dd : Ends} {st : L2.St} {H : Hp} (h : sM c (sSeq s1 n) Dd st H) (ht : ∀ Dd st H, sM c n Dd st H → t Dd st H) : sM c s1 { Dd with nx := t Dd } st H := by
  obtain ⟨pa, H0, F0, F, r, ok, po⟩ := h
  refine ⟨pa, H0, F0, F, r, ok, (Po.bind po).mono (fun _ _ x => x) fun fl r1 q => ?_⟩
  cases fl with
  | nx => exact fun F' H' st' k e => ht Dd st' H' (againS k e (q.mono (XW.mono e) fun _ _ x => x))
  | bk => exact q
  | ct => exact q
  | rt rv => exact q
theorem ss_cons {s : Stmt} {rest : List Stmt} {m n : M Fl} (h1 : PS X s (sM c m)) (h2 : PSs X rest (sM c n)) : PSs X (s :: rest) (sM c (sSeq m n)) :=
  pss_cq (pss_cons h1 h2) fun Dd st H h => seqS h fun _ _ _ x => x
theorem ss_one {s : Stmt} {m : M Fl} (h1 : PS X s (sM c m)) : PSs X [s] (sM c m) := pss_one h1
theorem s_if {t : Expr} {a b : List Stmt} {mt : M Bool} {ma mb : M Fl} {pos : Pos} (ht : PT X t (tT c mt)) (ha : PSs X a (sM c ma)) (hb : PSs X b (sM c mb)) : PS X (.If t a b pos) (sM c (sIf mt ma mb)) :=
  ps_cq (ps_if ht ha hb) fun Dd st H ⟨pa, H0, F0, F, r, ok, po⟩ => seqT ok po fun b r1 F1 H1 k1 e1 q => by
    cases b with
    | true => exact againS k1 e1 q
    | false => exact againS k1 e1 q
theorem s_ret {e : Expr} {m : M RV} {pos : Pos} (h : PE X e (tO c m)) : PS X (.Return (some e) pos) (sM c (sRet m)) :=
  ps_cq (ps_ret h) fun Dd st H ⟨pa, H0, F0, F, r, ok, po⟩ => seqO ok po fun d r1 F1 H1 v k1 e1 dp q => q F1 H1 st v k1 e1 dp
theorem s_exprO {e : Expr} {m : M RV} {pos : Pos} (h : PE X e (tO c m)) (hs : swapsWith e none pos.line X.env = pure false := by rfl) : PS X (.Expr e pos) (sM c (sDropO m)) :=
  ps_cq (ps_expr h hs) fun Dd st H ⟨pa, H0, F0, F, r, ok, po⟩ => seqO ok po fun d r1 F1 H1 v k1 e1 dp q => q F1 H1 st k1 e1
/-! ### an owned variable frozen, taken -/
def frzE (i : Nat) (r : En) : En := match r[i]? with
  | some (.o (.l ds)) => r.set i (.v (.list ds))
  | some (.o (.n t)) => (match t.data with
    | some d => r.set i (.v d)
    | none => r)
  | _ => r
def frz (i : Nat) {α : Type} (m : M α) : M α := fun r => m (frzE i r)
theorem Ok.frzE (k : Ok K pa H0 F0 F H st0 r0) (i : Nat) : ∃ F', Ok K pa H0 F0 F' H st0 (frzE i r0) ∧ Ex F F' := by
  unfold Pu.frzE
  split
  · exact k.freeze (by assumption)
  · split
    · exact k.freezeN (by assumption) (by assumption)
    · exact ⟨F, k, Ex.refl F⟩
  · exact ⟨F, k, Ex.refl F⟩
theorem s_frz (i : Nat) {s : Stmt} {m : M Fl} (h : PS X s (sM c m)) : PS X s (sM c (frz i m)) :=
  ps_cq h fun Dd st H ⟨pa, H0, F0, F, r, ok, po⟩ => by
    obtain ⟨F', k, e⟩ := ok.frzE i
    exact ⟨pa, H0, F0, F', _, k, po.mono (XW.mono e) fun _ _ q => q.mono e⟩
def takeS (i : Nat) : M RV := fun r => match r[i]? with
  | some (.v d) => .ok (.v d) r
  | some (.o ct) => .ok (.o ct) (r.set i .unk)
  | _ => .no
theorem set_same {st : L2.St} {i : Nat} {v : Option V} (h : st[i]? = some v) : st.set i v = st := by
  apply List.ext_getElem?
  intro j
  by_cases e : i = j
  · subst e
    rw [List.getElem?_set_self (List.getElem?_eq_some_iff.mp h).1, h]
  · rw [List.getElem?_set_ne e]
theorem o_take (i : Nat) {x : Str} {pos : Pos} (hN : X.N[i]? = some x := by rfl) (hv : Vis X.env.scope x := by first | exact Or.inl rfl | exact Or.inr (Or.inl rfl) | exact Or.inr (Or.inr rfl)) (hd : (x == ("__debug__" : Str)) = false := by decide)
    (hcd : (x == ("__classdict__" : Str)) = false := by decide) : PE X (.Name x pos) (tO c (takeS i)) :=
  pe_cq (pe_var (i := i) hN hv hd hcd) fun st H Q ⟨pa, H0, F0, F, r, ok, po⟩ => by
    unfold takeS at po
    split at po
    · rename_i d h
      obtain ⟨v, e1, e2⟩ := ok.val h
      exact ⟨v, e1, po F H v ok (Ex.refl F) e2⟩
    · rename_i ct h
      obtain ⟨a, z1, z2, z3, z4⟩ := ok.ownd h rfl
      have k2 := ok.forget (i := i) (x := some (V.ref a))
      rw [set_same z1] at k2
      have aw := ok.away (x := some (V.ref a)) h rfl z1
      rw [set_same z1] at aw
      exact ⟨_, z1, po F H _ k2 (Ex.refl F) ⟨a, rfl, z2, z3, z4, aw⟩⟩
    · exact po.elim
end
/-! ### targets -/
def Agr (is : List Nat) (st st' : L2.St) : Prop := st'.length = st.length ∧ ∀ j, j ∉ is → st'[j]? = st[j]?
/-- what is stored where: a datum to a target -/
abbrev Tg := D → En → Option En
abbrev Tgs := List D → En → Option En
def gM (K : PySem.W.Frag) (is : List Nat) (tg : Tg) : TG := fun v st H Q => ∃ pa H0 F0 F r d r', Ok K pa H0 F0 F H st r ∧ Rp K F v d ∧ tg d r = some r' ∧ ∀ st', Ok K pa H0 F0 F H st' r' → Agr is st st' → Q st' H
def gMs (K : PySem.W.Frag) (is : List Nat) (tg : Tgs) : TGs := fun vs st H Q => ∃ pa H0 F0 F r ds r', Ok K pa H0 F0 F H st r ∧ RpAll K F vs ds ∧ tg ds r = some r' ∧ ∀ st', Ok K pa H0 F0 F H st' r' → Agr is st st' → Q st' H
def gN (i : Nat) : Tg := fun d r => setN i (.v d) r
def gT (tg : Tgs) : Tg := fun d r => match d with
  | .tuple ds => tg ds r
  | .list ds => tg ds r
  | _ => none
def gNl : Tgs := fun ds r => match ds with
  | [] => some r
  | _ => none
def gCn (t : Tg) (ts : Tgs) : Tgs := fun ds r => match ds with
  | d :: ds => (t d r).bind fun r' => ts ds r'
  | _ => none
section
variable {X : Cx} {c : Cc}
theorem pg_cq {e : Expr} {t t' : TG} (h : PG X e t) (i : ∀ v st H Q, t' v st H Q → t v st H Q) : PG X e t' := ⟨fun pins s st H v u Q I rv q => h.run pins s st H v u Q I rv (i v st H Q q)⟩
theorem pgs_cq {e : List Expr} {t t' : TGs} (h : PGs X e t) (i : ∀ v st H Q, t' v st H Q → t v st H Q) : PGs X e t' := ⟨fun pins s st H v u Q I rv q => h.run pins s st H v u Q I rv (i v st H Q q)⟩
theorem g_name (i : Nat) {K : PySem.W.Frag} {x : Str} {pos : Pos} (hN : X.N.Nodup) (hi : X.N[i]? = some x := by rfl) (hx : Loc X.env.scope x := by first | exact Or.inl rfl | exact Or.inr rfl) (hf : X.fn x = true ∨ X.env.scope.names.lookup x = some .local := by first | exact .inl rfl | exact .inr rfl) : PG X (.Name x pos) (gM K [i] (gN i)) :=
  pg_cq (pg_name hN hi hx hf) fun v st H Q ⟨pa, H0, F0, F, r, d, r', ok, dp, e, q⟩ => by
    obtain ⟨rfl, h2⟩ := setN_some e
    exact q _ (ok.setV h2 dp) ⟨List.length_set, fun j hj => List.getElem?_set_ne (fun z => hj (by rw [z]; exact List.mem_singleton.mpr rfl))⟩
theorem g_nil {K : PySem.W.Frag} : PGs X [] (gMs K [] gNl) := pgs_cq pgs_nil fun v st H Q ⟨pa, H0, F0, F, r, ds, r', ok, dp, e, q⟩ => by
  cases dp with
  | nil =>
    cases e
    exact ⟨rfl, q st ok ⟨rfl, fun _ _ => rfl⟩⟩
  | cons _ _ => cases e
theorem g_cons {K : PySem.W.Frag} {e : Expr} {es : List Expr} {is js : List Nat} {t : Tg} {ts : Tgs} (h1 : PG X e (gM K is t)) (h2 : PGs X es (gMs K js ts)) (hs : (assignEach (e :: es) X.env).map (·.2) = assign e X.env :: (assignEach es X.env).map (·.2) := by rfl) : PGs X (e :: es) (gMs K (is ++ js) (gCn t ts)) :=
  pgs_cq (pgs_cons h1 h2 hs) fun v st H Q ⟨pa, H0, F0, F, r, ds, r', ok, dp, e, q⟩ => by
    cases dp with
    | nil => cases e
    | @cons v0 vs d ds d0 dr =>
      have e : (t d r).bind (fun r' => ts ds r') = some r' := e
      cases ht : t d r with
      | none =>
        rw [ht] at e
        cases e
      | some r1 =>
        rw [ht] at e
        refine ⟨v0, vs, rfl, pa, H0, F0, F, r, d, r1, ok, d0, ht, fun st' k1 ag => ⟨pa, H0, F0, F, r1, ds, r', k1, dr, e, fun st2 k2 ag2 => q st2 k2 ⟨ag2.1.trans ag.1, fun j hj => ?_⟩⟩⟩
        rw [ag2.2 j (fun z => hj (List.mem_append_right _ z)), ag.2 j (fun z => hj (List.mem_append_left _ z))]
theorem pg_or' {e : Expr} {t t' : TG} (h : PG X e t) (h' : PG X e t') : PG X e (fun v st H Q => t v st H Q ∨ t' v st H Q) := ⟨fun pins s st H v u Q I rv q => q.elim (h.run pins s st H v u Q I rv) (h'.run pins s st H v u Q I rv)⟩
theorem g_tup {es : List Expr} {k : Nat} {pos : Pos} {is : List Nat} {ts : Tgs} {n : Nat} (h : PGs X es (gMs X.K is ts)) (hl : ∀ ds r r', ts ds r = some r' → ds.length = n) (hc : X.calm = true := by rfl) (hn : (assignEach es X.env).length = n := by rfl) (hst : (assignEach es X.env).findIdx? (·.1) = none := by rfl) : PG X (.Tuple es k pos) (gM X.K is (gT ts)) :=
  pg_cq (pg_or' (pg_tup hc h hn hst) (pg_unl hc h hn hst)) fun v st H Q ⟨pa, H0, F0, F, r, d, r', ok, dp, e, q⟩ => by
    cases dp with
    | @tup a xs ds h1 h2 =>
      have e : ts ds r = some r' := e
      exact .inl ⟨a, xs, rfl, ok.fH.t h1, (dpa_len h2).trans (hl _ _ _ e), pa, H0, F0, F, r, ds, r', ok, h2, e, q⟩
    | @lst a xs ds h1 h2 =>
      have e : ts ds r = some r' := e
      exact .inr ⟨a, xs, rfl, ok.fH.l h1, (dpa_len h2).trans (hl _ _ _ e), pa, H0, F0, F, r, ds, r', ok, h2, e, q⟩
    | _ => cases e
theorem gNl_len : ∀ ds r r', gNl ds r = some r' → ds.length = 0 := fun ds r r' h => by
  cases ds with
  | nil => rfl
  | cons _ _ => cases h
theorem gCn_len {t : Tg} {ts : Tgs} {n : Nat} (h : ∀ ds r r', ts ds r = some r' → ds.length = n) : ∀ ds r r', gCn t ts ds r = some r' → ds.length = n + 1 := fun ds r r' e => by
  cases ds with
  | nil => cases e
  | cons d ds =>
    have e : (t d r).bind (fun r' => ts ds r') = some r' := e
    cases ht : t d r with
    | none =>
      rw [ht] at e
      cases e
    | some r1 =>
      rw [ht] at e
      exact congrArg Nat.succ (h ds r1 r' e)
/-- target = e -/
def sAsg (tg : Tg) (m : M D) : M Fl := m.bind fun d r => match tg d r with
  | some r' => .ok .nx r'
  | none => .no
theorem s_asg {tg e : Expr} {m : M D} {is : List Nat} {t : Tg} {pos : Pos} (he : PE X e (tM c m)) (hg : PG X tg (gM c.K is t)) (hs : swapsWithSole [tg] e pos.line X.env = pure false := by rfl) (hw : swappedStores [tg] e X.env = pure none := by rfl)
    (h1 : (assignEach [tg] X.env).map (·.2) = [assign tg X.env] := by rfl) : PS X (.Assign [tg] e pos) (sM c (sAsg t m)) :=
  ps_cq (ps_asg he hg hs hw h1) fun Dd st H ⟨pa, H0, F0, F, r, ok, po⟩ => seqM ok po fun d r1 F1 H1 v k1 e1 dp q => by
    cases ht : t d r1 with
    | none =>
      rw [ht] at q
      exact q.elim
    | some r2 =>
      rw [ht] at q
      exact ⟨pa, H0, F0, F1, r1, d, r2, k1, dp, ht, fun st' k2 _ => q F1 H1 st' k2 e1⟩
/-- x, y = a, b -/
def sPar (i j : Nat) (ms : M (List D)) : M Fl := ms.bind fun ds => match ds with
  | [a, b] => fun r => match (setN i (.v a) r).bind (setN j (.v b)) with
    | some r' => .ok .nx r'
    | none => .no
  | _ => M.no
theorem s_par {i j : Nat} {x y : Str} {a b : Expr} {ms : M (List D)} {px py pt pos : Pos} {kt k2 pt2} (ha : PA X [a, b] (tA c ms)) (hN : X.N.Nodup) (hc : X.calm = true := by rfl) (hi : X.N[i]? = some x := by rfl) (hj : X.N[j]? = some y := by rfl) (hij : i ≠ j := by decide)
    (hx : X.env.scope.names.lookup x = some .local := by rfl) (hy : X.env.scope.names.lookup y = some .local := by rfl)
    (hw : swappedStores [.Tuple [.Name x px, .Name y py] kt pt] (.Tuple [a, b] k2 pt2) X.env = pure (some [x, y]) := by rfl)
    (hs : swapsWithSole [.Tuple [.Name x px, .Name y py] kt pt] (.Tuple [a, b] k2 pt2) pos.line X.env = pure false := by rfl) :
    PS X (.Assign [.Tuple [.Name x px, .Name y py] kt pt] (.Tuple [a, b] k2 pt2) pos) (sM c (sPar i j ms)) :=
  ps_cq (ps_par hc hN hi hj hij hx hy ha hw hs) fun Dd st H ⟨pa, H0, F0, F, r, ok, po⟩ => seqA ok po fun ds r1 F1 H1 vs k1 e1 dps q => by
    cases dps with
    | nil => exact q.elim
    | @cons v1 _ da _ d1 t1 =>
      cases t1 with
      | nil => exact q.elim
      | @cons v2 _ db _ d2 t2 =>
        cases t2 with
        | cons _ _ => exact q.elim
        | nil =>
          refine ⟨v1, v2, rfl, ?_⟩
          have q : Po (XW c pa H0 F0 F1) (match (setN i (.v da) r1).bind (setN j (.v db)) with
            | some r' => .ok .nx r'
            | none => .no) (fun fl r' => flEnd c.K pa H0 F0 F Dd r' fl) := q
          cases h1 : setN i (.v da) r1 with
          | none =>
            rw [h1] at q
            exact q.elim
          | some r2 =>
            rw [h1] at q
            cases h2 : setN j (.v db) r2 with
            | none =>
              have q : Po (XW c pa H0 F0 F1) (match setN j (.v db) r2 with
                | some r' => .ok .nx r'
                | none => .no) (fun fl r' => flEnd c.K pa H0 F0 F Dd r' fl) := q
              rw [h2] at q
              exact q.elim
            | some r3 =>
              have q : Po (XW c pa H0 F0 F1) (match setN j (.v db) r2 with
                | some r' => .ok .nx r'
                | none => .no) (fun fl r' => flEnd c.K pa H0 F0 F Dd r' fl) := q
              rw [h2] at q
              obtain ⟨rfl, z1⟩ := setN_some h1
              obtain ⟨rfl, z2⟩ := setN_some h2
              exact q F1 H1 _ ((k1.setV z1 d1).setV z2 d2) e1
end
/-! ### loops -/
def forL (tg : Tg) (b : M Fl) : List D → M Fl
  | [], r => .ok .nx r
  | x :: xs, r => match tg x r with
    | none => .no
    | some r1 => match b r1 with
      | .ok .nx r2 => forL tg b xs r2
      | .ok .ct r2 => forL tg b xs r2
      | .ok .bk r2 => .ok .nx r2
      | .ok (.rt v) r2 => .ok (.rt v) r2
      | .ex e r2 => .ex e r2
      | .no => .no
def sFor (src : M (List D)) (tg : Tg) (b : M Fl) : M Fl := src.bind fun xs => forL tg b xs
def wloop (t : M Bool) (b : M Fl) : Nat → M Fl
  | 0, _ => .no
  | n + 1, r => match t r with
    | .ok true r1 => (match b r1 with
      | .ok .nx r2 => wloop t b n r2
      | .ok .ct r2 => wloop t b n r2
      | .ok .bk r2 => .ok .nx r2
      | .ok (.rt v) r2 => .ok (.rt v) r2
      | .ex e r2 => .ex e r2
      | .no => .no)
    | .ok false r1 => .ok .nx r1
    | .ex e r1 => .ex e r1
    | .no => .no
open Classical in
noncomputable def sWhile (t : M Bool) (b : M Fl) : M Fl := fun r => if h : ∃ n, wloop t b n r ≠ .no then wloop t b (Classical.choose h) r else .no
theorem wloop_mono {t : M Bool} {b : M Fl} : ∀ {n : Nat} {r : En}, wloop t b n r ≠ .no → ∀ m, n ≤ m → wloop t b m r = wloop t b n r := by
  intro n
  induction n with
  | zero => intro r h; exact absurd rfl h
  | succ n ih =>
    intro r h m hm
    cases m with
    | zero => omega
    | succ m =>
      have hm : n ≤ m := by omega
      unfold wloop at h ⊢
      cases ht : t r with
      | no => rfl
      | ex e r1 => rfl
      | ok x r1 =>
        rw [ht] at h
        cases x with
        | false => rfl
        | true =>
          have h : (match b r1 with
            | .ok .nx r2 => wloop t b n r2
            | .ok .ct r2 => wloop t b n r2
            | .ok .bk r2 => .ok .nx r2
            | .ok (.rt v) r2 => .ok (.rt v) r2
            | .ex e r2 => .ex e r2
            | .no => .no) ≠ .no := h
          show (match b r1 with
            | .ok .nx r2 => wloop t b m r2
            | .ok .ct r2 => wloop t b m r2
            | .ok .bk r2 => .ok .nx r2
            | .ok (.rt v) r2 => .ok (.rt v) r2
            | .ex e r2 => .ex e r2
            | .no => .no) = (match b r1 with
            | .ok .nx r2 => wloop t b n r2
            | .ok .ct r2 => wloop t b n r2
            | .ok .bk r2 => .ok .nx r2
            | .ok (.rt v) r2 => .ok (.rt v) r2
            | .ex e r2 => .ex e r2
            | .no => .no)
          cases hb : b r1 with
          | no => rfl
          | ex e r2 => rfl
          | ok fl r2 =>
            rw [hb] at h
            cases fl with
            | nx => exact ih h m hm
            | ct => exact ih h m hm
            | bk => rfl
            | rt v => rfl
theorem sWhile_of {t : M Bool} {b : M Fl} {n : Nat} {r : En} {x : Re Fl} (h : wloop t b n r = x) (hx : x ≠ .no) : sWhile t b r = x := by
  have ex : ∃ n, wloop t b n r ≠ .no := ⟨n, by rw [h]; exact hx⟩
  have e : sWhile t b r = wloop t b (Classical.choose ex) r := by
    unfold sWhile
    rw [dif_pos ex]
  have sp := Classical.choose_spec ex
  rw [e]
  rcases Nat.le_total n (Classical.choose ex) with l | l
  · rw [wloop_mono (by rw [h]; exact hx) _ l, h]
  · rw [← wloop_mono sp _ l, h]
theorem sWhile_ex {t : M Bool} {b : M Fl} {r : En} {Xp : Exn → En → Prop} {k : Fl → En → Prop} (h : Po Xp (sWhile t b r) k) : ∃ n, Po Xp (wloop t b n r) k := by
  unfold sWhile at h
  split at h
  · exact ⟨_, h⟩
  · exact h.elim
/-- what is walked: its items -/
structure Yl (K : PySem.W.Frag) (F1 : Hp) (J : It) (xs : List D) : Prop where
  go : ∀ i H, i < xs.length → Ex F1 H → J.go i H
  stop : ∀ H, Ex F1 H → J.stop xs.length H
  yld : ∀ (i : Nat) (H : Hp) (x : V) (H' : Hp) (d : D), xs[i]? = some d → Ex F1 H → J.yld i H x H' → (H' = H ∧ Rp K F1 x d) ∨ ∃ T vs ds, x = .ref T ∧ H T = none ∧ H' = upd H T (.tup vs) ∧ d = .tuple ds ∧ RpAll K F1 vs ds
def iM (c : Cc) (m : M (List D)) : TI := fun st H R => ∃ pa H0 F0 F r, Ok c.K pa H0 F0 F H st r ∧ Po (XW c pa H0 F0 F) (m r) fun xs r' => ∀ F' H' J, Ok c.K pa H0 F0 F' H' st r' → Ex F F' → Yl c.K F' J xs → R J H'
theorem Yl.step {K : PySem.W.Frag} {F1 : Hp} {J : It} {xs : List D} (y : Yl K F1 J xs) {pa : Nat → Addr} {H0 F0 F H : Hp} {st : L2.St} {r : En} (k : Ok K pa H0 F0 F H st r) (e : Ex F1 F) {i : Nat} {x : V} {H' : Hp} {d : D} (hd : xs[i]? = some d) (hy : J.yld i H x H') :
    ∃ F', Ok K pa H0 F0 F' H' st r ∧ Ex F F' ∧ Rp K F' x d := by
  rcases y.yld i H x H' d hd (e.trans k.fH) hy with ⟨rfl, dp⟩ | ⟨T, vs, ds, rfl, nT, rfl, rfl, dps⟩
  · exact ⟨F, k, Ex.refl F, dp_mono e dp⟩
  · have nF := k.fH.nn nT
    exact ⟨_, k.layF nT, Ex.new nF, .tup upd_same (dpa_mono (e.trans (Ex.new nF)) dps)⟩
theorem drop_cons {α : Type} {xs : List α} {i : Nat} {x : α} (h : xs[i]? = some x) : xs.drop i = x :: xs.drop (i + 1) := by
  obtain ⟨hl, e⟩ := List.getElem?_eq_some_iff.mp h
  rw [List.drop_eq_getElem_cons hl, e]
section
variable {X : Cx} {c : Cc}
theorem pi_cq {tg e : Expr} {t t' : TI} (h : PI X tg e t) (i : ∀ st H R, t' st H R → t st H R) : PI X tg e t' := ⟨fun pins s st H R I q => h.run pins s st H R I (i st H R q)⟩
theorem s_for {tg iter : Expr} {body : List Stmt} {src : M (List D)} {is : List Nat} {t : Tg} {mb : M Fl} {pos : Pos} (hi : PI X tg iter (iM c src)) (hg : PG X tg (gM c.K is t)) (hb : PSs X body (sM c mb)) (hp : PassesOwn (model X.prog X.w) X.A X.env X.xe) (hc : X.calm = true := by rfl)
    (hs : ∀ x, foldedSetIterable iter X.env x = pure x := by intro _; rfl) : PS X (.For tg iter body [] pos) (sM c (sFor src t mb)) :=
  ps_cq (ps_for hp hc hi hg hb hs) fun Dd st H ⟨pa, H0, F0, F, r, ok, po⟩ => by
    refine ⟨pa, H0, F0, F, r, ok, (Po.bind po).mono (fun _ _ x => x) fun xs r1 q F1 H1 J k1 e1 y => ?_⟩
    refine ⟨fun i m st H => i + m = xs.length ∧ ∃ F' r', Ok c.K pa H0 F0 F' H st r' ∧ Ex F1 F' ∧ Po (XW c pa H0 F0 F') (forL t mb (xs.drop i) r') (fun fl r' => flEnd c.K pa H0 F0 F' Dd r' fl), ⟨xs.length, by omega, F1, r1, k1, Ex.refl F1, q.mono (XW.mono e1) fun _ _ x => x.mono e1⟩, fun i m st H hW => ?_⟩
    obtain ⟨hm, F', r', k, e, po⟩ := hW
    by_cases hl : i < xs.length
    · have hx : xs[i]? = some xs[i] := List.getElem?_eq_getElem hl
      rw [drop_cons hx] at po
      refine .inr ⟨y.go i H hl (e.trans k.fH), fun st2 H2 => ∃ F2 r2, Ok c.K pa H0 F0 F2 H2 st2 r2 ∧ Ex F1 F2 ∧ Po (XW c pa H0 F0 F2) (forL t mb (xs.drop (i + 1)) r2) (fun fl r' => flEnd c.K pa H0 F0 F2 Dd r' fl), fun st2 H2 ⟨F2, r2, a1, a2, a3⟩ => ⟨m - 1, by omega, by omega, F2, r2, a1, a2, a3⟩, fun x H2 hy => ?_⟩
      obtain ⟨F2, k2, e2, dp2⟩ := y.step k e hx hy
      unfold forL at po
      cases ht : t xs[i] r' with
      | none =>
        rw [ht] at po
        exact po.elim
      | some r2 =>
        rw [ht] at po
        refine ⟨pa, H0, F0, F2, r', xs[i], r2, k2, dp2, ht, fun st3 k3 _ => ?_⟩
        refine ⟨pa, H0, F0, F2, r2, k3, ?_⟩
        have po : Po (XW c pa H0 F0 F') (match mb r2 with
          | .ok .nx r2 => forL t mb (xs.drop (i + 1)) r2
          | .ok .ct r2 => forL t mb (xs.drop (i + 1)) r2
          | .ok .bk r2 => .ok .nx r2
          | .ok (.rt v) r2 => .ok (.rt v) r2
          | .ex e r2 => .ex e r2
          | .no => .no) (fun fl r' => flEnd c.K pa H0 F0 F' Dd r' fl) := po
        cases hb : mb r2 with
        | no =>
          rw [hb] at po
          exact po.elim
        | ex ee r3 =>
          rw [hb] at po
          exact XW.mono e2 _ _ po
        | ok fl r3 =>
          rw [hb] at po
          cases fl with
          | nx => exact fun F4 H4 st4 k4 e4 => ⟨F4, r3, k4, (e.trans e2).trans e4, po.mono (XW.mono (e2.trans e4)) fun _ _ x => x.mono (e2.trans e4)⟩
          | ct => exact fun F4 H4 st4 k4 e4 => ⟨F4, r3, k4, (e.trans e2).trans e4, po.mono (XW.mono (e2.trans e4)) fun _ _ x => x.mono (e2.trans e4)⟩
          | bk => exact fun F4 H4 st4 k4 e4 => po F4 H4 st4 k4 (e2.trans e4)
          | rt rv => exact fun F4 H4 st4 v k4 e4 => po F4 H4 st4 v k4 (e2.trans e4)
    · have ei : i = xs.length := by omega
      subst ei
      rw [List.drop_length] at po
      exact .inl ⟨y.stop H (e.trans k.fH), po F' H st k (Ex.refl F')⟩
theorem s_while {t : Expr} {body : List Stmt} {mt : M Bool} {mb : M Fl} {pos : Pos} (ht : PT X t (tT c mt)) (hb : PSs X body (sM c mb)) (hp : PassesOwn (model X.prog X.w) X.A X.env X.xe) : PS X (.While t body [] pos) (sM c (sWhile mt mb)) :=
  ps_cq (ps_while hp ht hb) fun Dd st H ⟨pa, H0, F0, F, r, ok, po⟩ => by
    obtain ⟨n, po⟩ := sWhile_ex po
    refine ⟨fun m st H => ∃ F' r', Ok c.K pa H0 F0 F' H st r' ∧ Ex F F' ∧ Po (XW c pa H0 F0 F') (wloop mt mb m r') (fun fl r' => flEnd c.K pa H0 F0 F' Dd r' fl), ⟨n, F, r, ok, Ex.refl F, po⟩, fun m st H hW => ?_⟩
    obtain ⟨F', r', k, e, po⟩ := hW
    cases m with
    | zero => exact po.elim
    | succ m =>
      unfold wloop at po
      refine ⟨pa, H0, F0, F', r', k, ?_⟩
      cases h1 : mt r' with
      | no =>
        rw [h1] at po
        exact po.elim
      | ex ee r1 =>
        rw [h1] at po
        exact po
      | ok x r1 =>
        rw [h1] at po
        intro F2 H2 k2 e2
        cases x with
        | false =>
          show Dd.nx st H2
          exact po F2 H2 st k2 e2
        | true =>
          show ∃ N : L2.St → Hp → Prop, _
          refine ⟨fun st2 H2 => ∃ F2 r2, Ok c.K pa H0 F0 F2 H2 st2 r2 ∧ Ex F F2 ∧ Po (XW c pa H0 F0 F2) (wloop mt mb m r2) (fun fl r' => flEnd c.K pa H0 F0 F2 Dd r' fl), fun st2 H2 ⟨F2, r2, a1, a2, a3⟩ => ⟨m, Nat.lt_succ_self m, F2, r2, a1, a2, a3⟩, ?_⟩
          refine ⟨pa, H0, F0, F2, r1, k2, ?_⟩
          have po : Po (XW c pa H0 F0 F') (match mb r1 with
            | .ok .nx r2 => wloop mt mb m r2
            | .ok .ct r2 => wloop mt mb m r2
            | .ok .bk r2 => .ok .nx r2
            | .ok (.rt v) r2 => .ok (.rt v) r2
            | .ex e r2 => .ex e r2
            | .no => .no) (fun fl r' => flEnd c.K pa H0 F0 F' Dd r' fl) := po
          cases hb : mb r1 with
          | no =>
            rw [hb] at po
            exact po.elim
          | ex ee r3 =>
            rw [hb] at po
            exact XW.mono e2 _ _ po
          | ok fl r3 =>
            rw [hb] at po
            cases fl with
            | nx => exact fun F4 H4 st4 k4 e4 => ⟨F4, r3, k4, (e.trans e2).trans e4, po.mono (XW.mono (e2.trans e4)) fun _ _ x => x.mono (e2.trans e4)⟩
            | ct => exact fun F4 H4 st4 k4 e4 => ⟨F4, r3, k4, (e.trans e2).trans e4, po.mono (XW.mono (e2.trans e4)) fun _ _ x => x.mono (e2.trans e4)⟩
            | bk => exact fun F4 H4 st4 k4 e4 => po F4 H4 st4 k4 (e2.trans e4)
            | rt rv => exact fun F4 H4 st4 v k4 e4 => po F4 H4 st4 v k4 (e2.trans e4)
end
end Pu
namespace Pu
open PySem PySem.Spec PyProof.Rows L2
variable [TabT]
/-! ### what is walked -/
theorem pi_or {X : Cx} {tg e : Expr} {t t' : TI} (h : PI X tg e t) (h' : PI X tg e t') : PI X tg e (fun st H R => t st H R ∨ t' st H R) :=
  ⟨fun pins s st H R I q => q.elim (h.run pins s st H R I) (h'.run pins s st H R I)⟩
def seqOf : D → Option (List D)
  | .list ds => some ds
  | .tuple ds => some ds
  | _ => none
def iSeq (m : M D) : M (List D) := m.bind fun d => M.opt (seqOf d)
theorem yl_list {K : PySem.W.Frag} {F : Hp} {a : Addr} {vs : List V} {ds : List D} (h : SqL K F a vs) (hr : RpAll K F vs ds) : Yl K F (Itl K a) ds where
  go := fun i H hi e => by
    have hl := dpa_len hr
    exact ⟨vs, vs[i]'(by omega), e.l h, List.getElem?_eq_getElem (by omega)⟩
  stop := fun H e => ⟨vs, e.l h, by rw [dpa_len hr]; exact Nat.le_refl _⟩
  yld := fun i H x H' d hd e hy => by
    obtain ⟨rfl, q⟩ := hy
    obtain ⟨v, h1, h2⟩ := dpa_get hr hd
    have z := q vs (e.l h)
    rw [h1] at z
    cases z
    exact .inl ⟨rfl, h2⟩
theorem yl_tup {K : PySem.W.Frag} {F : Hp} {a : Addr} {vs : List V} {ds : List D} (h : SqT K F a vs) (hr : RpAll K F vs ds) : Yl K F (Itt K a) ds where
  go := fun i H hi e => by
    have hl := dpa_len hr
    exact ⟨vs, vs[i]'(by omega), e.t h, List.getElem?_eq_getElem (by omega)⟩
  stop := fun H e => ⟨vs, e.t h, by rw [dpa_len hr]; exact Nat.le_refl _⟩
  yld := fun i H x H' d hd e hy => by
    obtain ⟨rfl, q⟩ := hy
    obtain ⟨v, h1, h2⟩ := dpa_get hr hd
    have z := q vs (e.t h)
    rw [h1] at z
    cases z
    exact .inl ⟨rfl, h2⟩
section
variable {X : Cx} {c : Cc}
theorem i_seq {tg e : Expr} {m : M D} (h : PE X e (tM c m)) (hK : c.K = X.K := by rfl) : PI X tg e (iM c (iSeq m)) :=
  pi_cq (pi_or (pi_list h) (pi_tup h)) fun st H R ⟨pa, H0, F0, F, r, ok, po⟩ => by
    have po : Po (XW c pa H0 F0 F) ((m r).bind fun d => M.opt (seqOf d)) _ := po
    cases hm : m r with
    | no =>
      rw [hm] at po
      exact po.elim
    | ex e r1 =>
      rw [hm] at po
      exact .inl ⟨pa, H0, F0, F, r, ok, by rw [hm]; exact po⟩
    | ok d r1 =>
      rw [hm] at po
      obtain ⟨xs, hx, q⟩ := opt_po (show Po (XW c pa H0 F0 F) (M.opt (seqOf d) r1) _ from po)
      cases d with
      | list ds =>
        cases hx
        refine .inl ⟨pa, H0, F0, F, r, ok, ?_⟩
        rw [hm]
        intro F' H' v k e dp
        cases dp with
        | @lst a vs _ h1 h2 => exact ⟨a, rfl, ⟨vs, by rw [← hK]; exact k.fH.l h1⟩, q F' H' _ k e (by rw [← hK]; exact yl_list h1 h2)⟩
      | tuple ds =>
        cases hx
        refine .inr ⟨pa, H0, F0, F, r, ok, ?_⟩
        rw [hm]
        intro F' H' v k e dp
        cases dp with
        | @tup a vs _ h1 h2 => exact ⟨a, rfl, ⟨vs, by rw [← hK]; exact k.fH.t h1⟩, q F' H' _ k e (by rw [← hK]; exact yl_tup h1 h2)⟩
      | _ => cases hx
/-! range -/
def rngD (lo : Int) (n : Nat) : List D := (List.range n).map fun k => .int (lo + (k : Nat))
/-- a choice that nothing can reckon out -/
noncomputable def cI {α : Type} (p : Prop) (a b : α) : α := @ite α p (Classical.propDecidable p) a b
theorem cI_eq {α : Type} (p : Prop) [Decidable p] (a b : α) : cI p a b = if p then a else b := by
  unfold cI
  by_cases h : p
  · rw [if_pos h, if_pos h]
  · rw [if_neg h, if_neg h]
noncomputable def cd (p : Prop) : Bool := @decide p (Classical.propDecidable p)
theorem cd_eq (p : Prop) [Decidable p] : cd p = decide p := by
  unfold cd
  by_cases h : p
  · exact (@decide_eq_true p (Classical.propDecidable p) h).trans (decide_eq_true h).symm
  · exact (@decide_eq_false p (Classical.propDecidable p) h).trans (decide_eq_false h).symm
noncomputable def rng1 : List D → Option (List D)
  | [.int j] => cI (-(2 ^ 62) ≤ j ∧ j < 2 ^ 62) (some (rngD 0 j.toNat)) none
  | _ => none
noncomputable def rng2 : List D → Option (List D)
  | [.int i, .int j] => cI ((-(2 ^ 62) ≤ i ∧ i < 2 ^ 62) ∧ (-(2 ^ 62) ≤ j ∧ j < 2 ^ 62)) (some (rngD i (j - i).toNat)) none
  | _ => none
def iBy (g : List D → Option (List D)) (ms : M (List D)) : M (List D) := ms.bind fun ds => M.opt (g ds)
theorem rng1_some {ds xs : List D} (h : rng1 ds = some xs) : ∃ j : Int, ds = [.int j] ∧ (-(2 ^ 62) ≤ j ∧ j < 2 ^ 62) ∧ xs = rngD 0 j.toNat := by
  unfold rng1 at h
  split at h
  · rw [cI_eq] at h
    split at h
    · cases h
      exact ⟨_, rfl, by assumption, rfl⟩
    · cases h
  · cases h
theorem rpa_one {K : PySem.W.Frag} {F : Hp} {vs : List V} {d : D} (h : RpAll K F vs [d]) : ∃ v, vs = [v] ∧ Rp K F v d := by
  cases h with
  | cons h t =>
    cases t
    exact ⟨_, rfl, h⟩
theorem rpa_two {K : PySem.W.Frag} {F : Hp} {vs : List V} {d e : D} (h : RpAll K F vs [d, e]) : ∃ v w, vs = [v, w] ∧ Rp K F v d ∧ Rp K F w e := by
  cases h with
  | cons h t =>
    obtain ⟨w, rfl, h2⟩ := rpa_one t
    exact ⟨_, w, rfl, h, h2⟩
theorem rp_int {K : PySem.W.Frag} {F : Hp} {v : V} {i : Int} (h : Rp K F v (.int i)) : v = .int i := by
  cases h
  rfl
theorem rngD_len (lo : Int) (n : Nat) : (rngD lo n).length = n := by simp [rngD]
theorem yl_rng {K : PySem.W.Frag} {F : Hp} (lo : Int) (n : Nat) : Yl K F (Itr lo n) (rngD lo n) where
  go := fun i H hi e => by
    rw [rngD_len] at hi
    exact hi
  stop := fun H e => by
    rw [rngD_len]
    exact Nat.le_refl _
  yld := fun i H x H' d hd e hy => by
    obtain ⟨rfl, rfl⟩ := hy
    refine .inl ⟨rfl, ?_⟩
    unfold rngD at hd
    rw [List.getElem?_map] at hd
    cases hr : (List.range n)[i]? with
    | none =>
      rw [hr] at hd
      cases hd
    | some k =>
      rw [hr] at hd
      cases hd
      obtain ⟨h1, h2⟩ := List.getElem?_eq_some_iff.mp hr
      rw [List.getElem_range] at h2
      subst h2
      exact .int _
theorem i_rng1 {tg a : Expr} {ms : M (List D)} {p pos : Pos} (ha : PA X [a] (tA c ms)) (hm : X.mg "range" = none) (hg : Gl X "range" := by rfl) (hs : starEach [a] X.env = [(false, eval a X.env)] := by rfl) : PI X tg (.Call (.Name "range" p) [a] [] pos) (iM c (iBy rng1 ms)) :=
  pi_cq (pi_range1 hg hm ha hs) fun st H R ⟨pa, H0, F0, F, r, ok, po⟩ => seqA ok po fun ds r1 F1 H1 vs k1 e1 dps q => by
    obtain ⟨xs, hx, q⟩ := opt_po q
    obtain ⟨j, rfl, hj, rfl⟩ := rng1_some hx
    obtain ⟨v, rfl, d⟩ := rpa_one dps
    cases rp_int d
    exact ⟨j, rfl, hj.1, hj.2, q F1 H1 _ k1 e1 (yl_rng 0 j.toNat)⟩
end
/-! ### enumerate -/
/-- the tuple at a, each item in a new pair -/
def ItE (K : PySem.W.Frag) (a : Addr) : It where
  go := fun i H => ∃ (xs : List V) (x : V), SqT K H a xs ∧ xs[i]? = some x
  yld := fun i H v H' => ∃ T x, v = .ref T ∧ H T = none ∧ H' = upd H T (.tup [.int (i : Nat), x]) ∧ ∀ xs, SqT K H a xs → xs[i]? = some x
  stop := fun i H => ∃ xs : List V, SqT K H a xs ∧ xs.length ≤ i
theorem turn_en {P : Program} {w : World} {K : PySem.W.Frag} {elts : List Expr} {kk : Nat} {tpos : Pos} (a q it : Addr) :
    Turn P w K (.Tuple elts kk tpos) (ItE K a) [q, it] q (fun i h => (∃ old, IsEnum h q it ((i : Nat) : Int) old) ∧ h.IsTupleIter it a i ∧ q ≠ it ∧ a ≠ it ∧ a ≠ q) where
  mem := List.mem_cons_self
  obj := fun i h hst b hb => by
    obtain ⟨⟨old, h1⟩, ⟨o, h2, h3, h4⟩, _⟩ := hst
    rcases List.mem_cons.mp hb with rfl | hb
    · exact ⟨_, h1, fun v z => nomatch z⟩
    · rw [List.mem_singleton.mp hb]
      exact ⟨o, h2, fun v z => by rw [h4] at z; cases z⟩
  keep := fun i h h' hst kp => by
    obtain ⟨⟨old, h1⟩, h2, h3⟩ := hst
    exact ⟨⟨old, kp q List.mem_cons_self _ h1⟩, h2.at fun o z => kp it (List.mem_cons_of_mem _ (List.mem_singleton.mpr rfl)) o z, h3⟩
  item := by
    intro X hP hw hK hc i pins s st H E I hf hst hg
    subst hP hw hK
    obtain ⟨⟨old, h1⟩, h2, h3, h4, h5⟩ := hst
    obtain ⟨xs, x, hq, hx⟩ := hg
    obtain ⟨us, rv, ht, hz⟩ := I.tuple hq
    obtain ⟨u, hu, ru⟩ := rv.get hx
    have lq : q < s.heap.objs.size := Heap.lt_size h1
    have li : it < s.heap.objs.size := by
      obtain ⟨o, z, _⟩ := h2
      exact Heap.lt_size z
    have dr : Draws X.prog X.w X.A.in1 it [it, a] us.toArray.size (fun i v => us.toArray[i]? = some v) (fun i h => h.IsTupleIter it a i ∧ h.IsTuple a us.toArray) := Draws.tuple (A := X.A.in1) (show X.A.in1.handled = none from I.ok.hd hc) it a h4 us.toArray
    have hlt : i < us.toArray.size := by
      have := (List.getElem?_eq_some_iff.mp hu).1
      simpa using this
    have nq : q ∉ [it, a] := fun z => by
      rcases List.mem_cons.mp z with z | z
      · exact h3 z
      · exact h5 (List.mem_singleton.mp z).symm
    refine wpAny_pyNext_enum_itemD dr h1 ⟨h2, ht⟩ hlt h3 nq fun y h' tk hy out hs' hT hsz hk => ?_
    have ey : y = u := by
      have z : us.toArray[i]? = some y := hy
      rw [show us.toArray[i]? = us[i]? by simp, hu] at z
      cases z
      rfl
    subst ey
    refine ⟨_, rfl, wpAny_letOwnedTupleGo_enum (s := { s with heap := h', toks := tk + 1 }) out fun h2' hen sb => ?_⟩
    have hT2 : h2'.get? s.heap.objs.size = some { cls := .type "tuple", data := .seq #[.int i tk, y] } := (sb.2 _ (Nat.ne_of_gt lq)).trans hT
    have new : ObjOk X.prog X.w (upd H s.heap.objs.size (.tup [.int (i : Nat), x])) h2' s.heap.objs.size (.tup [.int (i : Nat), x]) := by
      refine ⟨?_, [.int i tk, y], .cons ⟨_, rfl⟩ (.cons ru .nil), ⟨_, hT2, rfl, _, rfl⟩⟩
      show 2 ≤ sizeLine
      decide
    have kp : ∀ b o, b ∉ [q, it] → s.heap.get? b = some o → h2'.get? b = some o := fun b o hb z => by
      have b1 : b ≠ q := fun z => hb (by rw [z]; exact List.mem_cons_self)
      have b2 : b ≠ it := fun z => hb (by rw [z]; exact List.mem_cons_of_mem _ (List.mem_singleton.mpr rfl))
      exact (sb.2 b b1).trans (hk b o b1 b2 z)
    have J := I.turnedNew (t' := tk + 1) kp hf (Nat.le_refl _) new
    refine ⟨.ref s.heap.objs.size, _, J, rfl, ⟨_, x, rfl, I.hok.fresh (Nat.le_refl _), rfl, fun ys hy2 => by rw [I.tuple_inj hy2 hq]; exact hx⟩, ⟨⟨y, ?_⟩, ?_, h3, h4, h5⟩, fun b hb => ?_⟩
    · rw [show ((i + 1 : Nat) : Int) = (i : Int) + 1 by omega]
      exact hen
    · exact hs'.1.at fun o z => (sb.2 it (Ne.symm h3)).trans z
    · have lb : b < s.heap.objs.size := by
        rcases List.mem_cons.mp hb with z | z
        · rw [z]
          exact lq
        · rw [List.mem_singleton.mp z]
          exact li
      rw [upd_ne (Nat.ne_of_lt lb)]
      exact (hf b hb).1
  done := by
    intro X hP hw hK hc i pins s st H E I hf hst hg
    subst hP hw hK
    obtain ⟨⟨old, h1⟩, h2, h3, h4, h5⟩ := hst
    obtain ⟨xs, hq, hx⟩ := hg
    obtain ⟨us, rv, ht, hz⟩ := I.tuple hq
    obtain ⟨f0, f1, f2, f3, f4, f5⟩ := hf it (List.mem_cons_of_mem _ (List.mem_singleton.mpr rfl))
    have hl := rv.length
    have hT : s.TypeIs (.ref q) "enumerate" := ⟨_, h1, rfl⟩
    unfold pyNext
    refine wpAny_bind (wpAny_attempt (wpAny_callSpecial?_slot (name := Str.ofString "__next__") hT F.slot_enumerate_next (wpAny_call_entry F.slot_enumerate_next hT F.entry_enumerate_next ?_ (F.args_enumerate_next_1 _))))
    show wpAny _ _ (field (.ref q) 2 >>= _) _ _ _
    refine wpAny_bind (wpAny_field h1 rfl (x := .ref it) rfl ?_)
    refine wpAny_bind (wpAny_nextOf_tuple_end (I.ok.hd hc) h2 ht (by simp; omega) fun h' x he' hx' => ?_)
    obtain ⟨o, ho, hcl⟩ := hx'
    refine wpAny_bind (wpAny_isInstance (T := "StopIteration") (b := true) ⟨o, ho, hcl⟩ isSubtype_stop ?_)
    exact wpAny_pure ⟨rfl, I.turned (t' := s.toks) (fun b o hb z => he' b o hb z) f0 f1 f3 f4 f5⟩
  self := fun A i s Q E hst h => by
    obtain ⟨⟨_, h1⟩, _⟩ := hst
    exact wpAny_pyIter_enum h1 h
end Pu
namespace Pu
open PySem PySem.Spec PyProof.Rows L2 RZ
variable [TabT]
set_option maxHeartbeats 1000000 in
theorem meets_en1 {v : Value} {o : Obj} {Hh : Heap → Prop} (B : Begins v o Hh) : Meets (Builtin.«enumerate.__new__» ⟨[.type "enumerate", v], []⟩) (fun _ R s => Hh s.heap ∧
    R (.ok (.ret (.ref (s.heap.push o).objs.size))) { s with heap := (s.heap.push o).push { cls := .type "enumerate", data := .fields #[.none, .bool false, .ref s.heap.objs.size, rawInt 0, .none, .none] } }) :=
  .of_wp fun prog w A R s h => by
    obtain ⟨hp, gg, dd, tk, os⟩ := s
    obtain ⟨h1, h⟩ := h
    have hsub := sub_enumerate
    have q1 : ∀ {A' : Around} {E : Value → Shared → Prop} {Q : Value → Shared → Prop}, Q (.ref hp.objs.size) ⟨hp.push o, gg, dd, tk, os⟩ → wpAny (model prog w) A' (pyIter v) Q E ⟨hp, gg, dd, tk, os⟩ :=
      fun q => B.iter prog w _ _ ⟨hp, gg, dd, tk, os⟩ _ h1 q
    wp_walk using q1
    refine wpAny_stack_any fun sk => wpAny_pure ?_
    split
    · rename_i cc _ _ _ _ _
      cases (cc == Value.type "enumerate")
      · wp_walk using q1
        exact ⟨_, rfl, h⟩
      · wp_walk using q1
        exact ⟨_, rfl, h⟩
    · wp_walk using q1
      exact ⟨_, rfl, h⟩
theorem call_en {prog : Program} {w : World} {A : Around} {E : Value → Shared → Prop} {s : Shared} {v : Value} {o : Obj} {Hh : Heap → Prop} {Q : Value → Shared → Prop} (B : Begins v o Hh) (h1 : Hh s.heap)
    (h : ∀ h', IsEnum h' (s.heap.objs.size + 1) s.heap.objs.size 0 .none → h'.get? s.heap.objs.size = some o → (∀ b o, s.heap.get? b = some o → h'.get? b = some o) → Q (.ref (s.heap.objs.size + 1)) { s with heap := h' }) :
    wpAny (model prog w) A (call (.type "enumerate") [v]) Q E s := by
  refine callType_new F.called_enumerate (by decide) (F.typeCall_enumerate_1 _) (F.newCall_enumerate_1 _) (fun obj => F.args_object_init_2 obj _) F.entry_enumerate_new (meets_en1 B) ⟨h1, ?_⟩
  have hz : (s.heap.push o).objs.size = s.heap.objs.size + 1 := Heap.size_push ..
  show _ ∧ _
  rw [hz]
  have he : IsEnum ((s.heap.push o).push { cls := .type "enumerate", data := .fields #[.none, .bool false, .ref s.heap.objs.size, rawInt 0, .none, .none] }) (s.heap.objs.size + 1) s.heap.objs.size 0 .none := by
    have z := Heap.get?_push_size (s.heap.push o) (o := { cls := .type "enumerate", data := .fields #[.none, .bool false, .ref s.heap.objs.size, rawInt 0, .none, .none] }) rfl
    rw [hz] at z
    exact z
  exact ⟨⟨_, he, rfl⟩, h _ he (Heap.get?_push_of_some _ (Heap.get?_push_size _ B.free)) fun b o x => Heap.get?_push_of_some _ (Heap.get?_push_of_some _ x)⟩
def iEnT (K : PySem.W.Frag) (ta : TA) : TI := fun st H R => ta st H fun vs H1 => ∃ a xs, vs = [.ref a] ∧ SqT K H1 a xs ∧ R (ItE K a) H1
theorem pi_enT {X : Cx} {e : Expr} {ta : TA} {p pos tpos : Pos} {elts : List Expr} {kk : Nat} (hg : Gl X "enumerate") (hm : X.mg "enumerate" = none) (ha : PA X [e] ta) (hs : starEach [e] X.env = [(false, eval e X.env)] := by rfl) :
    PI X (.Tuple elts kk tpos) (.Call (.Name "enumerate" p) [e] [] pos) (iEnT X.K ta) := by
  refine ⟨fun pins s st H R I h => ?_⟩
  refine Call_ (ld_blt I hg hm boot_enumerate (PyProof.Rows.callWith_type1 (thn (ha.run pos pins s st H _ I h) fun us s1 hh => ?_) hs rfl))
  obtain ⟨vs, H1, I1, r1, a, xs, ex, hq, q⟩ := hh
  subst ex
  cases r1 with
  | cons ra rr =>
    cases rr
    cases ra
    obtain ⟨its, rv, ht, hz⟩ := I1.tuple hq
    have la : a < s1.heap.objs.size := ht.lt
    refine call_en (begins_tuple a its.toArray) ht fun h' hen hit kp => wpAny_pyIter_enum hen ?_
    have I2 : Inv X pins st H1 { s1 with heap := h' } := I1.kept (t' := s1.toks) kp
    refine ⟨s1.heap.objs.size + 1, [s1.heap.objs.size + 1, s1.heap.objs.size], _, _, H1, rfl, I2, turn_en a (s1.heap.objs.size + 1) s1.heap.objs.size, ⟨⟨.none, hen⟩, ⟨_, hit, rfl, rfl⟩, Nat.succ_ne_self _, Nat.ne_of_lt la, Nat.ne_of_lt (Nat.lt_succ_of_lt la)⟩, fun b hb => ?_, q⟩
    have lb : s1.heap.objs.size ≤ b := by
      rcases List.mem_cons.mp hb with z | z
      · rw [z]
        exact Nat.le_succ _
      · rw [List.mem_singleton.mp z]
        exact Nat.le_refl _
    exact I1.fpOk lb (I1.hok.fresh lb)
/-- the pairs (k, d) -/
def enF : Nat → List D → List D
  | _, [] => []
  | k, d :: ds => .tuple [.int (k : Nat), d] :: enF (k + 1) ds
theorem enF_len : ∀ (k : Nat) (ds : List D), (enF k ds).length = ds.length
  | _, [] => rfl
  | k, d :: ds => congrArg Nat.succ (enF_len (k + 1) ds)
theorem enF_get : ∀ (k : Nat) (ds : List D) (i : Nat), (enF k ds)[i]? = (ds[i]?).map fun d => .tuple [.int ((k + i : Nat) : Int), d]
  | _, [], _ => rfl
  | k, d :: ds, 0 => rfl
  | k, d :: ds, i + 1 => by
    show (enF (k + 1) ds)[i]? = (ds[i]?).map _
    rw [enF_get (k + 1) ds i, show k + 1 + i = k + (i + 1) by omega]
def enOf : List D → Option (List D)
  | [d] => (seqOf d).map (enF 0)
  | _ => none
theorem enF_some {ds : List D} {i : Nat} {d : D} (h : (enF 0 ds)[i]? = some d) : ∃ x, ds[i]? = some x ∧ d = .tuple [.int (i : Nat), x] := by
  rw [enF_get, Nat.zero_add] at h
  cases hd : ds[i]? with
  | none =>
    rw [hd] at h
    cases h
  | some x =>
    rw [hd] at h
    cases h
    exact ⟨x, rfl, rfl⟩
theorem yl_enL {K : PySem.W.Frag} {F : Hp} {a : Addr} {vs : List V} {ds : List D} (h : SqL K F a vs) (hr : RpAll K F vs ds) : Yl K F (Ite K a) (enF 0 ds) where
  go := fun i H hi e => by
    rw [enF_len] at hi
    have hl := dpa_len hr
    exact ⟨vs, vs[i]'(by omega), e.l h, List.getElem?_eq_getElem (by omega)⟩
  stop := fun H e => ⟨vs, e.l h, by rw [enF_len, dpa_len hr]; exact Nat.le_refl _⟩
  yld := fun i H x H' d hd e hy => by
    obtain ⟨T, y, rfl, nT, rfl, q⟩ := hy
    obtain ⟨dx, h1, rfl⟩ := enF_some hd
    obtain ⟨v, h2, h3⟩ := dpa_get hr h1
    have z := q vs (e.l h)
    rw [h2] at z
    cases z
    exact .inr ⟨T, _, _, rfl, nT, rfl, rfl, .cons (.int _) (.cons h3 .nil)⟩
theorem yl_enT {K : PySem.W.Frag} {F : Hp} {a : Addr} {vs : List V} {ds : List D} (h : SqT K F a vs) (hr : RpAll K F vs ds) : Yl K F (ItE K a) (enF 0 ds) where
  go := fun i H hi e => by
    rw [enF_len] at hi
    have hl := dpa_len hr
    exact ⟨vs, vs[i]'(by omega), e.t h, List.getElem?_eq_getElem (by omega)⟩
  stop := fun H e => ⟨vs, e.t h, by rw [enF_len, dpa_len hr]; exact Nat.le_refl _⟩
  yld := fun i H x H' d hd e hy => by
    obtain ⟨T, y, rfl, nT, rfl, q⟩ := hy
    obtain ⟨dx, h1, rfl⟩ := enF_some hd
    obtain ⟨v, h2, h3⟩ := dpa_get hr h1
    have z := q vs (e.t h)
    rw [h2] at z
    cases z
    exact .inr ⟨T, _, _, rfl, nT, rfl, rfl, .cons (.int _) (.cons h3 .nil)⟩
section
variable {X : Cx} {c : Cc}
theorem i_enum {e : Expr} {ms : M (List D)} {p pos tpos : Pos} {elts : List Expr} {kk : Nat} (ha : PA X [e] (tA c ms)) (hm : X.mg "enumerate" = none) (hK : c.K = X.K := by rfl) (hg : Gl X "enumerate" := by rfl) (hs : starEach [e] X.env = [(false, eval e X.env)] := by rfl) :
    PI X (.Tuple elts kk tpos) (.Call (.Name "enumerate" p) [e] [] pos) (iM c (iBy enOf ms)) :=
  pi_cq (pi_or (pi_enum hg hm ha hs) (pi_enT hg hm ha hs)) fun st H R ⟨pa, H0, F0, F, r, ok, po⟩ => by
    have po : Po (XW c pa H0 F0 F) ((ms r).bind fun ds => M.opt (enOf ds)) _ := po
    cases hm : ms r with
    | no =>
      rw [hm] at po
      exact po.elim
    | ex e r1 =>
      rw [hm] at po
      exact .inl ⟨pa, H0, F0, F, r, ok, by rw [hm]; exact po⟩
    | ok ds r1 =>
      rw [hm] at po
      obtain ⟨xs, hx, q⟩ := opt_po (show Po (XW c pa H0 F0 F) (M.opt (enOf ds) r1) _ from po)
      unfold enOf at hx
      split at hx
      · rename_i d
        cases d with
        | list ys =>
          cases hx
          refine .inl ⟨pa, H0, F0, F, r, ok, ?_⟩
          rw [hm]
          intro F' H' vs k e dps
          obtain ⟨v, rfl, dp⟩ := rpa_one dps
          cases dp with
          | @lst a us _ h1 h2 => exact ⟨a, us, rfl, by rw [← hK]; exact k.fH.l h1, q F' H' _ k e (by rw [← hK]; exact yl_enL h1 h2)⟩
        | tuple ys =>
          cases hx
          refine .inr ⟨pa, H0, F0, F, r, ok, ?_⟩
          rw [hm]
          intro F' H' vs k e dps
          obtain ⟨v, rfl, dp⟩ := rpa_one dps
          cases dp with
          | @tup a us _ h1 h2 => exact ⟨a, us, rfl, by rw [← hK]; exact k.fH.t h1, q F' H' _ k e (by rw [← hK]; exact yl_enT h1 h2)⟩
        | _ => cases hx
      · cases hx
/-! zip of two lists, of two tuples -/
def zipD (xs ys : List D) : List D := List.zipWith (fun x y => .tuple [x, y]) xs ys
def zipOf : List D → Option (List D)
  | [.list xs, .list ys] => some (zipD xs ys)
  | [.tuple xs, .tuple ys] => some (zipD xs ys)
  | _ => none
theorem zipD_some {xs ys : List D} {i : Nat} {d : D} (h : (zipD xs ys)[i]? = some d) : ∃ x y, xs[i]? = some x ∧ ys[i]? = some y ∧ d = .tuple [x, y] := by
  unfold zipD at h
  rw [List.getElem?_zipWith] at h
  cases h1 : xs[i]? with
  | none =>
    rw [h1] at h
    cases h
  | some x =>
    cases h2 : ys[i]? with
    | none =>
      rw [h1, h2] at h
      cases h
    | some y =>
      rw [h1, h2] at h
      cases h
      exact ⟨x, y, rfl, rfl, rfl⟩
theorem zipD_len (xs ys : List D) : (zipD xs ys).length = min xs.length ys.length := List.length_zipWith
theorem yl_zipL {K : PySem.W.Frag} {F : Hp} {a b : Addr} {vs ws : List V} {ds es : List D} (h : SqL K F a vs) (hr : RpAll K F vs ds) (h' : SqL K F b ws) (hr' : RpAll K F ws es) : Yl K F (Itz K a b) (zipD ds es) where
  go := fun i H hi e => by
    rw [zipD_len] at hi
    have hl := dpa_len hr
    have hl' := dpa_len hr'
    exact ⟨vs, ws, vs[i]'(by omega), ws[i]'(by omega), e.l h, e.l h', List.getElem?_eq_getElem (by omega), List.getElem?_eq_getElem (by omega)⟩
  stop := fun H e => ⟨vs, ws, e.l h, e.l h', by rw [zipD_len, dpa_len hr, dpa_len hr']; omega⟩
  yld := fun i H x H' d hd e hy => by
    obtain ⟨T, y1, y2, rfl, nT, rfl, q1, q2⟩ := hy
    obtain ⟨d1, d2, g1, g2, rfl⟩ := zipD_some hd
    obtain ⟨v, h2, h3⟩ := dpa_get hr g1
    obtain ⟨w, h4, h5⟩ := dpa_get hr' g2
    have z1 := q1 vs (e.l h)
    have z2 := q2 ws (e.l h')
    rw [h2] at z1
    rw [h4] at z2
    cases z1
    cases z2
    exact .inr ⟨T, _, _, rfl, nT, rfl, rfl, .cons h3 (.cons h5 .nil)⟩
theorem yl_zipT {K : PySem.W.Frag} {F : Hp} {a b : Addr} {vs ws : List V} {ds es : List D} (h : SqT K F a vs) (hr : RpAll K F vs ds) (h' : SqT K F b ws) (hr' : RpAll K F ws es) : Yl K F (ItzT K a b) (zipD ds es) where
  go := fun i H hi e => by
    rw [zipD_len] at hi
    have hl := dpa_len hr
    have hl' := dpa_len hr'
    exact ⟨vs, ws, vs[i]'(by omega), ws[i]'(by omega), e.t h, e.t h', List.getElem?_eq_getElem (by omega), List.getElem?_eq_getElem (by omega)⟩
  stop := fun H e => ⟨vs, ws, e.t h, e.t h', by rw [zipD_len, dpa_len hr, dpa_len hr']; omega⟩
  yld := fun i H x H' d hd e hy => by
    obtain ⟨T, y1, y2, rfl, nT, rfl, q1, q2⟩ := hy
    obtain ⟨d1, d2, g1, g2, rfl⟩ := zipD_some hd
    obtain ⟨v, h2, h3⟩ := dpa_get hr g1
    obtain ⟨w, h4, h5⟩ := dpa_get hr' g2
    have z1 := q1 vs (e.t h)
    have z2 := q2 ws (e.t h')
    rw [h2] at z1
    rw [h4] at z2
    cases z1
    cases z2
    exact .inr ⟨T, _, _, rfl, nT, rfl, rfl, .cons h3 (.cons h5 .nil)⟩
theorem i_zip {e e2 : Expr} {ms : M (List D)} {p pos tpos : Pos} {elts : List Expr} {kk : Nat} (ha : PA X [e, e2] (tA c ms)) (hm : X.mg "zip" = none) (hK : c.K = X.K := by rfl) (hg : Gl X "zip" := by rfl) (hs : starEach [e, e2] X.env = (false, eval e X.env) :: starEach [e2] X.env := by rfl) (hpl : (backTo pos (starEach [e2] X.env)).any (·.1) = false := by rfl) :
    PI X (.Tuple elts kk tpos) (.Call (.Name "zip" p) [e, e2] [] pos) (iM c (iBy zipOf ms)) :=
  pi_cq (pi_zipA hg hm ha hs hpl) fun st H R ⟨pa, H0, F0, F, r, ok, po⟩ => seqA ok po fun ds r1 F1 H1 vs k1 e1 dps q => by
    obtain ⟨xs, hx, q⟩ := opt_po q
    unfold zipOf at hx
    split at hx
    · cases hx
      obtain ⟨v, w, rfl, d, d2⟩ := rpa_two dps
      cases d with
      | @lst a us _ h1 h2 =>
        cases d2 with
        | @lst b ws _ h3 h4 => exact ⟨a, b, us, ws, rfl, .inl ⟨by rw [← hK]; exact k1.fH.l h1, by rw [← hK]; exact k1.fH.l h3, q F1 H1 _ k1 e1 (by rw [← hK]; exact yl_zipL h1 h2 h3 h4)⟩⟩
    · cases hx
      obtain ⟨v, w, rfl, d, d2⟩ := rpa_two dps
      cases d with
      | @tup a us _ h1 h2 =>
        cases d2 with
        | @tup b ws _ h3 h4 => exact ⟨a, b, us, ws, rfl, .inr ⟨by rw [← hK]; exact k1.fH.t h1, by rw [← hK]; exact k1.fH.t h3, q F1 H1 _ k1 e1 (by rw [← hK]; exact yl_zipT h1 h2 h3 h4)⟩⟩
    · cases hx
end
/-! ### list comprehensions -/
def wipeE (r : En) : List Nat → En
  | [] => r
  | i :: is => (wipeE r is).set i .unk
/-- behind the block: the block's own slots as they were -/
def backE (r : En) (q : En) : List Nat → En
  | [] => q
  | i :: is => (backE r q is).set i (r.getD i .unk)
def noOwn (r : En) (is : List Nat) : Bool := is.all fun i => match r[i]? with
  | some s => s.own.isNone
  | none => false
def compL (is : List Nat) (tg : Tg) (tt : M Bool) (te : M D) : List D → List D → M (List D)
  | [], acc, r => .ok acc r
  | x :: xs, acc, r => match tg x (wipeE r is) with
    | none => .no
    | some r1 => match tt r1 with
      | .ok true r2 => (match te r2 with
        | .ok y r3 => if acc.length < 16777216 then compL is tg tt te xs (acc ++ [y]) r3 else .no
        | _ => .no)
      | .ok false r2 => compL is tg tt te xs acc r2
      | _ => .no
def oComp (src : M (List D)) (is : List Nat) (tg : Tg) (tt : M Bool) (te : M D) : M RV := src.bind fun xs r => if noOwn r is = true then (match compL is tg tt te xs [] r with
  | .ok ys q => .ok (.o (.l ys)) (backE r (wipeE q is) is)
  | _ => .no) else .no
def yes : M Bool := M.ret true
theorem wipe_get {st : L2.St} {j : Nat} : ∀ {is : List Nat}, (wipe st is)[j]? = if j ∈ is then (if j < st.length then some none else none) else st[j]?
  | [] => by simp [wipe]
  | i :: is => by
    unfold wipe
    by_cases e : i = j
    · subst e
      rw [if_pos (List.mem_cons_self), List.getElem?_set_self']
      by_cases hl : i < st.length
      · rw [if_pos hl, List.getElem?_eq_getElem (by rw [wipe_length]; exact hl)]
        rfl
      · rw [if_neg hl, List.getElem?_eq_none (by rw [wipe_length]; omega)]
        rfl
    · rw [List.getElem?_set_ne e, wipe_get (is := is)]
      have : (j ∈ i :: is) ↔ j ∈ is := by
        rw [List.mem_cons]
        exact ⟨fun h => h.elim (fun z => absurd z.symm e) id, .inr⟩
      by_cases hj : j ∈ is
      · rw [if_pos hj, if_pos (this.mpr hj)]
      · rw [if_neg hj, if_neg (fun z => hj (this.mp z))]
theorem wipeE_len (r : En) : ∀ is : List Nat, (wipeE r is).length = r.length
  | [] => rfl
  | i :: is => by
    unfold wipeE
    rw [List.length_set, wipeE_len r is]
theorem backE_len (r q : En) : ∀ is : List Nat, (backE r q is).length = q.length
  | [] => rfl
  | i :: is => by
    unfold backE
    rw [List.length_set, backE_len r q is]
theorem backE_get {r q : En} {j : Nat} : ∀ {is : List Nat}, (backE r q is)[j]? = if j ∈ is then (if j < q.length then some (r.getD j .unk) else none) else q[j]?
  | [] => by simp [backE]
  | i :: is => by
    unfold backE
    by_cases e : i = j
    · subst e
      rw [if_pos (List.mem_cons_self), List.getElem?_set_self']
      by_cases hl : i < q.length
      · rw [if_pos hl, List.getElem?_eq_getElem (by rw [backE_len]; exact hl)]
        rfl
      · rw [if_neg hl, List.getElem?_eq_none (by rw [backE_len]; omega)]
        rfl
    · rw [List.getElem?_set_ne e, backE_get (is := is)]
      have : (j ∈ i :: is) ↔ j ∈ is := by
        rw [List.mem_cons]
        exact ⟨fun h => h.elim (fun z => absurd z.symm e) id, .inr⟩
      by_cases hj : j ∈ is
      · rw [if_pos hj, if_pos (this.mpr hj)]
      · rw [if_neg hj, if_neg (fun z => hj (this.mp z))]
section
variable {K : PySem.W.Frag} {pa : Nat → Addr} {H0 F0 F H : Hp} {st : L2.St} {r : En}
omit [TabT] in
theorem Nob.wiped {a : Addr} (h : Nob H st r a) : ∀ is : List Nat, Nob H (wipe st is) (wipeE r is) a
  | [] => h
  | i :: is => (Nob.wiped h is).unk
theorem Ok.wiped (k : Ok K pa H0 F0 F H st r) : ∀ is : List Nat, Ok K pa H0 F0 F H (wipe st is) (wipeE r is)
  | [] => k
  | i :: is => (Ok.wiped k is).forget
/-- an object that is nobody's changes -/
theorem Ok.aside (k : Ok K pa H0 F0 F H st r) {p : Addr} {o : HO} (n0 : H0 p = none) (nF : F p = none) (nO : Nob H st r p) (tb : LamX.Tabs (TabT.T K) (upd H p o)) : Ok K pa H0 F0 F (upd H p o) st r where
  hH := k.hH.mut n0
  fF := k.fF
  fH := k.fH.mut nF
  sep := k.sep
  len := k.len
  sl := fun i s h n => by
    obtain ⟨v, h1, h2⟩ := k.sl i s h n
    refine ⟨v, h1, ?_⟩
    cases s with
    | unk => trivial
    | pin => exact h2
    | v d => exact h2
    | o ct =>
      obtain ⟨a, rfl, z1, z2, z3⟩ := h2
      obtain ⟨ne, ni⟩ := nO i _ ct a h rfl (by rw [h1])
      exact ⟨a, rfl, z1, z2, z3.mono (Ex.refl F) (upd_ne ne) fun b hb => upd_ne fun z => ni (z ▸ hb)⟩
    | io ct =>
      obtain ⟨rfl, z1, z2, z3⟩ := h2
      obtain ⟨ne, ni⟩ := nO i _ ct _ h rfl (by rw [h1])
      exact ⟨rfl, z1, z2, z3.mono (Ex.refl F) (upd_ne ne) fun b hb => upd_ne fun z => ni (z ▸ hb)⟩
  tb := tb
  dis := k.dis
  inn := fun i s c a b h1 h2 h3 h4 => by
    obtain ⟨f1, f2, f3⟩ := k.inn i s c a b h1 h2 h3 (h4.cg (upd_ne (nO i s c a h1 h2 h3).1).symm)
    exact ⟨f1, f2, fun j q c' a' g1 g2 g3 => by
      obtain ⟨y1, y2⟩ := f3 j q c' a' g1 g2 g3
      exact ⟨y1, fun nj n => y2 nj (n.cg (upd_ne (nO j q c' a' g1 g2 g3).1).symm)⟩⟩
/-- the block's end -/
theorem Ok.back (k : Ok K pa H0 F0 F H st r) {F' H' : Hp} {q : En} {is : List Nat} (hn : noOwn r is = true) (e : Ex F F') (k2 : Ok K pa H0 F0 F' H' (wipe st is) (wipeE q is)) : Ok K pa H0 F0 F' H' st (backE r (wipeE q is) is) := by
  have l1 : st.length = q.length := by
    have := k2.len
    rw [wipe_length, wipeE_len] at this
    exact this
  have l2 := k.len
  have own : ∀ (j : Nat) (s : Sl) (c : Ct), (backE r (wipeE q is) is)[j]? = some s → s.own = some c → j ∉ is ∧ (wipeE q is)[j]? = some s := fun j s c h hc => by
    rw [backE_get] at h
    by_cases hj : j ∈ is
    · rw [if_pos hj] at h
      have hz := List.all_eq_true.mp hn j hj
      split at h
      · cases h
        rw [List.getD_eq_getElem?_getD] at hc
        cases hr : r[j]? with
        | none =>
          rw [hr] at hz
          cases hz
        | some x =>
          rw [hr] at hz hc
          have hz : x.own.isNone = true := hz
          have hc : x.own = some c := hc
          rw [hc] at hz
          cases hz
      · cases h
    · rw [if_neg hj] at h
      exact ⟨hj, h⟩
  refine ⟨k2.hH, k2.fF, k2.fH, k2.sep, by rw [backE_len, wipeE_len]; exact l1, fun j s h n => ?_, k2.tb, fun i j s q2 c c' a ne h1 h2 o1 o2 s1 s2 => ?_, fun i s c a b h1 h2 h3 h4 => ?_⟩
  · by_cases hj : j ∈ is
    · rw [backE_get, if_pos hj] at h
      split at h
      · cases h
        rw [List.getD_eq_getElem?_getD] at n ⊢
        have hz := List.all_eq_true.mp hn j hj
        cases hr : r[j]? with
        | none =>
          rw [hr] at hz
          cases hz
        | some x =>
          rw [hr] at n
          have n : x ≠ .unk := n
          obtain ⟨v, z1, z2⟩ := k.sl j x hr n
          refine ⟨v, z1, ?_⟩
          rw [hr] at hz
          show SlOk K (pa j) H0 F' H' v x
          cases x with
          | unk => trivial
          | pin => exact z2
          | v d => exact dp_mono e z2
          | o ct => cases hz
          | io ct => cases hz
      · cases h
    · have h2 := h
      rw [backE_get, if_neg hj] at h2
      obtain ⟨v, z1, z2⟩ := k2.sl j s h2 n
      rw [wipe_get, if_neg hj] at z1
      exact ⟨v, z1, z2⟩
  · obtain ⟨g1, g2⟩ := own i s c h1 o1
    obtain ⟨g3, g4⟩ := own j q2 c' h2 o2
    exact k2.dis i j s q2 c c' a ne g2 g4 o1 o2 (by rw [wipe_get, if_neg g1]; exact s1) (by rw [wipe_get, if_neg g3]; exact s2)
  · obtain ⟨g1, g2⟩ := own i s c h1 h2
    obtain ⟨f1, f2, f3⟩ := k2.inn i s c a b g2 h2 (by rw [wipe_get, if_neg g1]; exact h3) h4
    refine ⟨f1, f2, fun j q2 c' a' w1 w2 w3 => ?_⟩
    obtain ⟨g3, g4⟩ := own j q2 c' w1 w2
    exact f3 j q2 c' a' g4 w2 (by rw [wipe_get, if_neg g3]; exact w3)
end
theorem wipe_eq {st st' : L2.St} {is : List Nat} (hl : st'.length = st.length) (h : ∀ j, j ∉ is → st'[j]? = (wipe st is)[j]?) : wipe st' is = wipe st is := by
  apply List.ext_getElem?
  intro j
  rw [wipe_get]
  by_cases hj : j ∈ is
  · rw [if_pos hj, wipe_get, if_pos hj, hl]
  · rw [if_neg hj, h j hj]
theorem compL_cons {is : List Nat} {tg : Tg} {tt : M Bool} {te : M D} {x : D} {xs acc ys : List D} {r q : En} (h : compL is tg tt te (x :: xs) acc r = .ok ys q) :
    ∃ r1, tg x (wipeE r is) = some r1 ∧ ((∃ r2 y r3, tt r1 = .ok true r2 ∧ te r2 = .ok y r3 ∧ acc.length < 16777216 ∧ compL is tg tt te xs (acc ++ [y]) r3 = .ok ys q) ∨ ∃ r2, tt r1 = .ok false r2 ∧ compL is tg tt te xs acc r2 = .ok ys q) := by
  unfold compL at h
  split at h
  · cases h
  · rename_i r1 h1
    refine ⟨r1, h1, ?_⟩
    split at h
    · rename_i r2 h2
      split at h
      · rename_i y r3 h3
        split at h
        · exact .inl ⟨r2, y, r3, h2, h3, by assumption, h⟩
        · cases h
      · cases h
    · rename_i r2 h2
      exact .inr ⟨r2, h2, h⟩
    · cases h
abbrev Cc.nox (c : Cc) : Cc := { c with W := fun _ _ _ _ => False }
section
variable {X : Cx} {c : Cc}
/-- the block's reading from the mirror -/
theorem lc_ok {src : M (List D)} {is js : List Nat} {t : Tg} {tt : M Bool} {te : M D} {st : L2.St} {H : Hp} {Q : VK} (hjs : ∀ j ∈ js, j ∈ is) (h : tO c (oComp src is t tt te) st H Q) :
    tLc (iM c src) (gM c.K js t) (tT c.nox tt) (tM c.nox te) is st H Q := by
  obtain ⟨pa, H0, F0, F, r, ok, po⟩ := h
  refine ⟨pa, H0, F0, F, r, ok, (Po.bind po).mono (fun _ _ x => x) fun xs r1 q F1 H1 J k1 e1 y Dd nD => ?_⟩
  by_cases hn : noOwn r1 is = true
  case neg =>
    rw [if_neg hn] at q
    exact q.elim
  rw [if_pos hn] at q
  cases hcl : compL is t tt te xs [] r1 with
  | no =>
    rw [hcl] at q
    exact q.elim
  | ex ee rr =>
    rw [hcl] at q
    exact q.elim
  | ok ys qe =>
    rw [hcl] at q
    have n0 : H0 Dd = none := k1.hH.nn nD
    have nF1 : F1 Dd = none := k1.fH.nn nD
    have nF0 : F0 Dd = none := k1.fF.nn nF1
    have kw := (k1.wiped is)
    refine ⟨fun i m H => i + m = xs.length ∧ ∃ F' q acc vs, Ok c.K pa H0 F0 F' H (wipe st is) (wipeE q is) ∧ Ex F1 F' ∧ H Dd = some (.lst vs) ∧ RpAll c.K F' vs acc ∧ F' Dd = none ∧ Nob H (wipe st is) (wipeE q is) Dd ∧ compL is t tt te (xs.drop i) acc q = .ok ys qe,
      ⟨xs.length, by omega, F1, r1, [], [], kw.aside n0 nF1 (kw.nobody nD) (tabs_new kw.tb nD), Ex.refl F1, upd_same, .nil, nF1, (kw.nobody nD).upd, hcl⟩, fun i m H hW => ?_⟩
    obtain ⟨hm, F', q', acc, vs, k, e, hD, hv, nF, nO, hc⟩ := hW
    by_cases hl : i < xs.length
    · have hx : xs[i]? = some xs[i] := List.getElem?_eq_getElem hl
      rw [drop_cons hx] at hc
      obtain ⟨r2, ht, hrest⟩ := compL_cons hc
      refine .inr ⟨y.go i H hl (e.trans k.fH), fun H2 => ∃ F' q acc vs, Ok c.K pa H0 F0 F' H2 (wipe st is) (wipeE q is) ∧ Ex F1 F' ∧ H2 Dd = some (.lst vs) ∧ RpAll c.K F' vs acc ∧ F' Dd = none ∧ Nob H2 (wipe st is) (wipeE q is) Dd ∧ compL is t tt te (xs.drop (i + 1)) acc q = .ok ys qe,
        fun H2 z => ⟨m - 1, by omega, by omega, z⟩, fun x H2 hy => ?_⟩
      -- the frame with the list that is made
      have kf : Ok c.K pa (upd H0 Dd (.lst vs)) F0 F' H (wipe st is) (wipeE q' is) := k.frame ⟨fun a o z nt => by
          by_cases ha : a = Dd
          · subst ha
            rw [upd_same] at z
            rw [hD]
            exact z
          · rw [upd_ne ha] at z
            exact k.hH.at_ a o z nt, fun a ps z => by
          by_cases ha : a = Dd
          · subst ha
            rw [upd_same] at z
            cases z
          · rw [upd_ne ha] at z
            exact k.hH.tb a ps z⟩ (fun a z1 z2 => by
          by_cases ha : a = Dd
          · subst ha
            exact absurd nF z2
          · rw [upd_ne ha] at z1
            exact k.sep a z1 z2) (fun j s ct a hj hct hst => by
          obtain ⟨na, ni⟩ := nO j s ct a hj hct hst
          rw [upd_ne na]
          obtain ⟨a', g1, g2, g3, g4⟩ := k.ownd hj hct
          rw [hst] at g1
          cases g1
          exact ⟨g3, fun b hb => by
            have nb : b ≠ Dd := fun z => ni (z ▸ hb)
            rw [upd_ne nb]
            exact (k.inn j s ct a b hj hct hst hb).2.1⟩)
      obtain ⟨F2, k2, e2, dp2⟩ := y.step kf e hx hy
      -- back to the old frame
      have unframe : ∀ {F3 H3 : Hp} {st3 : L2.St} {r3 : En}, Ok c.K pa (upd H0 Dd (.lst vs)) F0 F3 H3 st3 r3 → Ok c.K pa H0 F0 F3 H3 st3 r3 ∧ H3 Dd = some (.lst vs) ∧ F3 Dd = none ∧ Nob H3 st3 r3 Dd := fun {F3 H3 st3 r3} k3 => by
        have h0 : Ex H0 (upd H0 Dd (.lst vs)) := Ex.new n0
        refine ⟨k3.frame (h0.trans k3.hH) (fun a z1 z2 => k3.sep a (by
          cases hz : H0 a with
          | none => exact absurd hz z1
          | some o => exact (h0.some hz).elim fun _ q => ne_none q) z2) (fun j s ct a hj hct hst => ?_), k3.hH.at_ Dd _ upd_same (fun ps z => nomatch z), none_of_not fun z => k3.sep Dd (ne_none upd_same) z nF0, fun j s ct a hj hct hst => ⟨?_, ?_⟩⟩
        · obtain ⟨a', g1, g2, g3, g4⟩ := k3.ownd hj hct
          rw [hst] at g1
          cases g1
          exact ⟨h0.nn g3, fun b hb => h0.nn (k3.inn j s ct a b hj hct hst hb).2.1⟩
        · obtain ⟨a', g1, g2, g3, g4⟩ := k3.ownd hj hct
          rw [hst] at g1
          cases g1
          intro z
          subst z
          rw [upd_same] at g3
          cases g3
        · intro z
          have g3 := (k3.inn j s ct a Dd hj hct hst z).2.1
          rw [upd_same] at g3
          cases g3
      refine ⟨pa, _, F0, F2, _, xs[i], r2, k2, dp2, ht, fun st3 k3 ag => ?_⟩
      have hw : wipe st3 is = wipe st is := wipe_eq (by rw [ag.1, wipe_length]) fun j hj => ag.2 j fun z => hj (hjs j z)
      refine ⟨hw, ?_⟩
      rcases hrest with ⟨r3, yv, r4, h1, h2, h3, h4⟩ | ⟨r3, h1, h4⟩
      · refine ⟨pa, _, F0, F2, r2, k3, ?_⟩
        rw [h1]
        intro F4 H4 k4 e4
        show tM c.nox te st3 H4 _
        refine ⟨pa, _, F0, F4, r3, k4, ?_⟩
        rw [h2]
        intro F5 H5 v k5 e5 dp5
        obtain ⟨k6, hD6, nF6, nO6⟩ := unframe k5
        refine ⟨vs, hD6, by rw [dpa_len hv, sizeLine_eq]; exact h3, F5, r4, acc ++ [yv], vs ++ [v], ?_, ((e.trans e2).trans e4).trans e5, upd_same, dpa_app (dpa_mono ((e2.trans e4).trans e5) hv) (.cons dp5 .nil), nF6, ?_, h4⟩
        · have k7 := (k6.aside n0 nF6 nO6 (o := .lst (vs ++ [v])) (tabs_lst k6.tb hD6)).wiped is
          rw [hw] at k7
          exact k7
        · rw [← hw]
          exact (nO6.wiped is).upd
      · refine ⟨pa, _, F0, F2, r2, k3, ?_⟩
        rw [h1]
        intro F4 H4 k4 e4
        obtain ⟨k6, hD6, nF6, nO6⟩ := unframe k4
        show ∃ F' q acc vs, _
        refine ⟨F4, r3, acc, vs, ?_, (e.trans e2).trans e4, hD6, dpa_mono (e2.trans e4) hv, nF6, ?_, h4⟩
        · have k7 := k6.wiped is
          rw [hw] at k7
          exact k7
        · rw [← hw]
          exact nO6.wiped is
    · have ei : i = xs.length := by omega
      subst ei
      rw [List.drop_length] at hc
      cases hc
      have kb := k1.back hn e k
      refine .inl ⟨y.stop H (e.trans k.fH), q F' H _ kb (e1.trans e) ⟨Dd, rfl, nF, n0, ⟨vs, hD, hv⟩, .l fun j s ct a hj hct hst => ?_⟩⟩
      rw [backE_get] at hj
      by_cases hji : j ∈ is
      · rw [if_pos hji] at hj
        split at hj
        · cases hj
          have hz := List.all_eq_true.mp hn j hji
          rw [List.getD_eq_getElem?_getD] at hct
          cases hr : r1[j]? with
          | none =>
            rw [hr] at hz
            cases hz
          | some x =>
            rw [hr] at hz hct
            have hz : x.own.isNone = true := hz
            have hct : x.own = some ct := hct
            rw [hct] at hz
            cases hz
        · cases hj
      · rw [if_neg hji] at hj
        exact nO j s ct a hj hct (by rw [wipe_get, if_neg hji]; exact hst)
theorem o_lc {elt tg iter : Expr} {ifs : List Expr} {scope : Scope} {own : List (Str × Nat)} {pos : Pos} {src : M (List D)} {js : List Nat} {t : Tg} {tt : M Bool} {te : M D} (hi : PI X tg iter (iM c src)) (ok : BlkOk X.N X.env.scope scope own)
    (hg : ∀ (s : Shared) (H : Hp) (C : Addr) (cl : List (Str × Addr)) (fp : List Addr), PG (X.blk s H scope (compEnvC scope cl C X.env) fp) tg (gM c.K js t)) (ht : ∀ (s : Shared) (H : Hp) (C : Addr) (cl : List (Str × Addr)) (fp : List Addr), PTs (X.blk s H scope (compEnvC scope cl C X.env) fp) ifs (tT c.nox tt))
    (he : ∀ (s : Shared) (H : Hp) (C : Addr) (cl : List (Str × Addr)) (fp : List Addr), PE (X.blk s H scope (compEnvC scope cl C X.env) fp) elt (tM c.nox te)) (hN : X.N.Nodup) (hjs : ∀ j ∈ js, j ∈ own.map (·.2) := by decide) (hc : X.calm = true := by rfl) (hs : ∀ x, foldedSetIterable iter X.env x = pure x := by intro _; rfl) :
    PE X (.ListComp elt [⟨tg, iter, ifs, 0⟩] scope pos) (tO c (oComp src (own.map (·.2)) t tt te)) :=
  pe_cq (pe_lc hc hN hi ok hg ht he hs) fun st H Q h => lc_ok hjs h
theorem ts_nil : PTs X [] (tT c yes) := ⟨fun pins s st H Q I h => (pts_nil (X := X)).run pins s st H Q I (by
  obtain ⟨pa, H0, F0, F, r, ok, po⟩ := h
  exact po F H ok (Ex.refl F))⟩
theorem ts_one {e : Expr} {m : M Bool} (h : PT X e (tT c m)) : PTs X [e] (tT c m) := pts_one h
end
end Pu
namespace Pu
open PySem PySem.Spec PyProof.Rows L2
variable [TabT]
/-! ### what a def promises -/
def ArgsOk (rs : List Sl) : Prop := ∀ s ∈ rs, (∃ d, s = .v d) ∨ ∃ ct, s = .io ct
def spG (K : PySem.W.Frag) (mg : Str → Option Value) (n : Nat) (f : List Sl → Re RV) : Sp := fun vs H Q E => vs.length = n ∧ ∃ pa Hk F rs, Ok K pa Hk F F H (vs.map some) rs ∧ ArgsOk rs ∧
  Po (fun e rs' => ∀ F' H' cls dd, Ok K pa Hk F F' H' (vs.map some) rs' → ExOk ⟨K, mg, fun _ _ _ _ => True⟩ F' H' e cls dd → E cls dd H') (f rs)
    fun rv rs' => ∀ F' H' v, Ok K pa Hk F F' H' (vs.map some) rs' → RvOk K Hk F' H' (vs.map some) rs' v rv → Q v H'
def backA : List Sl → En → Option (List Sl)
  | [], _ => some []
  | .io _ :: ss, .io ct :: q => (backA ss q).map fun z => .io ct :: z
  | .io _ :: _, _ => none
  | .pin :: _, _ => none
  | s :: ss, _ :: q => (backA ss q).map fun z => s :: z
  | _ :: _, [] => none
def backR {α : Type} (rs : List Sl) (x : Re α) : Re α := match x with
  | .ok a r => (match backA rs r with
    | some z => .ok a z
    | none => .no)
  | .ex e r => (match backA rs r with
    | some z => .ex e z
    | none => .no)
  | .no => .no
def flRv : M Fl → M RV := fun m r => match m r with
  | .ok (.rt rv) r => .ok rv r
  | .ok .nx r => .ok (.v .none) r
  | .ok _ _ => .no
  | .ex e r => .ex e r
  | .no => .no
/-- a def: n slots, its body -/
@[irreducible] def fnOf (n : Nat) (m : M Fl) : List Sl → Re RV := fun rs => backR rs (flRv m (rs ++ List.replicate (n - rs.length) .unk))
theorem backA_len : ∀ {rs : List Sl} {q : En} {z : List Sl}, backA rs q = some z → z.length = rs.length
  | [], _, _, h => by
    cases h
    rfl
  | .io _ :: ss, .io ct :: q, z, h => by
    have h : (backA ss q).map (fun z => Sl.io ct :: z) = some z := h
    cases hb : backA ss q with
    | none =>
      rw [hb] at h
      cases h
    | some y =>
      rw [hb] at h
      cases h
      exact congrArg Nat.succ (backA_len hb)
  | .io _ :: _, .unk :: _, _, h => by cases h
  | .io _ :: _, .v _ :: _, _, h => by cases h
  | .io _ :: _, .o _ :: _, _, h => by cases h
  | .io _ :: _, .pin :: _, _, h => by cases h
  | .io _ :: _, [], _, h => by cases h
  | .unk :: ss, _ :: q, z, h => by
    have h : (backA ss q).map (fun z => Sl.unk :: z) = some z := h
    cases hb : backA ss q with
    | none =>
      rw [hb] at h
      cases h
    | some y =>
      rw [hb] at h
      cases h
      exact congrArg Nat.succ (backA_len hb)
  | .v d :: ss, _ :: q, z, h => by
    have h : (backA ss q).map (fun z => Sl.v d :: z) = some z := h
    cases hb : backA ss q with
    | none =>
      rw [hb] at h
      cases h
    | some y =>
      rw [hb] at h
      cases h
      exact congrArg Nat.succ (backA_len hb)
  | .o d :: ss, _ :: q, z, h => by
    have h : (backA ss q).map (fun z => Sl.o d :: z) = some z := h
    cases hb : backA ss q with
    | none =>
      rw [hb] at h
      cases h
    | some y =>
      rw [hb] at h
      cases h
      exact congrArg Nat.succ (backA_len hb)
  | .unk :: _, [], _, h => by cases h
  | .pin :: _, _, _, h => by cases h
  | .v _ :: _, [], _, h => by cases h
  | .o _ :: _, [], _, h => by cases h
/-- place by place: the caller's object as it is now, all else as it was -/
theorem backA_get : ∀ {rs : List Sl} {q : En} {z : List Sl}, backA rs q = some z → ∀ (i : Nat) (s : Sl), z[i]? = some s → (∃ ct ct', rs[i]? = some (.io ct) ∧ s = .io ct' ∧ q[i]? = some (.io ct')) ∨ (rs[i]? = some s ∧ s.isIo = false)
  | [], _, _, h, i, s, hs => by
    cases h
    cases hs
  | .io c0 :: ss, .io ct :: q, z, h, i, s, hs => by
    have h : (backA ss q).map (fun z => Sl.io ct :: z) = some z := h
    cases hb : backA ss q with
    | none =>
      rw [hb] at h
      cases h
    | some y =>
      rw [hb] at h
      cases h
      cases i with
      | zero =>
        cases hs
        exact .inl ⟨c0, ct, rfl, rfl, rfl⟩
      | succ i => exact backA_get hb i s hs
  | .io _ :: _, .unk :: _, _, h, _, _, _ => by cases h
  | .io _ :: _, .v _ :: _, _, h, _, _, _ => by cases h
  | .io _ :: _, .o _ :: _, _, h, _, _, _ => by cases h
  | .io _ :: _, .pin :: _, _, h, _, _, _ => by cases h
  | .io _ :: _, [], _, h, _, _, _ => by cases h
  | .unk :: ss, _ :: q, z, h, i, s, hs => by
    have h : (backA ss q).map (fun z => Sl.unk :: z) = some z := h
    cases hb : backA ss q with
    | none =>
      rw [hb] at h
      cases h
    | some y =>
      rw [hb] at h
      cases h
      cases i with
      | zero =>
        cases hs
        exact .inr ⟨rfl, rfl⟩
      | succ i => exact backA_get hb i s hs
  | .v d :: ss, _ :: q, z, h, i, s, hs => by
    have h : (backA ss q).map (fun z => Sl.v d :: z) = some z := h
    cases hb : backA ss q with
    | none =>
      rw [hb] at h
      cases h
    | some y =>
      rw [hb] at h
      cases h
      cases i with
      | zero =>
        cases hs
        exact .inr ⟨rfl, rfl⟩
      | succ i => exact backA_get hb i s hs
  | .o d :: ss, _ :: q, z, h, i, s, hs => by
    have h : (backA ss q).map (fun z => Sl.o d :: z) = some z := h
    cases hb : backA ss q with
    | none =>
      rw [hb] at h
      cases h
    | some y =>
      rw [hb] at h
      cases h
      cases i with
      | zero =>
        cases hs
        exact .inr ⟨rfl, rfl⟩
      | succ i => exact backA_get hb i s hs
  | .unk :: _, [], _, h, _, _, _ => by cases h
  | .pin :: _, _, _, h, _, _, _ => by cases h
  | .v _ :: _, [], _, h, _, _, _ => by cases h
  | .o _ :: _, [], _, h, _, _, _ => by cases h
section
variable {K : PySem.W.Frag} {pa : Nat → Addr} {Hk F F' H H' : Hp} {vs : List V} {rs : List Sl} {st' : L2.St} {r' : En}
/-- the arguments behind the call -/
theorem Ok.ended (k : Ok K pa Hk F F H (vs.map some) rs) (ao : ArgsOk rs) (k' : Ok K pa Hk F F' H' st' r') {z : List Sl} (hz : backA rs r' = some z) : Ok K pa Hk F F' H' (vs.map some) z where
  hH := k'.hH
  fF := k'.fF
  fH := k'.fH
  sep := k'.sep
  len := by rw [k.len, backA_len hz]
  sl := fun i s hs n => by
    rcases backA_get hz i s hs with ⟨ct, ct', h1, rfl, h2⟩ | ⟨h1, h2⟩
    · obtain ⟨v, g1, g2⟩ := k.sl i _ h1 (fun z => nomatch z)
      obtain ⟨w, g3, g4⟩ := k'.sl i _ h2 (fun z => nomatch z)
      obtain ⟨rfl, _⟩ := g2
      obtain ⟨rfl, g5⟩ := g4
      exact ⟨_, g1, rfl, g5⟩
    · obtain ⟨v, g1, g2⟩ := k.sl i s h1 n
      refine ⟨v, g1, ?_⟩
      rcases ao s (List.mem_of_getElem? h1) with ⟨d, rfl⟩ | ⟨ct, rfl⟩
      · exact dp_mono k'.fF g2
      · cases h2
  tb := k'.tb
  dis := fun i j s q c c' a ne h1 h2 o1 o2 s1 s2 => by
    have orig : ∀ (j : Nat) (s : Sl) (c : Ct), z[j]? = some s → s.own = some c → ∃ s' c', rs[j]? = some s' ∧ s'.own = some c' := fun j s c hj hc => by
      rcases backA_get hz j s hj with ⟨ct, ct', h1, rfl, h2⟩ | ⟨h1, h2⟩
      · exact ⟨_, ct, h1, rfl⟩
      · exact ⟨s, c, h1, hc⟩
    obtain ⟨s', c1, g1, g2⟩ := orig i s c h1 o1
    obtain ⟨q', c2, g3, g4⟩ := orig j q c' h2 o2
    exact k.dis i j s' q' c1 c2 a ne g1 g3 g2 g4 s1 s2
  inn := fun i s c a b h1 h2 h3 h4 => by
    have now : ∀ (j : Nat) (s : Sl) (c : Ct) (a : Addr), z[j]? = some s → s.own = some c → (vs.map some)[j]? = some (some (.ref a)) → r'[j]? = some s ∧ st'[j]? = some (some (.ref a)) := fun j s c a hj hc hst => by
      rcases backA_get hz j s hj with ⟨ct, ct', h1, rfl, h2⟩ | ⟨h1, h2⟩
      · obtain ⟨v, g1, g2⟩ := k.sl j _ h1 (fun z => nomatch z)
        obtain ⟨w, g3, g4⟩ := k'.sl j _ h2 (fun z => nomatch z)
        obtain ⟨rfl, _⟩ := g2
        obtain ⟨rfl, g5⟩ := g4
        rw [g1] at hst
        cases hst
        exact ⟨h2, g3⟩
      · rcases ao s (List.mem_of_getElem? h1) with ⟨d, rfl⟩ | ⟨ct, rfl⟩
        · cases hc
        · cases h2
    obtain ⟨w1, w2⟩ := now i s c a h1 h2 h3
    obtain ⟨f1, f2, f3⟩ := k'.inn i s c a b w1 h2 w2 h4
    refine ⟨f1, f2, fun j q c' a' y1 y2 y3 => ?_⟩
    obtain ⟨w3, w4⟩ := now j q c' a' y1 y2 y3
    exact f3 j q c' a' w3 y2 w4
theorem RvOk.ended (k : Ok K pa Hk F F H (vs.map some) rs) (ao : ArgsOk rs) (k' : Ok K pa Hk F F' H' st' r') {z : List Sl} (hz : backA rs r' = some z) {v : V} {rv : RV} (h : RvOk K Hk F' H' st' r' v rv) : RvOk K Hk F' H' (vs.map some) z v rv := by
  cases rv with
  | v d => exact h
  | o ct =>
    obtain ⟨a, rfl, z1, z2, z3, z4⟩ := h
    have key : ∀ b, Nob H' st' r' b → Nob H' (vs.map some) z b := fun b hb i s c a hs hc hst => by
      rcases backA_get hz i s hs with ⟨ct0, ct', h1, rfl, h2⟩ | ⟨h1, h2⟩
      · obtain ⟨v, g1, g2⟩ := k.sl i _ h1 (fun z => nomatch z)
        obtain ⟨w, g3, g4⟩ := k'.sl i _ h2 (fun z => nomatch z)
        obtain ⟨rfl, _⟩ := g2
        obtain ⟨rfl, g5⟩ := g4
        rw [hst] at g1
        cases g1
        exact hb i _ c _ h2 hc g3
      · rcases ao s (List.mem_of_getElem? h1) with ⟨d, rfl⟩ | ⟨ct, rfl⟩
        · cases hc
        · cases h2
    exact ⟨a, rfl, z1, z2, z3, key a z4.1, fun b hb => by
      obtain ⟨g1, g2, g3, g4⟩ := z4.2 b hb
      exact ⟨g1, g2, g3, key b g4⟩⟩
/-- the slots at the start -/
theorem Ok.begin (k : Ok K pa Hk F F H (vs.map some) rs) (n : Nat) : Ok K pa Hk F F H (vs.map some ++ List.replicate n none) (rs ++ List.replicate n .unk) := by
  have hl : vs.length = rs.length := by
    have := k.len
    rw [List.length_map] at this
    exact this
  have get : ∀ (i : Nat) (s : Sl), (rs ++ List.replicate n Sl.unk)[i]? = some s → s ≠ .unk → rs[i]? = some s ∧ i < rs.length := fun i s h ne => by
    by_cases hi : i < rs.length
    · rw [List.getElem?_append_left hi] at h
      exact ⟨h, hi⟩
    · rw [List.getElem?_append_right (by omega), List.getElem?_replicate] at h
      split at h
      · cases h
        exact absurd rfl ne
      · cases h
  refine ⟨k.hH, k.fF, k.fH, k.sep, by simp [hl], fun i s h ne => ?_, k.tb, fun i j s q c c' a ne h1 h2 o1 o2 s1 s2 => ?_, fun i s c a b h1 h2 h3 h4 => ?_⟩
  · obtain ⟨h1, h2⟩ := get i s h ne
    obtain ⟨v, g1, g2⟩ := k.sl i s h1 ne
    exact ⟨v, by rw [List.getElem?_append_left (by rw [List.length_map]; omega)]; exact g1, g2⟩
  · obtain ⟨g1, l1⟩ := get i s h1 (by intro z; subst z; cases o1)
    obtain ⟨g2, l2⟩ := get j q h2 (by intro z; subst z; cases o2)
    rw [List.getElem?_append_left (by rw [List.length_map]; omega)] at s1 s2
    exact k.dis i j s q c c' a ne g1 g2 o1 o2 s1 s2
  · obtain ⟨g1, l1⟩ := get i s h1 (by intro z; subst z; cases h2)
    rw [List.getElem?_append_left (by rw [List.length_map]; omega)] at h3
    obtain ⟨f1, f2, f3⟩ := k.inn i s c a b g1 h2 h3 h4
    refine ⟨f1, f2, fun j q c' a' w1 w2 w3 => ?_⟩
    obtain ⟨g2, l2⟩ := get j q w1 (by intro z; subst z; cases w2)
    rw [List.getElem?_append_left (by rw [List.length_map]; omega)] at w3
    exact f3 j q c' a' g2 w2 w3
end
abbrev ccOf (K : PySem.W.Frag) (mg : Str → Option Value) (E : XK) : Cc := ⟨K, mg, fun cls d _ H => E cls d H⟩
/-! ### room, with no guard of a text under way -/
/-- a frame of a def: no generator -/
structure Tpe (env : Env) : Prop where
  gen : env.scope.isGenerator = false
  co : env.scope.isCoroutine = false
  bl : env.builtins = builtinsNs
  gl : env.globals = mainGlobals
/-- the room of a caller -/
structure RmC (k : Nat) (A : Around) : Prop where
  room : Room k A
  gd : A.guards = some []
  dl : A.depth + 3 * k + 150 < recursionLimit
structure Rm (k : Nat) (A : Around) : Prop where
  room : Room k A
  gd : A.guards = some []
  dl : A.depth + 3 * k + 150 < recursionLimit
  top : ∃ env l, A.frames = some (env :: l) ∧ Tpe env
omit [TabT] in
theorem Rm.c {k : Nat} {A : Around} (r : Rm k A) : RmC k A := ⟨r.room, r.gd, r.dl⟩
omit [TabT] in
theorem RmC.deeper {k : Nat} {A : Around} {l : List Env} (r : RmC (k + 1) A) (hf : A.frames = some l) (env : Env) (t : Tpe env) : Rm k (A.deeper env) :=
  ⟨r.room.deeper _, r.gd, by have := r.dl; show A.depth + 1 + 3 * k + 150 < _; omega, ⟨env, l, by show A.frames.map _ = _; rw [hf]; rfl, t⟩⟩
omit [TabT] in
theorem Rm.deeper {k : Nat} {A : Around} (r : Rm (k + 1) A) (env : Env) (t : Tpe env) : Rm k (A.deeper env) := by
  obtain ⟨e0, l, hf, _⟩ := r.top
  exact r.c.deeper hf env t
theorem Rm.mono {j k : Nat} {A : Around} (r : Rm k A) (h : j ≤ k) : Rm j A := ⟨r.room.mono h, r.gd, by have := r.dl; omega, r.top⟩
theorem Rm.units {k : Nat} {A : Around} (r : Rm k A) : A.units + 64 < cLine := r.room.units
theorem Rm.u1 {k : Nat} {A : Around} (r : Rm k A) : A.units + 1 < cLine := by
  have := r.room.units
  omega
theorem Rm.in65 {k : Nat} {A : Around} (r : Rm k A) : A.units + 65 < cLine := by
  have := r.room.un
  omega
/-- what the heap at the start is like, where a long division may go by a module -/
structure SeerK (P : Program) (base : Heap) : Prop where
  tree : P.given.tree = none
  ns : base.NoSeer
/-- what a def does, where no guard is under way -/
structure FnG (P : Program) (w : World) (K : PySem.W.Frag) (mg : Str → Option Value) (base : Heap) (k : Nat) (f : Addr) (fd : FuncData) (ps : List Str) (sp : Sp) : Prop where
  len : ∀ us H Q E, sp us H Q E → us.length = ps.length
  run : ∀ (A : Around) (ou : List Env) (s : Shared) (H : Hp) (ar : Args) (us : List Value) (xs : List V) (Q : VK) (E : XK), RmC k A → Env0 P w K mg base A ou s H → BindsTo s fd ar (ps.zip us) → Vals xs us → sp xs H Q E → codeAny (model P w) A (.call (.ref f) ar) (CR (L2.CX P w) ou P w H s Q E) s
/-- cdv is the code of the def at f -/
def CodeAt (K : PySem.W.Frag) (f : Addr) (cdv : Value) : Prop := ∃ oc od fd osl, K.lookup f = some ⟨oc, od, .func fd, osl⟩ ∧ fd.code = cdv
theorem fnG_of {P : Program} {w : World} {K : PySem.W.Frag} {mg : Str → Option Value} {base : Heap} {x qual : Str} {params : Arguments} {body : List Stmt} {scope : Scope} {f : Addr} {fd : FuncData} {N ps : List Str} {k : Nat} {sp : Sp}
    (F : FunD K x qual params body scope [] [] f fd) (S : FnScope N ps scope) (len : ∀ us H Q E, sp us H Q E → us.length = ps.length)
    (hB : ∀ (cdv : Value) (A : Around) (ou : List Env) (s : Shared) (H : Hp) (xs : List V) (Q : VK) (E : XK), CodeAt K f cdv → Rm k (A.deeper (envOfC qual scope s.heap.objs.size f cdv)) → sp xs H Q E → ∃ t, PSs (cxOf (L2.CX P w) P w K mg base N qual scope f cdv A ou s H E) body t ∧ t { nx := fun _ G => Q .non G, rt := Q } (start N xs) H) :
    FnG P w K mg base (k + 1) f fd ps sp := by
  obtain ⟨oc, od, dV, kV, doc, pm, an, cdv, ct, osl, rfl, lk, hcd, -, -⟩ := F.ex
  refine ⟨len, fun A ou s H ar us xs Q E hr e0 hb rv hsp => ?_⟩
  have inK : K.In s.heap := e0.mod.kin.keeps fun c o q => (e0.bs c o q).1
  have nol : s.heap.NoLimit := e0.mod.nolimit.keeps fun c o q => (e0.bs c o q).1
  have kinds : ∀ y ∈ ps.zip us, scope.names.lookup y.1 = some .local ∨ (scope.names.lookup y.1 = some .cell ∧ ((cellsFrom (s.heap.objs.size + 1) scope.names []).lookup y.1).isSome = true) := fun y hy => (S.par y.1 (List.of_mem_zip (a := y.1) (b := y.2) hy).1).imp id fun q => ⟨q, PySem.W.cellsFrom_some _ _ _ (.inl q)⟩
  refine codeAny_call_function hr.room.depth (inK _ _ lk) rfl S.co S.gen rfl (PySem.W.codeRec_of inK hcd) (hb _ _ _ _ ?_)
  refine wpAny_newFunctionEnv_cells S.kind kinds fun env he s1 z => ?_
  subst he
  refine ⟨nol.keeps z.toInCall.keep, codeAny_func ?_⟩
  obtain ⟨t, ht, hq⟩ := hB cdv A ou s H xs Q E ⟨_, _, _, _, lk, rfl⟩ (hr.deeper e0.frames _ ⟨S.gen, S.co, rfl, rfl⟩) hsp
  have st0 : Inv (cxOf (L2.CX P w) P w K mg base N qual scope f cdv A ou s H E) [] (start N xs) H s1 := inv_start S hr.room.hd e0 (len _ _ _ _ hsp) rv z
  refine wpAny_mono (ht.run [] s1 _ H _ st0 hq) (fun fl s2 h => ?_) fun _ _ h => h
  cases fl with
  | ret u =>
    obtain ⟨v, _, H2, J, rv2, q⟩ := h
    exact ⟨v, H2, J.os, J.bare, J.base, J.hok, rv2, q⟩
  | next =>
    obtain ⟨_, H2, J, q⟩ := h
    exact ⟨.non, H2, J.os, J.bare, J.base, J.hok, rfl, q⟩
  | brk => exact h.elim fun _ h => h.elim fun _ h => h.2.elim
  | cont => exact h.elim fun _ h => h.elim fun _ h => h.2.elim
section
variable {X : Cx} {k : Nat} {f : Addr} {fd : FuncData} {ps : List Str} {sp : Sp} {Ew : L2.St → XK} {x : Str} {p pos : Pos} {e : Expr} {es : List Expr} {t : TA}
def tCallG (sp : Sp) (Ew : L2.St → XK) (t : TA) : TE := fun st H Q => t st H fun xs H1 => sp xs H1 Q (Ew st)
theorem runG {pins : List (Addr × Obj)} {st : L2.St} {H : Hp} {s : Shared} {Q : VK} {us : List Value} {xs : List V} (F : FnG X.prog X.w X.K X.mg X.base k f fd ps sp) (hr : Rm k X.A) (hb : Binds X.K fd ps []) (hx : PassesAt (L2.CX X.prog X.w) X st (Ew st)) (I : Inv X pins st H s) (rv : Vals xs us) (h : sp xs H Q (Ew st)) :
    wpAny (model X.prog X.w) X.A (call (.ref f) us) (EP X pins st Q) X.xe s := by
  have hb2 := hb s us I.kIn
  rw [List.append_nil] at hb2
  refine wpAny_call (codeAny_mono (F.run X.A X.stack s H ⟨us, []⟩ us xs Q (Ew st) hr.c I.env0 (hb2 (by rw [← rv.length]; exact F.len _ _ _ _ h)) rv h) fun o s2 q => ?_)
  rcases o with er | fl
  · exact hx pins H s er s2 I q
  · cases fl with
    | ret u => exact I.after q
    | next => exact False.elim q
    | brk => exact False.elim q
    | cont => exact False.elim q
theorem pe_callG (F : FnG X.prog X.w X.K X.mg X.base k f fd ps sp) (hr : Rm k X.A) (hg : Gl X x) (hm : X.mg x = some (.ref f)) (hk : PySem.W.keepIn X.K (.ref f) = true) (hb : Binds X.K fd ps []) (hx : ∀ st, PassesAt (L2.CX X.prog X.w) X st (Ew st)) (ha : PA X (e :: es) t)
    (hdb : (x == ("__debug__" : Str)) = false := by decide) (he : starEach (e :: es) X.env = (false, eval e X.env) :: starEach es X.env := by rfl) (hpl : (backTo pos (starEach es X.env)).any (·.1) = false := by rfl) : PE X (.Call (.Name x p) (e :: es) [] pos) (tCallG sp Ew t) :=
  ⟨fun pins s st H Q I h => wpAny_Call_Name_kw (ld_glob I hg hm (PySem.W.callWith_K (h₀ := X.base) I.ok.mod.kin hk (thn (ha.run pos pins s st H _ I h) fun us s1 ⟨xs, H1, I1, rv, q⟩ => ⟨I1.kIn, runG F hr hb (hx st) I1 rv q⟩) he hpl) hdb)⟩
end
/-- a def keeps its promise -/
theorem mk_fnC {P : Program} {w : World} {K : PySem.W.Frag} {mg : Str → Option Value} {base : Heap} {x qual : Str} {params : Arguments} {body : List Stmt} {scope : Scope} {f : Addr} {fd : FuncData} {N ps : List Str} {k : Nat} {m : M Fl}
    (F : FunD K x qual params body scope [] [] f fd) (S : FnScope N ps scope)
    (hb : ∀ (cdv : Value), CodeAt K f cdv → ∀ (A : Around) (outer : List Env) (s : Shared) (H : Hp) (E : XK), Rm k (A.deeper (envOfC qual scope s.heap.objs.size f cdv)) → PSs (cxOf (L2.CX P w) P w K mg base N qual scope f cdv A outer s H E) body (sM (ccOf K mg E) m)) :
    FnG P w K mg base (k + 1) f fd ps (spG K mg ps.length (fnOf N.length m)) := by
  refine fnG_of F S (fun vs H Q E h => h.1) fun cdv A outer s H vs Q E hc hr h => ⟨_, hb cdv hc A outer s H E hr, ?_⟩
  obtain ⟨hl, pa, Hk, F1, rs, ok, ao, po⟩ := h
  have hlr : rs.length = vs.length := by
    have := ok.len
    rw [List.length_map] at this
    exact this.symm
  have ok2 := ok.begin (N.length - vs.length)
  show sM (ccOf K mg E) m _ (vs.map some ++ List.replicate (N.length - vs.length) none) H
  refine ⟨pa, Hk, F1, F1, rs ++ List.replicate (N.length - vs.length) .unk, ok2, ?_⟩
  rw [← hlr]
  unfold fnOf flRv at po
  cases hm : m (rs ++ List.replicate (N.length - rs.length) .unk) with
  | no =>
    rw [hm] at po
    exact po.elim
  | ex e r1 =>
    rw [hm] at po
    intro F' H' st' cls dd k' e' xo
    have po : Po _ (backR rs (.ex e r1)) _ := po
    unfold backR at po
    cases hz : backA rs r1 with
    | none =>
      have po : Po _ (match backA rs r1 with
        | some z => (.ex e z : Re RV)
        | none => .no) _ := po
      rw [hz] at po
      exact po.elim
    | some z =>
      have po : Po _ (match backA rs r1 with
        | some z => (.ex e z : Re RV)
        | none => .no) _ := po
      rw [hz] at po
      exact po F' H' cls dd (ok.ended ao k' hz) xo
  | ok fl r1 =>
    rw [hm] at po
    have fin : ∀ rv, Po (fun e rs' => ∀ F' H' cls dd, Ok K pa Hk F1 F' H' (vs.map some) rs' → ExOk ⟨K, mg, fun _ _ _ _ => True⟩ F' H' e cls dd → E cls dd H') (backR rs (.ok rv r1)) (fun rv rs' => ∀ F' H' v, Ok K pa Hk F1 F' H' (vs.map some) rs' → RvOk K Hk F' H' (vs.map some) rs' v rv → Q v H') →
        ∀ F' H' st' v, Ok K pa Hk F1 F' H' st' r1 → RvOk K Hk F' H' st' r1 v rv → Q v H' := fun rv po F' H' st' v k' hv => by
      have po : Po _ (match backA rs r1 with
        | some z => (.ok rv z : Re RV)
        | none => .no) _ := po
      cases hz : backA rs r1 with
      | none =>
        rw [hz] at po
        exact po.elim
      | some z =>
        rw [hz] at po
        exact po F' H' v (ok.ended ao k' hz) (RvOk.ended ok ao k' hz hv)
    cases fl with
    | nx => exact fun F' H' st' k' e' => fin (.v .none) po F' H' st' .non k' .non
    | bk => exact po.elim
    | ct => exact po.elim
    | rt rv => exact fun F' H' st' v k' e' hv => fin rv po F' H' st' v k' hv
theorem mk_fn {P : Program} {w : World} {K : PySem.W.Frag} {mg : Str → Option Value} {base : Heap} {x qual : Str} {params : Arguments} {body : List Stmt} {scope : Scope} {f : Addr} {fd : FuncData} {N ps : List Str} {k : Nat} {m : M Fl}
    (F : FunD K x qual params body scope [] [] f fd) (S : FnScope N ps scope)
    (hb : ∀ (cdv : Value) (A : Around) (outer : List Env) (s : Shared) (H : Hp) (E : XK), Rm k (A.deeper (envOfC qual scope s.heap.objs.size f cdv)) → PSs (cxOf (L2.CX P w) P w K mg base N qual scope f cdv A outer s H E) body (sM (ccOf K mg E) m)) :
    FnG P w K mg base (k + 1) f fd ps (spG K mg ps.length (fnOf N.length m)) := mk_fnC F S fun cdv _ => hb cdv
/-! ### calls -/
/-- the def x of the text, its mirror -/
structure Fn (P : Program) (w : World) (K : PySem.W.Frag) (mg : Str → Option Value) (base : Heap) (k : Nat) (x : Str) (n : Nat) (f : List Sl → Re RV) : Prop where
  ex : ∃ (a : Addr) (fd : FuncData) (ps : List Str), mg x = some (.ref a) ∧ PySem.W.keepIn K (.ref a) = true ∧ Binds K fd ps [] ∧ FnG P w K mg base k a fd ps (spG K mg n f)
def cCall (f : List Sl → Re RV) (ms : M (List D)) : M RV := ms.bind fun ds r => match f (ds.map .v) with
  | .ok rv _ => .ok rv r
  | .ex e _ => .ex e r
  | .no => .no
def getC (i : Nat) (r : En) : Option Ct := (r[i]?).bind Sl.own
def putC (i : Nat) (ct : Ct) (r : En) : En := match r[i]? with
  | some s => r.set i (s.put ct)
  | none => r
/-- f(x, ..): the object x is the callee's to change -/
def cCallI (i : Nat) (f : List Sl → Re RV) (ms : M (List D)) : M RV := fun r => match getC i r with
  | none => .no
  | some _ => (ms r).bind fun ds r => match getC i r with
    | some ct => (match f (.io ct :: ds.map .v) with
      | .ok rv (.io ct' :: _) => .ok rv (putC i ct' r)
      | .ex e (.io ct' :: _) => .ex e (putC i ct' r)
      | _ => .no)
    | none => .no
section
variable {K : PySem.W.Frag} {pa : Nat → Addr} {H0 F0 F H : Hp} {st : L2.St} {r : En}
theorem getC_some {i : Nat} {r : En} {ct : Ct} (h : getC i r = some ct) : ∃ s, r[i]? = some s ∧ s.own = some ct := by
  unfold getC at h
  cases e : r[i]? with
  | none =>
    rw [e] at h
    cases h
  | some s =>
    rw [e] at h
    exact ⟨s, rfl, h⟩
theorem Ok.putC (k : Ok K pa H0 F0 F H st r) {i : Nat} {c c' : Ct} {a : Addr} {o : HO} (h : getC i r = some c) (ha : st[i]? = some (some (.ref a))) (new : CtOk K F (upd H a o) a c')
    (newI : ∀ b, Inn (upd H a o) a c' b → Inn H a c b ∨ (F b = none ∧ H0 b = none ∧ a ≠ b ∧ Nob H st r b) := by intro b hb; first | exact (inn_l hb).elim | exact (inn_d hb).elim | exact (inn_t hb).elim) : Ok K pa H0 F0 F (upd H a o) st (putC i c' r) := by
  obtain ⟨s, h1, h2⟩ := getC_some h
  unfold Pu.putC
  rw [h1]
  exact k.put h1 h2 ha new newI
theorem argsV {vs : List V} {ds : List D} (hr : RpAll K F vs ds) (fh : Ex F H) (tb : LamX.Tabs (TabT.T K) H) : Ok K pa H F F H (vs.map some) (ds.map Sl.v) where
  hH := Ex.refl H
  fF := Ex.refl F
  fH := fh
  sep := fun _ _ h => h
  len := by rw [List.length_map, List.length_map, dpa_len hr]
  sl := fun i s h n => by
    rw [List.getElem?_map] at h
    cases hd : ds[i]? with
    | none =>
      rw [hd] at h
      cases h
    | some d =>
      rw [hd] at h
      cases h
      obtain ⟨v, h1, h2⟩ := dpa_get hr hd
      exact ⟨v, by rw [List.getElem?_map, h1]; rfl, h2⟩
  tb := tb
  dis := fun i j s q c c' a ne h1 h2 o1 => by
    rw [List.getElem?_map] at h1
    cases hd : ds[i]? with
    | none =>
      rw [hd] at h1
      cases h1
    | some d =>
      rw [hd] at h1
      cases h1
      cases o1
  inn := fun i s c a b h1 h2 => by
    rw [List.getElem?_map] at h1
    cases hd : ds[i]? with
    | none =>
      rw [hd] at h1
      cases h1
    | some d =>
      rw [hd] at h1
      cases h1
      cases h2
/-- what a callee made is nobody's here -/
theorem Ok.awayC (k : Ok K pa H0 F0 F H st r) {F' H' : Hp} {st' : L2.St} {r' : En} {a : Addr} {c : Ct} (e : Ex H H') (n : H a = none) (w : ∀ b, Inn H' a c b → F' b = none ∧ H b = none ∧ a ≠ b ∧ Nob H' st' r' b) : Away H0 F' H' st r a c := by
  have key : ∀ b, H b = none → Nob H' st r b := fun b hb => (k.nobody hb).cg fun i s c2 a2 h1 h2 h3 => by
    obtain ⟨a3, z1, z2, z3, z4⟩ := k.ownd h1 h2
    rw [h3] at z1
    cases z1
    obtain ⟨o, ho, hnt⟩ := z4.there'
    exact (e.at_ _ o ho hnt).trans ho.symm
  exact ⟨key a n, fun b hb => by
    obtain ⟨g1, g2, g3, g4⟩ := w b hb
    exact ⟨g1, k.hH.nn g2, g3, key b g2⟩⟩
theorem argsOkV (ds : List D) : ArgsOk (ds.map Sl.v) := fun s hs => by
  obtain ⟨d, _, rfl⟩ := List.mem_map.mp hs
  exact .inl ⟨d, rfl⟩
end
/-! ### objects lent to a callee -/
/-- b belongs to what is lent -/
def LentA (H : Hp) (st : L2.St) (r : En) (is : List Nat) (b : Addr) : Prop := ∃ i ∈ is, ∃ s c a, r[i]? = some s ∧ s.own = some c ∧ st[i]? = some (some (V.ref a)) ∧ (a = b ∨ Inn H a c b)
open Classical in
/-- the heap but for what is lent -/
noncomputable def Hless (H : Hp) (st : L2.St) (r : En) (is : List Nat) : Hp := fun b => if LentA H st r is b then none else H b
section
variable {K : PySem.W.Frag} {pa pa' : Nat → Addr} {H0 F0 F H F' H' : Hp} {st : L2.St} {r r' : En} {is : List Nat} {sv : L2.St} {rs' : List Sl}
omit [TabT] in
theorem Hless.at_ {b : Addr} (h : LentA H st r is b) : Hless H st r is b = none := if_pos h
omit [TabT] in
theorem Hless.ne {b : Addr} (h : ¬ LentA H st r is b) : Hless H st r is b = H b := if_neg h
omit [TabT] in
theorem Hless.ex : Ex (Hless H st r is) H := .of fun b o z => by
  by_cases h : LentA H st r is b
  · rw [Hless.at_ h] at z
    cases z
  · rw [Hless.ne h] at z
    exact z
theorem Ok.lentFree (k1 : Ok K pa H0 F0 F H st r) {b : Addr} (h : LentA H st r is b) : H0 b = none ∧ F b = none := by
  obtain ⟨i, _, s, c, a, h1, h2, h3, h4⟩ := h
  rcases h4 with rfl | h4
  · obtain ⟨a', z1, z2, z3, z4⟩ := k1.ownd h1 h2
    rw [h3] at z1
    cases z1
    exact ⟨z3, z2⟩
  · obtain ⟨f1, f2, _⟩ := k1.inn i s c a b h1 h2 h3 h4
    exact ⟨f2, f1⟩
theorem Ok.lentEx (k1 : Ok K pa H0 F0 F H st r) : Ex H0 (Hless H st r is) := ⟨fun b o z nt => by
  rw [Hless.ne fun h => by
    rw [(k1.lentFree h).1] at z
    cases z]
  exact k1.hH.at_ b o z nt, fun b ps z => by
  rw [Hless.ne fun h => by
    rw [(k1.lentFree h).1] at z
    cases z]
  exact k1.hH.tb b ps z⟩
/-- another slot's object is not lent -/
theorem Ok.notLent (k1 : Ok K pa H0 F0 F H st r) {j : Nat} {s : Sl} {c : Ct} {a b : Addr} (hj : j ∉ is) (h1 : r[j]? = some s) (h2 : s.own = some c) (h3 : st[j]? = some (some (.ref a))) (hb : a = b ∨ Inn H a c b) : ¬ LentA H st r is b := fun ⟨i, hi, s2, c2, a2, g1, g2, g3, g4⟩ => by
  have ne : j ≠ i := fun z => hj (z ▸ hi)
  rcases hb with rfl | hb
  · rcases g4 with rfl | g4
    · exact k1.dis j i s s2 c c2 a2 ne h1 g1 h2 g2 h3 g3
    · exact ((k1.inn i s2 c2 a2 a g1 g2 g3 g4).2.2 j s c a h1 h2 h3).1 rfl
  · obtain ⟨_, _, f3⟩ := k1.inn j s c a b h1 h2 h3 hb
    obtain ⟨y1, y2⟩ := f3 i s2 c2 a2 g1 g2 g3
    rcases g4 with rfl | g4
    · exact y1 rfl
    · exact y2 (fun z => ne z.symm) g4
/-- what stays of a slot that is not lent -/
theorem Ok.stays (k1 : Ok K pa H0 F0 F H st r) (k2 : Ok K pa' (Hless H st r is) F F' H' sv rs') {j : Nat} {s : Sl} {c : Ct} {a : Addr} (hj : j ∉ is) (h1 : r[j]? = some s) (h2 : s.own = some c) (h3 : st[j]? = some (some (.ref a))) :
    H' a = H a ∧ F' a = none ∧ CtOk K F' H' a c ∧ ∀ b, Inn H' a c b → Inn H a c b ∧ H' b = H b ∧ F' b = none := by
  obtain ⟨a', z1, z2, z3, z4⟩ := k1.ownd h1 h2
  rw [h3] at z1
  cases z1
  have same : ∀ b o, (a = b ∨ Inn H a c b) → H b = some o → (∀ ps, o ≠ .tbl ps) → F b = none → H' b = H b ∧ F' b = none := fun b o hb ho hnt hF => by
    have z : Hless H st r is b = some o := by
      rw [Hless.ne (k1.notLent hj h1 h2 h3 hb)]
      exact ho
    exact ⟨(k2.hH.at_ b o z hnt).trans ho.symm, none_of_not fun y => k2.sep b (ne_none z) y hF⟩
  obtain ⟨o, ho, hnt⟩ := z4.there'
  obtain ⟨e1, e2⟩ := same a o (.inl rfl) ho hnt z2
  have inn : ∀ b, Inn H a c b → H' b = H b ∧ F' b = none := fun b hb => by
    obtain ⟨ws, hw⟩ := z4.inn hb
    exact same b _ (.inr hb) hw (fun ps z => nomatch z) (k1.inn j s c a b h1 h2 h3 hb).1
  exact ⟨e1, e2, z4.mono k2.fF e1 fun b hb => (inn b hb).1, fun b hb => by
    have hb' := hb.cg e1.symm
    exact ⟨hb', inn b hb'⟩⟩
/-- the slots behind the call -/
def BackOk (st : L2.St) (r r' : En) (is : List Nat) (sv : L2.St) (rs' : List Sl) : Prop := r'.length = r.length ∧ ∀ (j : Nat) (s' : Sl), r'[j]? = some s' → (j ∉ is ∧ r[j]? = some s') ∨
  ∃ (p : Nat) (s : Sl) (ct ct' : Ct) (a : Addr), j ∈ is ∧ r[j]? = some s ∧ s.own = some ct ∧ st[j]? = some (some (V.ref a)) ∧ s' = s.put ct' ∧ rs'[p]? = some (Sl.io ct') ∧ sv[p]? = some (some (V.ref a))
theorem Ok.lent (k1 : Ok K pa H0 F0 F H st r) (k2 : Ok K pa' (Hless H st r is) F F' H' sv rs') (hb : BackOk st r r' is sv rs') : Ok K pa H0 F0 F' H' st r' := by
  have h0 := k1.lentEx (is := is)
  -- an owned slot behind the call
  have view : ∀ (j : Nat) (s' : Sl) (c' : Ct) (a : Addr), r'[j]? = some s' → s'.own = some c' → st[j]? = some (some (.ref a)) →
      (∃ s c, r[j]? = some s ∧ s.own = some c) ∧ ((j ∉ is ∧ r[j]? = some s') ∨ (j ∈ is ∧ ∃ p : Nat, sv[p]? = some (some (V.ref a)) ∧ rs'[p]? = some (Sl.io c'))) := fun j s' c' a h1 h2 h3 => by
    rcases hb.2 j s' h1 with ⟨hj, h⟩ | ⟨p, s, ct, ct', a', hj, g1, g2, g3, rfl, g5, g6⟩
    · exact ⟨⟨s', c', h, h2⟩, .inl ⟨hj, h⟩⟩
    · have e : (s.put ct').own = some ct' := by cases s <;> rfl
      rw [e] at h2
      cases h2
      rw [h3] at g3
      cases g3
      exact ⟨⟨s, ct, g1, g2⟩, .inr ⟨hj, p, g6, g5⟩⟩
  refine ⟨h0.trans k2.hH, k1.fF.trans k2.fF, k2.fH, fun b z1 z2 => k1.sep b z1 (k2.sep b (by
    cases hz : H0 b with
    | none => exact absurd hz z1
    | some o => exact (h0.some hz).elim fun _ q => ne_none q) z2), by rw [hb.1, k1.len], fun j s' h n => ?_, k2.tb, fun j1 j2 s1 s2 c1 c2 b ne h1 h2 o1 o2 st1 st2 => ?_, fun j s c a b h1 h2 h3 h4 => ?_⟩
  · rcases hb.2 j s' h with ⟨hj, hr⟩ | ⟨p, s, ct, ct', a, hj, g1, g2, g3, rfl, g5, g6⟩
    · obtain ⟨w, y1, y2⟩ := k1.sl j s' hr n
      refine ⟨w, y1, ?_⟩
      cases s' with
      | unk => trivial
      | pin => exact y2
      | v d => exact dp_mono k2.fF y2
      | o c1 =>
        obtain ⟨b, rfl, z1, z2, z3⟩ := y2
        obtain ⟨w1, w2, w3, _⟩ := k1.stays k2 hj hr rfl y1
        exact ⟨b, rfl, w2, z2, w3⟩
      | io c1 =>
        obtain ⟨rfl, z1, z2, z3⟩ := y2
        obtain ⟨w1, w2, w3, _⟩ := k1.stays k2 hj hr rfl y1
        exact ⟨rfl, w2, z2, w3⟩
    · refine ⟨_, g3, ?_⟩
      obtain ⟨v, w1, w2⟩ := k2.sl p _ g5 (fun z => nomatch z)
      rw [g6] at w1
      cases w1
      obtain ⟨w3, w4, w5, w6⟩ := w2
      have hb2 : H0 a = none := (k1.lentFree (is := is) ⟨j, hj, s, ct, a, g1, g2, g3, .inl rfl⟩).1
      cases w3
      cases s with
      | unk => cases g2
      | pin => cases g2
      | v d => cases g2
      | o c1 => exact ⟨_, rfl, w4, hb2, w6⟩
      | io c1 =>
        obtain ⟨w, y1, y2⟩ := k1.sl j _ g1 (fun z => nomatch z)
        obtain ⟨rfl, _⟩ := y2
        rw [g3] at y1
        have e : pa' p = pa j := by
          have := Option.some.inj (Option.some.inj y1)
          injection this
        rw [← e]
        exact ⟨rfl, w4, hb2, w6⟩
  · obtain ⟨⟨s3, c3, w1, w2⟩, _⟩ := view j1 s1 c1 b h1 o1 st1
    obtain ⟨⟨s4, c4, w3, w4⟩, _⟩ := view j2 s2 c2 b h2 o2 st2
    exact k1.dis j1 j2 s3 s4 c3 c4 b ne w1 w3 w2 w4 st1 st2
  · obtain ⟨⟨s3, c3, w1, w2⟩, hv⟩ := view j s c a h1 h2 h3
    -- what is within an object that is not lent is foreign to what came back
    rcases hv with ⟨hj, hr⟩ | ⟨hj, p, hp, hio⟩
    · obtain ⟨e1, e2, e3, e4⟩ := k1.stays k2 hj hr h2 h3
      obtain ⟨q1, q2, q3⟩ := e4 b h4
      obtain ⟨f1, f2, f3⟩ := k1.inn j s c a b hr h2 h3 q1
      refine ⟨q3, f2, fun j2 s2 c2 a2 g1 g2 g3 => ?_⟩
      obtain ⟨⟨s4, c4, w3, w4⟩, hv2⟩ := view j2 s2 c2 a2 g1 g2 g3
      refine ⟨(f3 j2 s4 c4 a2 w3 w4 g3).1, fun nj n => ?_⟩
      rcases hv2 with ⟨hj2, hr2⟩ | ⟨hj2, p2, hp2, hio2⟩
      · exact (f3 j2 s2 c2 a2 hr2 g2 g3).2 nj ((k1.stays k2 hj2 hr2 g2 g3).2.2.2 b n).1
      · have z := (k2.inn p2 _ c2 a2 b hio2 rfl hp2 n).2.1
        rw [Hless.ne (k1.notLent hj hr h2 h3 (.inr q1))] at z
        obtain ⟨a', y1, y2, y3, y4⟩ := k1.ownd hr h2
        rw [h3] at y1
        cases y1
        obtain ⟨ws, hw⟩ := y4.inn q1
        rw [hw] at z
        cases z
    · obtain ⟨f1, f2, f3⟩ := k2.inn p _ c a b hio rfl hp h4
      refine ⟨f1, h0.nn f2, fun j2 s2 c2 a2 g1 g2 g3 => ?_⟩
      obtain ⟨⟨s4, c4, w3, w4⟩, hv2⟩ := view j2 s2 c2 a2 g1 g2 g3
      rcases hv2 with ⟨hj2, hr2⟩ | ⟨hj2, p2, hp2, hio2⟩
      · have far : ∀ b2, (a2 = b2 ∨ Inn H a2 c2 b2) → b ≠ b2 := fun b2 hb2 z => by
          subst z
          rw [Hless.ne (k1.notLent hj2 hr2 g2 g3 hb2)] at f2
          obtain ⟨a', y1, y2, y3, y4⟩ := k1.ownd hr2 g2
          rw [g3] at y1
          cases y1
          rcases hb2 with rfl | hb2
          · obtain ⟨o, ho⟩ := y4.there
            rw [ho] at f2
            cases f2
          · obtain ⟨ws, hw⟩ := y4.inn hb2
            rw [hw] at f2
            cases f2
        exact ⟨fun z => far a2 (.inl rfl) z.symm, fun _ n => far b (.inr ((k1.stays k2 hj2 hr2 g2 g3).2.2.2 b n).1) rfl⟩
      · obtain ⟨y1, y2⟩ := f3 p2 _ c2 a2 hio2 rfl hp2
        refine ⟨y1, fun nj n => y2 (fun z => nj ?_) n⟩
        subst z
        rw [hp] at hp2
        cases hp2
        by_cases e : j2 = j
        · exact e
        · exact (k1.dis j2 j s4 s3 c4 c3 a e w3 w1 w4 w2 g3 h3).elim
/-- what a callee handed back, beside what was lent -/
theorem RvOk.lent (k1 : Ok K pa H0 F0 F H st r) (k2 : Ok K pa' (Hless H st r is) F F' H' sv rs') (hb : BackOk st r r' is sv rs') {v : V} {rv : RV} (h : RvOk K (Hless H st r is) F' H' sv rs' v rv) : RvOk K H0 F' H' st r' v rv := by
  have h0 := k1.lentEx (is := is)
  cases rv with
  | v d => exact h
  | o c2 =>
    obtain ⟨b, rfl, z1, z2, z3, z4, z5⟩ := h
    have key : ∀ b2, Hless H st r is b2 = none → Nob H' sv rs' b2 → Nob H' st r' b2 := fun b2 hb2 nb j s c a h1 h2 h3 => by
      rcases hb.2 j s h1 with ⟨hj, hr⟩ | ⟨p, s0, ct, ct', a', hj, g1, g2, g3, rfl, g5, g6⟩
      · have far : ∀ b3, (a = b3 ∨ Inn H a c b3) → b2 ≠ b3 := fun b3 hb3 z => by
          subst z
          rw [Hless.ne (k1.notLent hj hr h2 h3 hb3)] at hb2
          obtain ⟨a', y1, y2, y3, y4⟩ := k1.ownd hr h2
          rw [h3] at y1
          cases y1
          rcases hb3 with rfl | hb3
          · obtain ⟨o, ho⟩ := y4.there
            rw [ho] at hb2
            cases hb2
          · obtain ⟨ws, hw⟩ := y4.inn hb3
            rw [hw] at hb2
            cases hb2
        exact ⟨fun z => far a (.inl rfl) z.symm, fun n => far b2 (.inr ((k1.stays k2 hj hr h2 h3).2.2.2 b2 n).1) rfl⟩
      · have e : (s0.put ct').own = some ct' := by cases s0 <;> rfl
        rw [e] at h2
        cases h2
        rw [h3] at g3
        cases g3
        exact nb p _ c a g5 rfl (g6)
    exact ⟨b, rfl, z1, h0.nn z2, z3, key b z2 z4, fun b2 hb2 => by
      obtain ⟨g1, g2, g3, g4⟩ := z5 b2 hb2
      exact ⟨g1, h0.nn g2, g3, key b2 g2 g4⟩⟩
end
section
variable {X : Cx} {c : Cc} {k n : Nat} {x : Str} {f : List Sl → Re RV} {e : Expr} {es : List Expr} {p pos : Pos} {ms : M (List D)}
theorem callV {F H : Hp} {st : L2.St} {r : En} {pa : Nat → Addr} {H0 F0 F00 : Hp} {vs : List V} {ds : List D} {Q : VK} (hn : ds.length = n) (k1 : Ok c.K pa H0 F0 F H st r) (dps : RpAll c.K F vs ds)
    (e0 : Ex F00 F) (q : Po (XW c pa H0 F0 F) (match f (ds.map .v) with
      | .ok rv _ => .ok rv r
      | .ex e _ => .ex e r
      | .no => .no) fun rv r' => ∀ F' H' v, Ok c.K pa H0 F0 F' H' st r' → Ex F00 F' → RvOk c.K H0 F' H' st r' v rv → Q v H') : spG c.K c.mg n f vs H Q (fun cls d H' => c.W cls d st H') := by
  refine ⟨by rw [dpa_len dps]; exact hn, pa, H, F, ds.map .v, argsV dps k1.fH k1.tb, argsOkV ds, ?_⟩
  have grow : ∀ {F' H' : Hp} {z : List Sl}, Ok c.K pa H F F' H' (vs.map some) z → Ok c.K pa H0 F0 F' H' st r := fun {F' H' z} k2 => k1.grow k2.hH k2.fF k2.fH (fun a h1 h2 => k2.sep a h2 h1) k2.tb
  cases hf : f (ds.map .v) with
  | no =>
    rw [hf] at q
    exact q.elim
  | ex ee z =>
    rw [hf] at q
    exact fun F' H' cls dd k2 xo => q F' H' st cls dd (grow k2) k2.fF xo
  | ok rv z =>
    rw [hf] at q
    refine fun F' H' v k2 hv => q F' H' v (grow k2) (e0.trans k2.fF) ?_
    cases rv with
    | v d => exact hv
    | o ct =>
      obtain ⟨a, rfl, z1, z2, z3, z4⟩ := hv
      exact ⟨a, rfl, z1, k1.hH.nn z2, z3, k1.awayC k2.hH z2 z4.2⟩
theorem o_call (G : Fn X.prog X.w X.K X.mg X.base k x n f) (hr : Rm k X.A) (tk : Takes X c.W) (ha : PA X (e :: es) (tA c ms)) (hK : c.K = X.K := by rfl) (hM : c.mg = X.mg := by rfl) (hg : Gl X x := by rfl) (hnm : ∀ r ds r', ms r = .ok ds r' → ds.length = n)
    (hdb : (x == ("__debug__" : Str)) = false := by decide) (he : starEach (e :: es) X.env = (false, eval e X.env) :: starEach es X.env := by rfl) (hpl : (backTo pos (starEach es X.env)).any (·.1) = false := by rfl) :
    PE X (.Call (.Name x p) (e :: es) [] pos) (tO c (cCall f ms)) := by
  obtain ⟨a, fd, ps, g1, g2, g3, g4⟩ := G.ex
  refine pe_cq (pe_callG (Ew := fun st cls d H' => c.W cls d st H') g4 hr hg g1 g2 g3 (fun σ => passAt tk σ) ha hdb he hpl) fun st H Q ⟨pa, H0, F0, F, r, ok, po⟩ => ?_
  refine ⟨pa, H0, F0, F, r, ok, ?_⟩
  have po : Po (XW c pa H0 F0 F) ((ms r).bind _) _ := po
  cases hm : ms r with
  | no =>
    rw [hm] at po
    exact po.elim
  | ex ee r1 =>
    rw [hm] at po
    exact po
  | ok ds r1 =>
    rw [hm] at po
    intro F1 H1 vs k1 e1 dps
    rw [← hK, ← hM]
    exact callV (hnm r ds r1 hm) k1 dps e1 (po.mono (XW.mono e1) fun _ _ x => x)
theorem aNil_len : ∀ (r : En) (ds : List D) (r' : En), aNil r = .ok ds r' → ds.length = 0 := fun r ds r' h => by
  cases h
  rfl
theorem aCons_len {m : M D} {ms : M (List D)} {n : Nat} (h : ∀ (r : En) (ds : List D) (r' : En), ms r = .ok ds r' → ds.length = n) : ∀ (r : En) (ds : List D) (r' : En), aCons m ms r = .ok ds r' → ds.length = n + 1 := fun r ds r' e => by
  have e : (m r).bind (fun d => ms.bind fun ds => M.ret (d :: ds)) = .ok ds r' := e
  cases hm : m r with
  | no =>
    rw [hm] at e
    cases e
  | ex ee r1 =>
    rw [hm] at e
    cases e
  | ok d r1 =>
    rw [hm] at e
    have e : (ms r1).bind (fun ds => M.ret (d :: ds)) = .ok ds r' := e
    cases hs : ms r1 with
    | no =>
      rw [hs] at e
      cases e
    | ex ee r2 =>
      rw [hs] at e
      cases e
    | ok ds2 r2 =>
      rw [hs] at e
      cases e
      exact congrArg Nat.succ (h r1 ds2 _ hs)
/-- f(x, e, ..): x in slot i is the callee's to change -/
theorem callI {i : Nat} {F H : Hp} {st : L2.St} {r : En} {pa : Nat → Addr} {H0 F0 F00 : Hp} {v0 : V} {vs : List V} {ds : List D} {Q : VK} (hn : ds.length + 1 = n) (k1 : Ok c.K pa H0 F0 F H st r) (hv0 : st[i]? = some (some v0)) (dps : RpAll c.K F vs ds)
    (e0 : Ex F00 F) (q : Po (XW c pa H0 F0 F) (match getC i r with
      | some ct => (match f (.io ct :: ds.map .v) with
        | .ok rv (.io ct' :: _) => .ok rv (putC i ct' r)
        | .ex e (.io ct' :: _) => .ex e (putC i ct' r)
        | _ => .no)
      | none => .no) fun rv r' => ∀ F' H' v, Ok c.K pa H0 F0 F' H' st r' → Ex F00 F' → RvOk c.K H0 F' H' st r' v rv → Q v H') : spG c.K c.mg n f (v0 :: vs) H Q (fun cls d H' => c.W cls d st H') := by
  cases hg : getC i r with
  | none =>
    rw [hg] at q
    exact q.elim
  | some ct =>
    rw [hg] at q
    obtain ⟨s, hs, hso⟩ := getC_some hg
    obtain ⟨a, ha, nF, n0, hct⟩ := k1.ownd hs hso
    rw [hv0] at ha
    cases ha
    -- all but that object
    let Hk : Hp := Hless H st r [i]
    have hk_a : Hk a = none := Hless.at_ ⟨i, List.mem_singleton.mpr rfl, s, ct, a, hs, hso, hv0, .inl rfl⟩
    have exk : Ex Hk H := Hless.ex
    have okA : Ok c.K (fun _ => a) Hk F F H ((V.ref a :: vs).map some) (.io ct :: ds.map Sl.v) := by
      have base := argsV (pa := fun _ => a) dps k1.fH k1.tb
      have noV : ∀ (j : Nat) (s' : Sl) (c' : Ct), (Sl.io ct :: ds.map Sl.v)[j]? = some s' → s'.own = some c' → j = 0 := fun j s' c' h o => by
        cases j with
        | zero => rfl
        | succ j =>
          have h : (ds.map Sl.v)[j]? = some s' := h
          rw [List.getElem?_map] at h
          cases hd : ds[j]? with
          | none =>
            rw [hd] at h
            cases h
          | some d =>
            rw [hd] at h
            cases h
            cases o
      refine ⟨exk, Ex.refl F, k1.fH, fun _ _ h => h, ?_, fun j s' h n => ?_, k1.tb, fun j1 j2 s1 s2 c1 c2 b ne h1 h2 o1 o2 _ _ => ?_, fun j1 s1 c1 a1 b h1 h2 h3 h4 => ?_⟩
      · have := base.len
        simp only [List.map_cons, List.length_cons] at this ⊢
        omega
      · cases j with
        | zero =>
          cases h
          exact ⟨.ref a, rfl, rfl, nF, hk_a, hct⟩
        | succ j =>
          obtain ⟨v, g1, g2⟩ := base.sl j s' h n
          refine ⟨v, g1, ?_⟩
          have h : (ds.map Sl.v)[j]? = some s' := h
          rw [List.getElem?_map] at h
          cases hd : ds[j]? with
          | none =>
            rw [hd] at h
            cases h
          | some d =>
            rw [hd] at h
            cases h
            exact g2
      · exact ne ((noV j1 s1 c1 h1 o1).trans (noV j2 s2 c2 h2 o2).symm)
      · cases noV j1 s1 c1 h1 h2
        cases h1
        cases h2
        cases h3
        obtain ⟨f1, f2, f3⟩ := k1.inn i s ct a b hs hso hv0 h4
        refine ⟨f1, Hless.at_ ⟨i, List.mem_singleton.mpr rfl, s, ct, a, hs, hso, hv0, .inr h4⟩, fun j2 s2 c2 a2 g1 g2 g3 => ?_⟩
        cases noV j2 s2 c2 g1 g2
        cases g1
        cases g2
        cases g3
        exact ⟨(f3 i s ct a hs hso hv0).1, fun z => absurd rfl z⟩
    have ao : ArgsOk (.io ct :: ds.map Sl.v) := fun s' hs' => by
      rcases List.mem_cons.mp hs' with rfl | hs'
      · exact .inr ⟨ct, rfl⟩
      · exact argsOkV ds s' hs'
    refine ⟨by rw [List.length_cons, dpa_len dps]; exact hn, fun _ => a, Hk, F, _, okA, ao, ?_⟩
    -- the caller's state behind the call
    have bk : ∀ {ct' : Ct} {z : List Sl}, BackOk st r (putC i ct' r) [i] ((V.ref a :: vs).map some) (.io ct' :: z) := fun {ct' z} => by
      have put : putC i ct' r = r.set i (s.put ct') := by
        unfold putC
        rw [hs]
      have hl : i < r.length := (List.getElem?_eq_some_iff.mp hs).1
      rw [put]
      refine ⟨List.length_set, fun j s' h => ?_⟩
      by_cases e : i = j
      · subst e
        rw [List.getElem?_set_self hl] at h
        cases h
        exact .inr ⟨0, s, ct, ct', a, List.mem_singleton.mpr rfl, hs, hso, hv0, rfl, rfl, rfl⟩
      · rw [List.getElem?_set_ne e] at h
        exact .inl ⟨fun z => e (List.mem_singleton.mp z).symm, h⟩
    have grow : ∀ {F' H' : Hp} {ct' : Ct} {z : List Sl}, Ok c.K (fun _ => a) Hk F F' H' ((V.ref a :: vs).map some) (.io ct' :: z) → Ok c.K pa H0 F0 F' H' st (putC i ct' r) := fun {F' H' ct' z} k2 => k1.lent k2 bk
    dsimp only at q
    cases hf : f (.io ct :: ds.map .v) with
    | no =>
      rw [hf] at q
      exact q.elim
    | ex ee z =>
      rw [hf] at q
      cases z with
      | nil => exact q.elim
      | cons z0 zr =>
        cases z0 with
        | io ct' => exact fun F' H' cls dd k2 xo => q F' H' st cls dd (grow k2) k2.fF xo
        | _ => exact q.elim
    | ok rv z =>
      rw [hf] at q
      cases z with
      | nil => exact q.elim
      | cons z0 zr =>
        cases z0 with
        | io ct' =>
          refine fun F' H' v k2 hv => q F' H' v (grow k2) (e0.trans k2.fF) ?_
          exact hv.lent k1 k2 bk
        | _ => exact q.elim
theorem o_callI (i : Nat) {y : Str} {py : Pos} (G : Fn X.prog X.w X.K X.mg X.base k x n f) (hr : Rm k X.A) (tk : Takes X c.W) (ha : PA X es (tA c ms)) (hnm : ∀ r ds r', ms r = .ok ds r' → ds.length + 1 = n) (hK : c.K = X.K := by rfl) (hM : c.mg = X.mg := by rfl) (hg : Gl X x := by rfl)
    (hN : X.N[i]? = some y := by rfl) (hv : Vis X.env.scope y := by first | exact Or.inl rfl | exact Or.inr (Or.inl rfl) | exact Or.inr (Or.inr rfl)) (hd : (y == ("__debug__" : Str)) = false := by decide) (hcd : (y == ("__classdict__" : Str)) = false := by decide)
    (hdb : (x == ("__debug__" : Str)) = false := by decide) (he : starEach (.Name y py :: es) X.env = (false, eval (.Name y py) X.env) :: starEach es X.env := by rfl) (hpl : (backTo pos (starEach es X.env)).any (·.1) = false := by rfl) :
    PE X (.Call (.Name x p) (.Name y py :: es) [] pos) (tO c (cCallI i f ms)) := by
  obtain ⟨a, fd, ps, g1, g2, g3, g4⟩ := G.ex
  refine pe_cq (pe_callG (Ew := fun st cls d H' => c.W cls d st H') g4 hr hg g1 g2 g3 (fun σ => passAt tk σ) (pa_cons (pe_var (i := i) hN hv hd hcd) ha he) hdb he hpl) fun st H Q ⟨pa, H0, F0, F, r, ok, po⟩ => ?_
  unfold cCallI at po
  cases hgc : getC i r with
  | none =>
    rw [hgc] at po
    exact po.elim
  | some ct0 =>
  rw [hgc] at po
  dsimp only at po
  obtain ⟨s0, hs0, hso0⟩ := getC_some hgc
  obtain ⟨a0, hv0, _⟩ := ok.ownd hs0 hso0
  refine ⟨_, hv0, pa, H0, F0, F, r, ok, ?_⟩
  cases hm : ms r with
  | no =>
    rw [hm] at po
    exact po.elim
  | ex ee r1 =>
    rw [hm] at po
    exact po
  | ok ds r1 =>
    rw [hm] at po
    intro F1 H1 vs k1 e1 dps
    rw [← hK, ← hM]
    show spG c.K c.mg n f ((V.ref a0 :: vs)) H1 Q _
    exact callI (hnm r ds r1 hm) k1 hv0 dps e1 (po.mono (XW.mono e1) fun _ _ x => x)
end
end Pu
namespace Pu
open PySem PySem.Spec PyProof.Rows L2
variable [TabT]
/-! ### tables of data -/
def keyD : D → Option Key
  | .int i => some (.inl i)
  | .str x => some (.inr x)
  | _ => none
def vK {κ : Type} [DecidableEq κ] (kvs : List (κ × D)) (k : κ) : Option D := (kvs.find? fun kv => decide (kv.1 = k)).map (·.2)
def pK {κ : Type} [DecidableEq κ] (kvs : List (κ × D)) (k : κ) (d : D) : List (κ × D) :=
  if (kvs.any fun kv => decide (kv.1 = k)) = true then kvs.map (fun kv => if kv.1 = k then (kv.1, d) else kv) else kvs ++ [(k, d)]
section
variable {K : PySem.W.Frag} {F : Hp} {κ : Type} [DecidableEq κ]
omit [DecidableEq κ] in
theorem kv_len : ∀ {ks : List (κ × V)} {kvs : List (κ × D)}, KvAll K F ks kvs → ks.length = kvs.length
  | _, _, .nil => rfl
  | _, _, .cons _ t => congrArg Nat.succ (kv_len t)
theorem kv_any (k : κ) : ∀ {ks : List (κ × V)} {kvs : List (κ × D)}, KvAll K F ks kvs → (ks.any fun kv => decide (kv.1 = k)) = (kvs.any fun kv => decide (kv.1 = k))
  | _, _, .nil => rfl
  | _, _, .cons _ t => by
    rw [List.any_cons, List.any_cons, kv_any k t]
theorem kv_get {k : κ} {d : D} : ∀ {ks : List (κ × V)} {kvs : List (κ × D)}, KvAll K F ks kvs → vK kvs k = some d → ∃ v, valV ks k = some v ∧ Rp K F v d
  | _, _, .nil, h => by cases h
  | _, _, .cons (k := k') (v := v') (d := d') (ks := ks) (kvs := kvs) r t, h => by
    by_cases e : k' = k
    · have h1 : vK ((k', d') :: kvs) k = some d' := by simp [vK, List.find?_cons, e]
      rw [h1] at h
      cases h
      exact ⟨v', valV_pos e, r⟩
    · have h1 : vK ((k', d') :: kvs) k = vK kvs k := by simp [vK, List.find?_cons, e]
      rw [h1] at h
      obtain ⟨v, g1, g2⟩ := kv_get t h
      exact ⟨v, (valV_neg e).trans g1, g2⟩
theorem kv_map {k : κ} {v : V} {d : D} (r : Rp K F v d) : ∀ {ks : List (κ × V)} {kvs : List (κ × D)}, KvAll K F ks kvs → KvAll K F (ks.map fun kv => if kv.1 = k then (kv.1, v) else kv) (kvs.map fun kv => if kv.1 = k then (kv.1, d) else kv)
  | _, _, .nil => .nil
  | _, _, .cons (k := k') (v := v') (d := d') (ks := ks) (kvs := kvs) r' t => by
    rw [List.map_cons, List.map_cons]
    by_cases e : k' = k
    · rw [if_pos e, if_pos e]
      exact .cons r (kv_map r t)
    · rw [if_neg e, if_neg e]
      exact .cons r' (kv_map r t)
omit [DecidableEq κ] in
theorem kv_app : ∀ {ks ls : List (κ × V)} {kvs lvs : List (κ × D)}, KvAll K F ks kvs → KvAll K F ls lvs → KvAll K F (ks ++ ls) (kvs ++ lvs)
  | _, _, _, _, .nil, h => h
  | _, _, _, _, .cons r t, h => .cons r (kv_app t h)
theorem kv_put {k : κ} {v : V} {d : D} {ks : List (κ × V)} {kvs : List (κ × D)} (h : KvAll K F ks kvs) (r : Rp K F v d) : KvAll K F (putK ks k v) (pK kvs k d) := by
  unfold putK pK
  rw [kv_any k h]
  split
  · exact kv_map r h
  · exact kv_app h (.cons r .nil)
omit [DecidableEq κ] in
theorem kv_merge : ∀ {ls : List (Key × V)} {lvs : List (Key × D)}, KvAll K F ls lvs → ∀ {ks : List (Key × V)} {kvs : List (Key × D)}, KvAll K F ks kvs → KvAll K F (mergeK ks ls) (lvs.foldl (fun acc kv => pK acc kv.1 kv.2) kvs)
  | _, _, .nil, _, _, h => h
  | _, _, .cons r t, _, _, h => kv_merge t (kv_put h r)
theorem rp_key {v : V} {d : D} {k : Key} (h : Rp K F v d) (e : keyD d = some k) : v = kV k := by
  cases h with
  | int i =>
    cases e
    rfl
  | str x =>
    cases e
    rfl
  | _ => cases e
end
/-! ### lists and dicts of one's own -/
def sAppend (i : Nat) (m : M D) : M Fl := fun r => match getC i r with
  | some (.l _) => (m r).bind fun d r => match getC i r with
    | some (.l ds) => if ds.length < 16777216 then .ok .nx (putC i (.l (ds ++ [d])) r) else .no
    | _ => .no
  | _ => .no
/-- x.extend(a new list) -/
def sExtend (i : Nat) (m : M RV) : M Fl := fun r => match getC i r with
  | some (.l _) => (m r).bind fun rv r => match rv, getC i r with
    | .o (.l es), some (.l ds) => if ds.length + es.length ≤ 16777216 then .ok .nx (putC i (.l (ds ++ es)) r) else .no
    | _, _ => .no
  | _ => .no
section
variable {X : Cx} {c : Cc}
theorem s_append (i : Nat) {x : Str} {e : Expr} {m : M D} {px apos cpos pos : Pos} (h : PE X e (tM c m)) (hK : c.K = X.K := by rfl) (hN : X.N[i]? = some x := by rfl) (hv : Vis X.env.scope x := by first | exact Or.inl rfl | exact Or.inr (Or.inl rfl) | exact Or.inr (Or.inr rfl)) (hd : (x == ("__debug__" : Str)) = false := by decide)
    (hcd : (x == ("__classdict__" : Str)) = false := by decide) (hs1 : starEach [e] X.env = [(false, eval e X.env)] := by rfl)
    (hbase : attributeBase (.Name x px) "append" X.env (eval (.Name x px) X.env) = eval (.Name x px) X.env := by rfl)
    (hfew : ((backTo cpos (starEach [e] X.env)).all (fun x => !x.1) && (backToKw cpos (keywordEach [] X.env)).all (fun x => x.1.isSome) && decide (([e] : List Expr).length + ([] : List Keyword).length + (if ([] : List Keyword).isEmpty then 0 else 1) < 30)) = true := by rfl)
    (hline : (apos.endLine == cpos.line) = true := by rfl) (hplain : (backTo cpos (starEach [] X.env)).any (·.1) = false := by rfl) (hsw : swapsWith (.Call (.Attribute (.Name x px) "append" apos) [e] [] cpos) none pos.line X.env = pure false := by rfl) :
    PS X (.Expr (.Call (.Attribute (.Name x px) "append" apos) [e] [] cpos) pos) (sM c (sAppend i m)) :=
  ps_cq (ps_expr (pe_bm PySem.F.plainAttrs_list PySem.F.slot_list_append PySem.F.type_list_append mt_append (pe_var (i := i) hN hv hd hcd) (pa_cons h pa_nil hs1) hbase hfew hline hs1 hplain) hsw) fun Dd st H ⟨pa, H0, F0, F, r, ok, po⟩ => by
    unfold sAppend at po
    split at po
    · rename_i ds0 hg
      obtain ⟨s0, hs0, hso0⟩ := getC_some hg
      obtain ⟨a, hst, nF, n0, vs0, hH0, hr0⟩ := ok.ownd hs0 hso0
      refine ⟨_, hst, .inl ⟨rfl, vs0, .inl (.inl hH0)⟩, ?_⟩
      refine ⟨pa, H0, F0, F, r, ok, (Po.bind po).mono (fun _ _ x => x) fun d r1 q F1 H1 v k1 e1 dp => ?_⟩
      split at q
      · rename_i ds hg1
        split at q
        · rename_i hl
          obtain ⟨s1, hs1, hso1⟩ := getC_some hg1
          obtain ⟨a1, hst1, nF1, n01, vs, hH1, hr1⟩ := k1.ownd hs1 hso1
          rw [hst] at hst1
          cases hst1
          refine ⟨a, vs, v, rfl, rfl, hH1, by rw [dpa_len hr1, sizeLine_eq]; exact hl, ?_⟩
          exact q F1 _ st (k1.putC hg1 hst ⟨_, upd_same, dpa_app hr1 (.cons dp .nil)⟩) e1
        · exact q.elim
      · exact q.elim
    · exact po.elim
theorem s_extend (i : Nat) {x : Str} {e : Expr} {m : M RV} {px apos cpos pos : Pos} (h : PE X e (tO c m)) (hK : c.K = X.K := by rfl) (hN : X.N[i]? = some x := by rfl) (hv : Vis X.env.scope x := by first | exact Or.inl rfl | exact Or.inr (Or.inl rfl) | exact Or.inr (Or.inr rfl)) (hd : (x == ("__debug__" : Str)) = false := by decide)
    (hcd : (x == ("__classdict__" : Str)) = false := by decide) (hs1 : starEach [e] X.env = [(false, eval e X.env)] := by rfl)
    (hbase : attributeBase (.Name x px) "extend" X.env (eval (.Name x px) X.env) = eval (.Name x px) X.env := by rfl)
    (hfew : ((backTo cpos (starEach [e] X.env)).all (fun x => !x.1) && (backToKw cpos (keywordEach [] X.env)).all (fun x => x.1.isSome) && decide (([e] : List Expr).length + ([] : List Keyword).length + (if ([] : List Keyword).isEmpty then 0 else 1) < 30)) = true := by rfl)
    (hline : (apos.endLine == cpos.line) = true := by rfl) (hplain : (backTo cpos (starEach [] X.env)).any (·.1) = false := by rfl) (hsw : swapsWith (.Call (.Attribute (.Name x px) "extend" apos) [e] [] cpos) none pos.line X.env = pure false := by rfl) :
    PS X (.Expr (.Call (.Attribute (.Name x px) "extend" apos) [e] [] cpos) pos) (sM c (sExtend i m)) :=
  ps_cq (ps_expr (pe_bm PySem.F.plainAttrs_list PySem.F.slot_list_extend PySem.F.type_list_extend mt_extend (pe_var (i := i) hN hv hd hcd) (pa_cons h pa_nil hs1) hbase hfew hline hs1 hplain) hsw) fun Dd st H ⟨pa, H0, F0, F, r, ok, po⟩ => by
    unfold sExtend at po
    split at po
    · rename_i ds0 hg
      obtain ⟨s0, hs0, hso0⟩ := getC_some hg
      obtain ⟨a, hst, nF, n0, vs0, hH0, hr0⟩ := ok.ownd hs0 hso0
      refine ⟨_, hst, .inl ⟨rfl, vs0, .inl (.inl hH0)⟩, ?_⟩
      refine ⟨pa, H0, F0, F, r, ok, (Po.bind po).mono (fun _ _ x => x) fun d r1 q F1 H1 v k1 e1 dp => ?_⟩
      split at q
      · rename_i es ds hg1
        split at q
        · rename_i hl
          obtain ⟨s1, hs1, hso1⟩ := getC_some hg1
          obtain ⟨a1, hst1, nF1, n01, vs, hH1, hr1⟩ := k1.ownd hs1 hso1
          rw [hst] at hst1
          cases hst1
          obtain ⟨b, rfl, z1, z2, ⟨ws, z3, z4⟩, z5⟩ := dp
          refine ⟨a, b, vs, ws, rfl, rfl, hH1, z3, by rw [dpa_len hr1, dpa_len z4, sizeLine_eq]; exact hl, ?_⟩
          exact q F1 _ st (k1.putC hg1 hst ⟨_, upd_same, dpa_app hr1 z4⟩) e1
        · exact q.elim
      · exact q.elim
    · exact po.elim
/-- a key that is a tuple of ints and texts -/
def keysD : List D → Option (List Key)
  | [] => some []
  | d :: ds => (keyD d).bind fun k => (keysD ds).map (k :: ·)
def tkeyD : D → Option (List Key)
  | .tuple ds => keysD ds
  | _ => none
theorem rp_keysD {K : PySem.W.Frag} {F : Hp} : ∀ {vs : List V} {ds : List D} {ks : List Key}, RpAll K F vs ds → keysD ds = some ks → vs = ks.map kV
  | _, _, _, .nil, h => by
    cases h
    rfl
  | _, _, _, .cons (d := d) (ds := ds) r t, h => by
    have h : (keyD d).bind (fun k => (keysD ds).map (k :: ·)) = some _ := h
    cases hk : keyD d with
    | none =>
      rw [hk] at h
      cases h
    | some k =>
      rw [hk] at h
      cases hks : keysD ds with
      | none =>
        rw [hks] at h
        cases h
      | some ks2 =>
        rw [hks] at h
        cases h
        rw [rp_keysD t hks, rp_key r hk]
        rfl
theorem rp_tkey {K : PySem.W.Frag} {F : Hp} {v : V} {d : D} {ks : List Key} (h : Rp K F v d) (hk : tkeyD d = some ks) : ∃ b, v = .ref b ∧ F b = some (.tup (ks.map kV)) := by
  cases h with
  | @tup a xs ds g1 g2 =>
    refine ⟨a, rfl, ?_⟩
    rw [← rp_keysD g2 hk]
    exact g1
  | _ => cases hk
/-! o[k] = e -/
theorem pset_or {t t' : TSet} (h : PSet X t) (h' : PSet X t') : PSet X (fun o i v H Q => t o i v H Q ∨ t' o i v H Q) :=
  fun pins s st H o i v ov iv u Q I ro ri rv q => q.elim (h pins s st H o i v ov iv u Q I ro ri rv) (h' pins s st H o i v ov iv u Q I ro ri rv)
/-- the slot is owned ahead of the key -/
def sPut' (i : Nat) (mk m : M D) : M Fl := m.bind fun d r => match getC i r with
  | none => .no
  | some _ => (mk r).bind fun k r => match getC i r with
    | some (.l ds) => (match k with
      | .int n => (match ixN ds.length n with
        | some j => .ok .nx (putC i (.l (ds.set j d)) r)
        | none => .no)
      | _ => .no)
    | some (.d kvs) => (match keyD k with
      | some y => if kvs.length < 16777216 then .ok .nx (putC i (.d (pK kvs y d)) r) else .no
      | none => .no)
    | some (.t kvs) => (match tkeyD k with
      | some y => if kvs.length < 16777216 then .ok .nx (putC i (.t (pK kvs y d)) r) else .no
      | none => .no)
    | some (.n _) => .no
    | none => .no
theorem s_put (i : Nat) {x : Str} {ek e : Expr} {mk m : M D} {px spos pos : Pos} (hk : PE X ek (tM c mk)) (h : PE X e (tM c m)) (hu : X.A.units + 1 < cLine) (hN : X.N[i]? = some x := by rfl) (hv : Vis X.env.scope x := by first | exact Or.inl rfl | exact Or.inr (Or.inl rfl) | exact Or.inr (Or.inr rfl)) (hd : (x == ("__debug__" : Str)) = false := by decide)
    (hcd : (x == ("__classdict__" : Str)) = false := by decide) (ha : ∀ v, assign (.Subscript (.Name x px) ek spos) X.env v = (do
      let ov ← holding [v] (eval (.Name x px) X.env)
      let iv ← holding [v, ov] (eval ek X.env)
      standAt spos
      holding [v, ov, iv] (setItem ov iv v)
      release [v, ov, iv] []) := by intro _; rfl)
    (hs : swapsWithSole [.Subscript (.Name x px) ek spos] e pos.line X.env = pure false := by rfl) (hw : swappedStores [.Subscript (.Name x px) ek spos] e X.env = pure none := by rfl)
    (h1 : (assignEach [.Subscript (.Name x px) ek spos] X.env).map (·.2) = [assign (.Subscript (.Name x px) ek spos) X.env] := by rfl) :
    PS X (.Assign [.Subscript (.Name x px) ek spos] e pos) (sM c (sPut' i mk m)) :=
  ps_cq (ps_asg h (pg_sub (pe_var (i := i) hN hv hd hcd) hk (pset_or set_list (set_dict hu)) ha) hs hw h1) fun Dd st H ⟨pa, H0, F0, F, r, ok, po⟩ => seqM ok po fun d r1 F1 H1 v k1 e1 dp q => by
    split at q
    · exact q.elim
    · rename_i ct0 hg
      obtain ⟨s0, hs0, hso0⟩ := getC_some hg
      obtain ⟨a, hst, _⟩ := k1.ownd hs0 hso0
      refine ⟨_, hst, pa, H0, F0, F1, r1, k1, (Po.bind q).mono (fun _ _ x => x) fun kd r2 q F2 H2 kv k2 e2 dk => ?_⟩
      split at q
      · rename_i ds hg2
        obtain ⟨s1, hs1, hso1⟩ := getC_some hg2
        obtain ⟨a1, hst1, nF1, n01, vs, hH1, hr1⟩ := k2.ownd hs1 hso1
        rw [hst] at hst1
        cases hst1
        split at q
        · rename_i n
          split at q
          · rename_i j hj
            cases rp_int dk
            refine .inl ⟨a, vs, n, j, rfl, rfl, hH1, by rw [dpa_len hr1]; exact hj, ?_⟩
            exact q F2 _ st (k2.putC hg2 hst ⟨_, upd_same, dpa_set (dp_mono e2 dp) j hr1⟩) (e1.trans e2)
          · exact q.elim
        · exact q.elim
      · rename_i kvs hg2
        obtain ⟨s1, hs1, hso1⟩ := getC_some hg2
        obtain ⟨a1, hst1, nF1, n01, ks, hH1, hr1⟩ := k2.ownd hs1 hso1
        rw [hst] at hst1
        cases hst1
        split at q
        · rename_i y hy
          split at q
          · rename_i hl
            cases rp_key dk hy
            refine .inr ⟨a, _, rfl, DPut.k (k := y) hH1 (by rw [kv_len hr1, sizeLine_eq]; exact hl), ?_⟩
            exact q F2 _ st (k2.putC hg2 hst ⟨_, upd_same, kv_put hr1 (dp_mono e2 dp)⟩) (e1.trans e2)
          · exact q.elim
        · exact q.elim
      · rename_i kvs hg2
        obtain ⟨s1, hs1, hso1⟩ := getC_some hg2
        obtain ⟨a1, hst1, nF1, n01, ks, hH1, hr1⟩ := k2.ownd hs1 hso1
        rw [hst] at hst1
        cases hst1
        split at q
        · rename_i y hy
          split at q
          · rename_i hl
            obtain ⟨b, rfl, hb⟩ := rp_tkey dk hy
            refine .inr ⟨a, _, rfl, DPut.t (k := y) hH1 (k2.fH.at_ _ _ hb fun ps z => nomatch z) (by rw [kv_len hr1, sizeLine_eq]; exact hl), ?_⟩
            exact q F2 _ st (k2.putC hg2 hst ⟨_, upd_same, kv_put hr1 (dp_mono e2 dp)⟩) (e1.trans e2)
          · exact q.elim
        · exact q.elim
      · exact q.elim
      · exact q.elim
/-! x[k], len(x), where x may be one's own -/
def ixL (ds : List D) : D → Option D
  | .int n => atI ds n
  | _ => none
def ixD : D → D → Option D
  | .list ds, k => ixL ds k
  | .tuple ds, k => ixL ds k
  | .str z, .int n => if z.length ≤ 16777216 then (atI z.cps.toList n).map fun ch => .str ⟨#[ch]⟩ else none
  | _, _ => none
theorem atI_rp {K : PySem.W.Frag} {F : Hp} {vs : List V} {ds : List D} {n : Int} {d : D} (hr : RpAll K F vs ds) (h : atI ds n = some d) : ∃ v, atI vs n = some v ∧ Rp K F v d := by
  unfold atI at h ⊢
  rw [dpa_len hr]
  cases hj : ixN ds.length n with
  | none =>
    rw [hj] at h
    cases h
  | some j =>
    rw [hj] at h
    exact dpa_get hr h
theorem opr_cq {f : Value → Value → Sem Value} {r r' : R2} (h : OpR X f r) (i : ∀ x y H Q, r' x y H Q → r x y H Q) : OpR X f r' := fun pins s st H x y v u Q I rx ry q => h pins s st H x y v u Q I rx ry (i x y H Q q)
theorem ixr_cq {r r' : R2} (h : IxR X r) (i : ∀ x y H Q, r' x y H Q → r x y H Q) : IxR X r' := fun va sl pins s st H x y v u Q I rx ry q => h va sl pins s st H x y v u Q I rx ry (i x y H Q q)
theorem callr_cq {f : Value} {r r' : List V → Hp → VK → Prop} (h : CallR X f r) (i : ∀ x H Q, r' x H Q → r x H Q) : CallR X f r' := fun pins s st H x v Q I rx q => h pins s st H x v Q I rx (i x H Q q)
theorem ix_data (hK : c.K = X.K := by rfl) : IxR X (rD2 c.K ixD) := ixr_cq ix_seq fun x y H Q ⟨F, d, e, z, fh, dx, dy, hz, q⟩ => by
  cases dx with
  | @lst a vs ds h1 h2 =>
    cases dy with
    | int n =>
      obtain ⟨v, g1, g2⟩ := atI_rp h2 hz
      exact .inl ⟨a, vs, n, v, rfl, rfl, by rw [← hK]; exact fh.l h1, g1, q v F H (.inl ⟨rfl, rfl⟩) g2⟩
    | _ => cases hz
  | @tup a vs ds h1 h2 =>
    cases dy with
    | int n =>
      obtain ⟨v, g1, g2⟩ := atI_rp h2 hz
      exact .inr (.inl ⟨a, vs, n, v, rfl, rfl, by rw [← hK]; exact fh.t h1, g1, q v F H (.inl ⟨rfl, rfl⟩) g2⟩)
    | _ => cases hz
  | str w =>
    cases dy with
    | int n =>
      have hz : (if w.length ≤ 16777216 then (atI w.cps.toList n).map fun ch => PyData.str ⟨#[ch]⟩ else none) = some z := hz
      by_cases hl : w.length ≤ 16777216
      · rw [if_pos hl] at hz
        cases ha : atI w.cps.toList n with
        | none =>
          rw [ha] at hz
          cases hz
        | some ch =>
          rw [ha] at hz
          cases hz
          exact .inr (.inr ⟨w, n, ch, rfl, rfl, by rw [sizeLine_eq]; exact hl, ha, q _ F H (.inl ⟨rfl, rfl⟩) (.str _)⟩)
      · rw [if_neg hl] at hz
        cases hz
    | _ => cases hz
  | _ => cases hz
theorem pe_or' {e : Expr} {t t' : TE} (h : PE X e t) (h' : PE X e t') : PE X e (fun st H Q => t st H Q ∨ t' st H Q) := ⟨fun pins s st H Q I q => q.elim (h.run pins s st H Q I) (h'.run pins s st H Q I)⟩
/-- x[k], x a list or a dict of one's own, or data -/
def eIxS (i : Nat) (mk : M D) : M D := fun r => match getC i r with
  | some (.l _) => (mk r).bind fun k r => match getC i r with
    | some (.l ds) => M.opt (ixL ds k) r
    | _ => .no
  | some (.d _) => (mk r).bind fun k r => match getC i r with
    | some (.d kvs) => M.opt ((keyD k).bind (vK kvs)) r
    | _ => .no
  | some (.t _) => .no
  | some (.n _) => .no
  | none => bin ixD (getS i) mk r
theorem e_ixS (i : Nat) {x : Str} {ek : Expr} {mk : M D} {px pos : Pos} (hk : PE X ek (tM c mk)) (hu : X.A.units + 1 < cLine) (hK : c.K = X.K := by rfl) (hs : PlainIx ek := by exact fun _ _ => rfl) (hN : X.N[i]? = some x := by rfl) (hv : Vis X.env.scope x := by first | exact Or.inl rfl | exact Or.inr (Or.inl rfl) | exact Or.inr (Or.inr rfl)) (hd : (x == ("__debug__" : Str)) = false := by decide)
    (hcd : (x == ("__classdict__" : Str)) = false := by decide) : PE X (.Subscript (.Name x px) ek pos) (tM c (eIxS i mk)) :=
  pe_cq (pe_or' (pe_or' (pe_ix ix_list (pe_var (i := i) hN hv hd hcd) hk hs) (pe_dget hu (pe_var (i := i) hN hv hd hcd) hk hs)) (e_ix (c := c) (ix_data hK) (e_var i hN hv hd hcd) hk hs)) fun st H Q ⟨pa, H0, F0, F, r, ok, po⟩ => by
    unfold eIxS at po
    split at po
    · rename_i ds0 hg
      obtain ⟨s0, hs0, hso0⟩ := getC_some hg
      obtain ⟨a, hst, _⟩ := ok.ownd hs0 hso0
      refine .inl (.inl ⟨_, hst, pa, H0, F0, F, r, ok, (Po.bind po).mono (fun _ _ x => x) fun kd r1 q F1 H1 v k1 e1 dp => ?_⟩)
      split at q
      · rename_i ds hg1
        obtain ⟨s1, hs1, hso1⟩ := getC_some hg1
        obtain ⟨a1, hst1, nF1, n01, vs, hH1, hr1⟩ := k1.ownd hs1 hso1
        rw [hst] at hst1
        cases hst1
        obtain ⟨z, hz, q2⟩ := opt_po q
        cases dp with
        | int n =>
          obtain ⟨w, g1, g2⟩ := atI_rp hr1 hz
          exact ⟨a, vs, n, w, rfl, rfl, .inl (.inl hH1), g1, q2 F1 H1 w k1 e1 g2⟩
        | _ => cases hz
      · exact q.elim
    · rename_i kv0 hg
      obtain ⟨s0, hs0, hso0⟩ := getC_some hg
      obtain ⟨a, hst, _⟩ := ok.ownd hs0 hso0
      refine .inl (.inr ⟨_, hst, pa, H0, F0, F, r, ok, (Po.bind po).mono (fun _ _ x => x) fun kd r1 q F1 H1 v k1 e1 dp => ?_⟩)
      split at q
      · rename_i kvs hg1
        obtain ⟨s1, hs1, hso1⟩ := getC_some hg1
        obtain ⟨a1, hst1, nF1, n01, ks, hH1, hr1⟩ := k1.ownd hs1 hso1
        rw [hst] at hst1
        cases hst1
        obtain ⟨z, hz, q⟩ := opt_po q
        cases hy : keyD kd with
        | none =>
          rw [hy] at hz
          cases hz
        | some y =>
          rw [hy] at hz
          obtain ⟨w, g1, g2⟩ := kv_get hr1 hz
          cases rp_key dp hy
          refine ⟨a, w, rfl, ?_, q F1 H1 w k1 e1 g2⟩
          rw [← g1]
          exact DGet.k hH1
      · exact q.elim
    · exact po.elim
    · exact po.elim
    · exact .inr ⟨pa, H0, F0, F, r, ok, po⟩
/-- len(x) -/
def lenD : D → Option D
  | .list ds => some (.int (ds.length : Nat))
  | .tuple ds => some (.int (ds.length : Nat))
  | .str z => if z.length ≤ 16777216 then some (.int (z.length : Nat)) else none
  | _ => none
def one (g : D → Option D) : List D → Option D
  | [d] => g d
  | _ => none
theorem one_some {g : D → Option D} {ds : List D} {z : D} (h : one g ds = some z) : ∃ d, ds = [d] ∧ g d = some z := by
  unfold one at h
  split at h
  · exact ⟨_, rfl, h⟩
  · cases h
theorem len_data (hK : c.K = X.K := by rfl) : CallR X (.builtin "len") (rDA c.K (one lenD)) := callr_cq call_len fun xs H Q ⟨F, ds, z, fh, dps, hz, q⟩ => by
  obtain ⟨d, rfl, hz⟩ := one_some hz
  obtain ⟨v, rfl, dp⟩ := rpa_one dps
  cases dp with
  | @lst a vs ds h1 h2 =>
    cases hz
    refine ⟨_, ds.length, rfl, .inl ⟨vs, by rw [← hK]; exact fh.l h1, (dpa_len h2).symm⟩, q _ F H (.inl ⟨rfl, rfl⟩) (.int _)⟩
  | @tup a vs ds h1 h2 =>
    cases hz
    refine ⟨_, ds.length, rfl, .inr ⟨vs, by rw [← hK]; exact fh.t h1, (dpa_len h2).symm⟩, q _ F H (.inl ⟨rfl, rfl⟩) (.int _)⟩
  | str w =>
    have hz : (if w.length ≤ 16777216 then some (PyData.int (w.length : Nat)) else none) = some z := hz
    by_cases hl : w.length ≤ 16777216
    · rw [if_pos hl] at hz
      cases hz
      exact ⟨_, w.length, rfl, ⟨by rw [sizeLine_eq]; exact hl, rfl⟩, q _ F H (.inl ⟨rfl, rfl⟩) (.int _)⟩
    · rw [if_neg hl] at hz
      cases hz
  | _ => cases hz
def eLenS (i : Nat) : M D := fun r => match getC i r with
  | some (.l ds) => .ok (.int (ds.length : Nat)) r
  | some (.d kvs) => .ok (.int (kvs.length : Nat)) r
  | some (.t _) => .no
  | some (.n _) => .no
  | none => nry (one lenD) (aCons (getS i) aNil) r
/-! {k: v, ..} -/
def prs : List (M D × M D) → M (List (Key × D))
  | [] => M.ret []
  | (mk, mv) :: l => mk.bind fun k => mv.bind fun d => (prs l).bind fun kvs => M.opt ((keyD k).map fun y => (y, d) :: kvs)
def oDict (l : List (M D × M D)) : M RV := (prs l).bind fun kvs => if kvs.length ≤ 15 then M.ret (.o (.d (kvs.foldl (fun acc kv => pK acc kv.1 kv.2) []))) else M.no
theorem prs_ok : ∀ (l : List (M D × M D)) {α : Type} {pa : Nat → Addr} {H0 F0 F H : Hp} {st : L2.St} {r : En} {f : List (Key × D) → M α} {k : α → En → Prop} {Q : List (V × V) → Hp → Prop}, Ok c.K pa H0 F0 F H st r → Po (XW c pa H0 F0 F) ((prs l).bind f r) k →
    (∀ kvs r1 F1 H1 ks, Ok c.K pa H0 F0 F1 H1 st r1 → Ex F F1 → KvAll c.K F1 ks kvs → Po (XW c pa H0 F0 F1) (f kvs r1) k → Q (ks.map fun kv => (kV kv.1, kv.2)) H1) → tPairs (l.map fun p => (tM c p.1, tM c p.2)) st H Q
  | [], _, pa, H0, F0, F, H, st, r, f, k, Q, ok, po, h => h [] r F H [] ok (Ex.refl F) .nil po
  | (mk, mv) :: l, _, pa, H0, F0, F, H, st, r, f, k, Q, ok, po, h => by
    have po1 : Po (XW c pa H0 F0 F) (mk.bind (fun kd => mv.bind fun d => (prs l).bind fun kvs => (M.opt ((keyD kd).map fun y => (y, d) :: kvs)).bind f) r) k := by
      have e : ((prs ((mk, mv) :: l)).bind f r) = (mk.bind (fun kd => mv.bind fun d => (prs l).bind fun kvs => (M.opt ((keyD kd).map fun y => (y, d) :: kvs)).bind f) r) := by
        show ((mk r).bind _).bind f = (mk r).bind _
        cases mk r with
        | no => rfl
        | ex e r1 => rfl
        | ok kd r1 =>
          show ((mv r1).bind _).bind f = (mv r1).bind _
          cases mv r1 with
          | no => rfl
          | ex e r2 => rfl
          | ok d r2 =>
            show ((prs l r2).bind _).bind f = (prs l r2).bind _
            cases prs l r2 <;> rfl
      rw [e] at po
      exact po
    show tM c mk st H _
    refine seqM ok po1 fun kd r1 F1 H1 v k1 e1 dk q => ?_
    show tM c mv st H1 _
    refine seqM k1 q fun d r2 F2 H2 w k2 e2 dv q => ?_
    refine prs_ok l k2 q fun kvs r3 F3 H3 ks k3 e3 hkv q => ?_
    have q : Po (XW c pa H0 F0 F3) ((M.opt ((keyD kd).map fun y => (y, d) :: kvs) r3).bind f) k := q
    cases hy : keyD kd with
    | none =>
      rw [hy] at q
      exact q.elim
    | some y =>
      rw [hy] at q
      have z := h ((y, d) :: kvs) r3 F3 H3 ((y, w) :: ks) k3 ((e1.trans e2).trans e3) (.cons (dp_mono e3 dv) hkv) q
      cases rp_key dk hy
      exact z
theorem o_dict {pos : Pos} {keys : List (Option Expr)} {values : List Expr} {l : List (M D × M D)} (h : PPs X pos keys values (l.map fun p => (tM c p.1, tM c p.2))) (hall : keys.all (·.isSome) = true := by rfl) (hl : keys.length = values.length := by rfl) (h0 : keys ≠ [] := by exact fun z => by cases z) (h15 : keys.length ≤ 15 := by decide) :
    PE X (.Dict keys values pos) (tO c (oDict l)) :=
  pe_cq (pe_disp h hall hl h0 h15) fun st H Q ⟨pa, H0, F0, F, r, ok, po⟩ p np => by
    have n0 := ok.hH.nn np
    have nF := ok.fH.nn np
    have nF0 := ok.fF.nn nF
    have kl := ok.lay (o := .dK []) np
    have kf : Ok c.K pa (upd H0 p (.dK [])) F0 F (upd H p (.dK [])) st r := kl.frame ⟨fun a o z nt => by
        by_cases ha : a = p
        · subst ha
          rw [upd_same] at z ⊢
          exact z
        · rw [upd_ne ha] at z ⊢
          exact ok.hH.at_ a o z nt, fun a ps z => by
        by_cases ha : a = p
        · subst ha
          rw [upd_same] at z
          cases z
        · rw [upd_ne ha] at z ⊢
          exact ok.hH.tb a ps z⟩ (fun a z1 z2 => by
        by_cases ha : a = p
        · subst ha
          exact absurd nF z2
        · rw [upd_ne ha] at z1
          exact ok.sep a z1 z2) (fun j s ct a hj hct hst => by
        obtain ⟨na, ni⟩ := ok.nobody np j s ct a hj hct hst
        rw [upd_ne na]
        obtain ⟨a', g1, g2, g3, g4⟩ := ok.ownd hj hct
        rw [hst] at g1
        cases g1
        exact ⟨g3, fun b hb => by
          have hb' := hb.cg (upd_ne na).symm
          have nb : b ≠ p := fun z => ni (z ▸ hb')
          rw [upd_ne nb]
          exact (ok.inn j s ct a b hj hct hst hb').2.1⟩)
    have un : ∀ {F3 H3 : Hp} {st3 : L2.St} {r3 : En}, Ok c.K pa (upd H0 p (.dK [])) F0 F3 H3 st3 r3 → Ok c.K pa H0 F0 F3 H3 st3 r3 ∧ H3 p = some (.dK []) ∧ F3 p = none ∧ Nob H3 st3 r3 p := fun {F3 H3 st3 r3} k3 => by
      have h0 : Ex H0 (upd H0 p (.dK [])) := Ex.new n0
      refine ⟨k3.frame (h0.trans k3.hH) (fun a z1 z2 => k3.sep a (by
        cases hz : H0 a with
        | none => exact absurd hz z1
        | some o => exact (h0.some hz).elim fun _ q => ne_none q) z2) (fun j s ct a hj hct hst => ?_), k3.hH.at_ p _ upd_same (fun ps z => nomatch z), none_of_not fun z => k3.sep p (ne_none upd_same) z nF0, fun j s ct a hj hct hst => ⟨?_, ?_⟩⟩
      · obtain ⟨a', g1, g2, g3, g4⟩ := k3.ownd hj hct
        rw [hst] at g1
        cases g1
        exact ⟨h0.nn g3, fun b hb => h0.nn (k3.inn j s ct a b hj hct hst hb).2.1⟩
      · obtain ⟨a', g1, g2, g3, g4⟩ := k3.ownd hj hct
        rw [hst] at g1
        cases g1
        intro z
        subst z
        rw [upd_same] at g3
        cases g3
      · intro z
        have g3 := (k3.inn j s ct a p hj hct hst z).2.1
        rw [upd_same] at g3
        cases g3
    refine prs_ok l (k := fun d r' => ∀ F' H' v, Ok c.K pa H0 F0 F' H' st r' → Ex F F' → RvOk c.K H0 F' H' st r' v d → Q v H') kf (po.mono (fun e r' z F' H' st' cls dd k' => ?_) fun _ _ x => x) fun kvs r1 F1 H1 ks k1 e1 hkv q => ?_
    · exact z F' H' st' cls dd (un k').1
    · split at q
      · rename_i hlen
        obtain ⟨k2, hp, nF1, nO⟩ := un k1
        refine ⟨hp, ks, rfl, by rw [kv_len hkv]; exact hlen, ?_⟩
        exact q F1 _ _ (k2.aside n0 nF1 nO (tabs_upd k2.tb hp (fun ps z => nomatch z) (fun c q z => by unfold LamX.CodeO at z; cases z))) e1 ⟨p, rfl, nF1, n0, ⟨_, upd_same, kv_merge hkv .nil⟩, .d nO.upd⟩
      · exact q.elim
end
end Pu
namespace Pu
open PySem PySem.Spec PyProof.Rows L2
variable [TabT]
/-! ### what the operators tell of data -/
def addD : D → D → Option D
  | .int i, .int j => some (.int (i + j))
  | .str a, .str b => szC (a.length + b.length) (.str (a ++ b))
  | .tuple xs, .tuple ys => szC (xs.length + ys.length) (.tuple (xs ++ ys))
  | .list xs, .list ys => szC (xs.length + ys.length) (.list (xs ++ ys))
  | _, _ => none
def subD : D → D → Option D
  | .int i, .int j => some (.int (i - j))
  | _, _ => none
/-- one factor of at most 64 bits, or both together below a hundred million -/
def mulOk (i j : Int) : Prop := i.natAbs < 2 ^ 64 ∨ j.natAbs < 2 ^ 64 ∨ i.natAbs.log2 + j.natAbs.log2 < 100000000
instance (i j : Int) : Decidable (mulOk i j) := by unfold mulOk; exact inferInstance
noncomputable def mulD : D → D → Option D
  | .int i, .int j => cI (mulOk i j) (some (.int (i * j))) none
  | .list xs, .int k => cI ((-(2 ^ 63) ≤ k ∧ k < 2 ^ 63) ∧ xs.length * k.toNat ≤ 16777216) (some (.list (List.replicate k.toNat xs).flatten)) none
  | .tuple xs, .int k => cI (-1000 ≤ k ∧ k ≤ 1000 ∧ xs.length ≤ 1000) (some (.tuple (List.replicate k.toNat xs).flatten)) none
  | _, _ => none
noncomputable def fdivD : D → D → Option D
  | .int i, .int j => cI (j ≠ 0 ∧ j.natAbs.log2 < 9000) (some (.int (i.fdiv j))) none
  | _, _ => none
noncomputable def modD : D → D → Option D
  | .int i, .int j => cI (j ≠ 0) (some (.int (i.fmod j))) none
  | _, _ => none
noncomputable def powD : D → D → Option D
  | .int i, .int j => cI (0 ≤ j ∧ j ≤ 1000000 ∧ i.natAbs < 2 ^ 64) (some (.int (i ^ j.toNat))) none
  | _, _ => none
def negD : D → Option D
  | .int i => some (.int (-i))
  | _ => none
noncomputable def ltD : D → D → Option D
  | .int i, .int j => some (.bool (cd (i < j)))
  | _, _ => none
noncomputable def leD : D → D → Option D
  | .int i, .int j => some (.bool (cd (i ≤ j)))
  | _, _ => none
noncomputable def gtD : D → D → Option D
  | .int i, .int j => some (.bool (cd (j < i)))
  | _, _ => none
noncomputable def geD : D → D → Option D
  | .int i, .int j => some (.bool (cd (j ≤ i)))
  | _, _ => none
/-- rows of other lengths, whatever they hold -/
def eqL : D → D → Option D
  | .list xs, .list ys => if xs.length = ys.length then none else some (.bool false)
  | .tuple xs, .tuple [] => if xs.length = 0 then none else some (.bool false)
  | _, _ => none
def eqD : D → D → Option D
  | .str a, .str b => some (.bool (decide (a = b)))
  | d, e => if SeqAt.shaped d = true ∧ SeqAt.shaped e = true then some (.bool (PyData.eqv d e)) else eqL d e
def neD : D → D → Option D
  | .str a, .str b => some (.bool (!decide (a = b)))
  | d, e => if SeqAt.shaped d = true ∧ SeqAt.shaped e = true then some (.bool (!PyData.eqv d e)) else none
section
variable {X : Cx} {c : Cc}
theorem mulOk.ok {i j : Int} (h : mulOk i j) : IntMulOk i j := by
  have b : ∀ x : Int, Builtin.Int.intBits x ≤ x.natAbs.log2 + 1 := fun x => by
    unfold Builtin.Int.intBits
    split <;> omega
  have s64 : ∀ x : Int, x.natAbs < 2 ^ 64 → Builtin.Int.intBits x ≤ 64 := fun x hx => by
    have h1 := b x
    have h2 : x.natAbs.log2 < 64 := PySem.Flt.log2_lt_of (by decide) hx
    omega
  rcases h with h | h | h
  · exact .of_left (s64 i h)
  · exact .of_right (s64 j h)
  · have h1 := b i
    have h2 := b j
    have e : bitsLine = 134217728 := by decide
    unfold IntMulOk
    intro z
    rw [Bool.and_eq_true] at z
    have z2 := z.2
    unfold Builtin.Int.intTooBig at z2
    have z3 := of_decide_eq_true z2
    rw [e] at z3
    omega
/-- lists that are read, added -/
theorem op_catR : OpR X (binaryOp .Add) (fun x y H Q => ∃ l b xs zs, x = .ref l ∧ y = .ref b ∧ SqL X.K H l xs ∧ SqL X.K H b zs ∧ xs.length + zs.length ≤ sizeLine ∧ ∀ p, H p = none → Q (.ref p) (upd H p (.lst (xs ++ zs)))) := by
  intro pins s st H x y v u Q I rx ry h
  obtain ⟨l, b, xs, zs, rfl, rfl, hl, hb, hz, q⟩ := h
  cases rx
  cases ry
  obtain ⟨us, r1, ⟨⟨c1, d1, t1, p1⟩, n1, e1, hc1, _, hd1⟩, _⟩ := I.list hl
  obtain ⟨ws, r2, ⟨⟨c2, d2, t2, p2⟩, n2, e2, hc2, _, hd2⟩, _⟩ := I.list hb
  simp only at hc1 hd1 hc2 hd2
  subst hc1 hd1 hc2 hd2
  have l1 := r1.length
  have l2 := r2.length
  refine concat_meets ⟨_, e1, rfl⟩ ⟨_, e2, rfl⟩ noFill_list_add seq_list_add PySem.F.slot_list_add PySem.F.entry_list_add (PySem.F.args_list_add_2 _ _) (list_addW l b us.toArray ws.toArray n1 n2 d1 d2 p1 p2 (by rw [List.size_toArray, List.size_toArray]; omega)) ⟨e1, e2, ?_⟩
  have ea : us.toArray ++ ws.toArray = (us ++ ws).toArray := by simp
  rw [ea]
  exact ⟨.ref _, _, I.lnew (t' := s.toks) (r1.append r2) (by rw [List.length_append]; exact hz), rfl, q _ I.fresh⟩
theorem szC_some {α : Type} {n : Nat} {a z : α} (h : szC n a = some z) : n ≤ sizeLine ∧ a = z := by
  unfold szC at h
  split at h
  · cases h
    exact ⟨by rw [sizeLine_eq]; assumption, rfl⟩
  · cases h
theorem add_data (hK : c.K = X.K := by rfl) : OpR X (binaryOp .Add) (rD2 c.K addD) :=
  opr_cq (((op_add.or op_add_str).or op_catA).or op_catR) fun x y H Q ⟨F, d, e, z, fh, dx, dy, hz, q⟩ => by
    cases dx with
    | int i =>
      cases dy with
      | int j =>
        cases hz
        exact .inl (.inl (.inl ⟨i, j, rfl, rfl, q _ F H (.inl ⟨rfl, rfl⟩) (.int _)⟩))
      | _ => cases hz
    | str a =>
      cases dy with
      | str b =>
        obtain ⟨h1, rfl⟩ := szC_some hz
        exact .inl (.inl (.inr ⟨a, b, rfl, rfl, h1, q _ F H (.inl ⟨rfl, rfl⟩) (.str _)⟩))
      | _ => cases hz
    | @tup a vs ds g1 g2 =>
      cases dy with
      | @tup b ws es g3 g4 =>
        obtain ⟨h1, rfl⟩ := szC_some hz
        refine .inl (.inr ⟨a, b, vs, ws, rfl, rfl, by rw [← hK]; exact fh.t g1, by rw [← hK]; exact fh.t g3, by rw [dpa_len g2, dpa_len g4]; exact h1, fun e => ?_, fun n e => ?_, fun n n2 p np => ?_⟩)
        · subst e
          cases g2
          exact q _ F H (.inl ⟨rfl, rfl⟩) (.tup g3 g4)
        · subst e
          cases g4
          rw [List.append_nil] at q
          exact q _ F H (.inl ⟨rfl, rfl⟩) (.tup g1 g2)
        · have nF := fh.nn np
          exact q _ _ _ (.inr ⟨p, _, np, rfl, rfl⟩) (.tup upd_same (dpa_mono (Ex.new nF) (dpa_app g2 g4)))
      | _ => cases hz
    | @lst a vs ds g1 g2 =>
      cases dy with
      | @lst b ws es g3 g4 =>
        obtain ⟨h1, rfl⟩ := szC_some hz
        refine .inr ⟨a, b, vs, ws, rfl, rfl, by rw [← hK]; exact fh.l g1, by rw [← hK]; exact fh.l g3, by rw [dpa_len g2, dpa_len g4]; exact h1, fun p np => ?_⟩
        have nF := fh.nn np
        exact q _ _ _ (.inr ⟨p, _, np, rfl, rfl⟩) (.lst (.inl (.inl upd_same)) (dpa_mono (Ex.new nF) (dpa_app g2 g4)))
      | _ => cases hz
    | _ => cases hz
theorem sub_data : OpR X (binaryOp .Sub) (rD2 c.K subD) := opr_cq op_sub fun x y H Q ⟨F, d, e, z, fh, dx, dy, hz, q⟩ => by
  cases dx with
  | int i =>
    cases dy with
    | int j =>
      cases hz
      exact ⟨i, j, rfl, rfl, q _ F H (.inl ⟨rfl, rfl⟩) (.int _)⟩
    | _ => cases hz
  | _ => cases hz
theorem op_mulA : OpR X (binaryOp .Mult) (rI mulOk fun i j => .int (i * j)) := opI fun _ _ _ _ _ _ _ hc q => mul_int q hc.ok
theorem op_repR : OpR X (binaryOp .Mult) (fun x y H Q => ∃ l k xs, x = .ref l ∧ y = .int k ∧ SqL X.K H l xs ∧ -(2 ^ 63) ≤ k ∧ k < 2 ^ 63 ∧ xs.length * k.toNat ≤ sizeLine ∧ ∀ p, H p = none → Q (.ref p) (upd H p (.lst (List.replicate k.toNat xs).flatten))) := by
  intro pins s st H x y v u Q I rx ry h
  obtain ⟨l, k, xs, rfl, rfl, hl, h1, h2, hz, q⟩ := h
  cases rx
  obtain ⟨t, rfl⟩ := ry
  obtain ⟨us, r1, ⟨⟨c1, d1, t1, p1⟩, n1, e1, hc1, _, hd1⟩, _⟩ := I.list hl
  simp only at hc1 hd1
  subst hc1 hd1
  have l1 := r1.length
  have hlen : us.toArray.size * k.toNat ≤ 2 ^ 24 := by
    have z := hz
    rw [sizeLine_eq, l1] at z
    rw [List.size_toArray]
    omega
  refine wpAny_binaryOp_repeat_ref (T := "list") (U := "int") (by decide) ⟨_, e1, rfl⟩ (fun s' => typeIs_int s' k t) noFill_list_mul F.fills_int_mul F.slot_int_rmul repeat_list F.slot_int_index.lookup
    (call_meets F.slot_int_rmul (typeIs_int s k t) F.entry_int_rmul (F.args_int_rmul_2 _ _) (lm_int_rmul_list_any k t l us.toArray n1 d1 p1)
      ⟨e1, rfl, ⟨_, e1, rfl⟩, call_meets F.slot_list_mul ⟨_, e1, rfl⟩ F.entry_list_mul (F.args_list_mul_2 _ _)
        (lm_list_mul_any l us.toArray n1 d1 p1 k t (by simp [Builtin.List.listFitsIndex]; omega) (by omega) (by simp [Builtin.List.listTooLong, sizeLine]; omega)) ⟨e1, ?_⟩⟩)
  rw [listMul_foldl_if]
  exact ⟨.ref _, _, I.lnew (t' := s.toks) (r1.rep k.toNat) (by rw [PyProof.Rows.lm_len_rep_flat, Nat.mul_comm]; exact hz), rfl, q _ I.fresh⟩
theorem tuple_mul1 (l : Addr) (items : Array Value) (n : Nat) (dd : Option Addr) (sl : Array (Option Value)) (x : Int) (u : Tok) (c0 : (decide (x < -(2 ^ 63)) || decide (x ≥ 2 ^ 63)) = false) (c1 : (items.isEmpty || x == 1) = true) :
    Meets (Builtin.«tuple.__mul__» ⟨[.ref l, .int x u], []⟩) (fun _ R s => s.heap.get? l = some { cls := .type "tuple", dict := dd, data := .seq items n, slots := sl } ∧ R (.ok (.ret (Value.ref l))) s) :=
  .of_wp fun prog w A R s h => by
    obtain ⟨hp, g, d, tk, os⟩ := s
    obtain ⟨hl, h⟩ := h
    have f1 := AutoSeq1.idx_int
    wp_walk using wpAny_loadPart' hl
    repeat (first
      | (refine wpAny_ite_false (decide_eq_false (by rw [c0]; exact Bool.false_ne_true)) ?_; wp_walk using wpAny_loadPart' hl)
      | (refine wpAny_ite_true (decide_eq_true c1) ?_; wp_walk using wpAny_loadPart' hl))
    exact ⟨_, rfl, h⟩
theorem tuple_mul0 (l : Addr) (items : Array Value) (n : Nat) (dd : Option Addr) (sl : Array (Option Value)) (x : Int) (u : Tok) (c0 : (decide (x < -(2 ^ 63)) || decide (x ≥ 2 ^ 63)) = false) (c1 : (items.isEmpty || x == 1) = false) (c2 : (decide (x ≤ 0) || items.isEmpty) = true) :
    Meets (Builtin.«tuple.__mul__» ⟨[.ref l, .int x u], []⟩) (fun _ R s => s.heap.get? l = some { cls := .type "tuple", dict := dd, data := .seq items n, slots := sl } ∧ R (.ok (.ret (Value.ref s.heap.objs.size))) { s with heap := s.heap.push { cls := Value.type "tuple", data := Data.seq #[] }, toks := s.toks }) :=
  .of_wp fun prog w A R s h => by
    obtain ⟨hp, g, d, tk, os⟩ := s
    obtain ⟨hl, h⟩ := h
    have f1 := AutoSeq1.idx_int
    wp_walk using wpAny_loadPart' hl
    repeat (first
      | (refine wpAny_ite_false (decide_eq_false (by rw [c0]; exact Bool.false_ne_true)) ?_; wp_walk using wpAny_loadPart' hl)
      | (refine wpAny_ite_false (decide_eq_false (by rw [c1]; exact Bool.false_ne_true)) ?_; wp_walk using wpAny_loadPart' hl)
      | (refine wpAny_ite_true (decide_eq_true c2) ?_; wp_walk using wpAny_loadPart' hl))
    exact ⟨_, rfl, h⟩
theorem op_repT01 : OpR X (binaryOp .Mult) (fun x y H Q => ∃ l k xs, x = .ref l ∧ y = .int k ∧ SqT X.K H l xs ∧ -(2 ^ 63) ≤ k ∧ k < 2 ^ 63 ∧ (((xs = [] ∨ k = 1) ∧ Q (.ref l) H) ∨ ((xs ≠ [] ∧ k ≤ 0) ∧ ∀ p, H p = none → Q (.ref p) (upd H p (.tup []))))) := by
  intro pins s σ H x y v u Q I rx ry h
  obtain ⟨l, k, xs, rfl, rfl, hT, h1, h2, q⟩ := h
  cases rx
  obtain ⟨t, rfl⟩ := ry
  obtain ⟨its, r, ⟨⟨cls, dd, data, sl⟩, ho, hc, n, hd⟩, hs⟩ := I.tuple hT
  simp only at hc hd
  subst hc hd
  have hle : its.length = xs.length := r.length.symm
  have c0 : (decide (k < -(2 ^ 63)) || decide (k ≥ 2 ^ 63)) = false := by
    rw [decide_eq_false (by omega), decide_eq_false (by omega)] <;> rfl
  have hem : its.toArray.isEmpty = true ↔ xs = [] := by
    rw [List.isEmpty_toArray, List.isEmpty_iff_length_eq_zero, hle, List.length_eq_zero_iff]
  refine wpAny_binaryOp_repeat_ref (T := "tuple") (U := "int") (by decide) ⟨_, ho, rfl⟩ (fun s' => typeIs_int s' k t) noFill_tuple_mul F.fills_int_mul F.slot_int_rmul repeat_tuple F.slot_int_index.lookup
    (call_meets F.slot_int_rmul (typeIs_int s k t) F.entry_int_rmul (F.args_int_rmul_2 _ _) (int_rmul_tuple k t l its.toArray n dd sl) ⟨ho, rfl, ⟨_, ho, rfl⟩, ?_⟩)
  rcases q with ⟨hq, q⟩ | ⟨⟨hn, hk⟩, q⟩
  · have c1 : (its.toArray.isEmpty || k == 1) = true := by
      rw [Bool.or_eq_true, beq_iff_eq, hem]
      exact hq
    exact call_meets F.slot_tuple_mul ⟨_, ho, rfl⟩ F.entry_tuple_mul (F.args_tuple_mul_2 _ _) (tuple_mul1 l its.toArray n dd sl k t c0 c1) ⟨ho, .ref l, H, I, rfl, q⟩
  · have c1 : (its.toArray.isEmpty || k == 1) = false := by
      rw [Bool.or_eq_false_iff]
      refine ⟨?_, beq_eq_false_iff_ne.mpr (by omega)⟩
      cases e : its.toArray.isEmpty with
      | false => rfl
      | true => exact absurd (hem.mp e) hn
    have c2 : (decide (k ≤ 0) || its.toArray.isEmpty) = true := by
      rw [decide_eq_true hk]
      rfl
    refine call_meets F.slot_tuple_mul ⟨_, ho, rfl⟩ F.entry_tuple_mul (F.args_tuple_mul_2 _ _) (tuple_mul0 l its.toArray n dd sl k t c0 c1 c2) ⟨ho, ?_⟩
    refine ⟨.ref s.heap.objs.size, _, I.laid (t' := s.toks) (o := .tup []) (fun b ob q => Heap.get?_push_of_some _ q) (Nat.le_refl _) ?_, rfl, q _ (I.hok.fresh (Nat.le_refl _))⟩
    exact ⟨by simp, _, .nil, IsTup.new _ _⟩
theorem mul_data (hK : c.K = X.K := by rfl) : OpR X (binaryOp .Mult) (rD2 c.K mulD) := opr_cq (((op_mulA.or op_repR).or op_repT).or op_repT01) fun x y H Q ⟨F, d, e, z, fh, dx, dy, hz, q⟩ => by
  cases dx with
  | int i =>
    cases dy with
    | int j =>
      have hz : (if mulOk i j then some (PyData.int (i * j)) else none) = some z := by
        rw [← cI_eq]
        exact hz
      by_cases hm : mulOk i j
      · rw [if_pos hm] at hz
        cases hz
        exact .inl (.inl (.inl ⟨i, j, rfl, rfl, hm, q _ F H (.inl ⟨rfl, rfl⟩) (.int _)⟩))
      · rw [if_neg hm] at hz
        cases hz
    | _ => cases hz
  | @lst a vs ds g1 g2 =>
    cases dy with
    | int k =>
      have hz : (if (-(2 ^ 63) ≤ k ∧ k < 2 ^ 63) ∧ ds.length * k.toNat ≤ 16777216 then some (PyData.list (List.replicate k.toNat ds).flatten) else none) = some z := by
        rw [← cI_eq]
        exact hz
      split at hz
      · rename_i hm
        cases hz
        refine .inl (.inl (.inr ⟨a, k, vs, rfl, rfl, by rw [← hK]; exact fh.l g1, hm.1.1, hm.1.2, by rw [dpa_len g2, sizeLine_eq]; exact hm.2, fun p np => ?_⟩))
        have nF := fh.nn np
        exact q _ _ _ (.inr ⟨p, _, np, rfl, rfl⟩) (.lst (.inl (.inl upd_same)) (dpa_mono (Ex.new nF) (dpa_rep g2 _)))
      · cases hz
    | _ => cases hz
  | @tup a vs ds g1 g2 =>
    cases dy with
    | int k =>
      have hz : (if -1000 ≤ k ∧ k ≤ 1000 ∧ ds.length ≤ 1000 then some (PyData.tuple (List.replicate k.toNat ds).flatten) else none) = some z := by
        rw [← cI_eq]
        exact hz
      split at hz
      · rename_i hm
        cases hz
        by_cases hs : vs = [] ∨ k = 1
        · refine .inr ⟨a, k, vs, rfl, rfl, by rw [← hK]; exact fh.t g1, by omega, by omega, .inl ⟨hs, ?_⟩⟩
          have e : (List.replicate k.toNat ds).flatten = ds := by
            rcases hs with hs | hs
            · subst hs
              cases g2
              simp
            · subst hs
              simp
          rw [e] at q
          exact q _ F H (.inl ⟨rfl, rfl⟩) (.tup g1 g2)
        · by_cases hk : 2 ≤ k
          · refine .inl (.inr ⟨a, k, vs, rfl, rfl, by rw [← hK]; exact fh.t g1, fun e => hs (.inl e), hk, hm.2.1, by rw [dpa_len g2]; exact hm.2.2, fun p np => ?_⟩)
            have nF := fh.nn np
            exact q _ _ _ (.inr ⟨p, _, np, rfl, rfl⟩) (.tup upd_same (dpa_mono (Ex.new nF) (dpa_rep g2 _)))
          · have hk0 : k ≤ 0 := by
              have : k ≠ 1 := fun e => hs (.inr e)
              omega
            refine .inr ⟨a, k, vs, rfl, rfl, by rw [← hK]; exact fh.t g1, by omega, by omega, .inr ⟨⟨fun e => hs (.inl e), hk0⟩, fun p np => ?_⟩⟩
            have e : (List.replicate k.toNat ds).flatten = [] := by
              rw [Int.toNat_of_nonpos hk0]
              rfl
            rw [e] at q
            exact q _ _ _ (.inr ⟨p, _, np, rfl, rfl⟩) (.tup upd_same .nil)
      · cases hz
    | _ => cases hz
  | _ => cases hz
theorem op_fdivA : OpR X (binaryOp .FloorDiv) (rI (fun _ j => j ≠ 0 ∧ j.natAbs.log2 < 9000) fun i j => .int (i.fdiv j)) := opI fun _ _ _ _ _ _ _ hc q => floordiv_int hc.1 q (.inl (PyProof.noPylong_of_log2 hc.2))
theorem fdiv_data : OpR X (binaryOp .FloorDiv) (rD2 c.K fdivD) := opr_cq op_fdivA fun x y H Q ⟨F, d, e, z, fh, dx, dy, hz, q⟩ => by
  cases dx with
  | int i =>
    cases dy with
    | int j =>
      have hz : (if j ≠ 0 ∧ j.natAbs.log2 < 9000 then some (PyData.int (i.fdiv j)) else none) = some z := by
        rw [← cI_eq]
        exact hz
      split at hz
      · rename_i hm
        cases hz
        exact ⟨i, j, rfl, rfl, hm, q _ F H (.inl ⟨rfl, rfl⟩) (.int _)⟩
      · cases hz
    | _ => cases hz
  | _ => cases hz
theorem mod_data : OpR X (binaryOp .Mod) (rD2 c.K modD) := opr_cq op_modN fun x y H Q ⟨F, d, e, z, fh, dx, dy, hz, q⟩ => by
  cases dx with
  | int i =>
    cases dy with
    | int j =>
      have hz : (if j ≠ 0 then some (PyData.int (i.fmod j)) else none) = some z := by
        rw [← cI_eq]
        exact hz
      split at hz
      · rename_i hm
        cases hz
        exact ⟨i, j, rfl, rfl, hm, q _ F H (.inl ⟨rfl, rfl⟩) (.int _)⟩
      · cases hz
    | _ => cases hz
  | _ => cases hz
theorem pow_data : OpR X (binaryOp .Pow) (rD2 c.K powD) := opr_cq op_pow fun x y H Q ⟨F, d, e, z, fh, dx, dy, hz, q⟩ => by
  cases dx with
  | int i =>
    cases dy with
    | int j =>
      have hz : (if 0 ≤ j ∧ j ≤ 1000000 ∧ i.natAbs < 2 ^ 64 then some (PyData.int (i ^ j.toNat)) else none) = some z := by
        rw [← cI_eq]
        exact hz
      split at hz
      · rename_i hm
        cases hz
        exact ⟨i, j, rfl, rfl, hm, q _ F H (.inl ⟨rfl, rfl⟩) (.int _)⟩
      · cases hz
    | _ => cases hz
  | _ => cases hz
theorem cmpI_data {op : CmpOp} {p : Int → Int → Bool} {g : D → D → Option D} (ho : OpR X (compareOp op) (rI0 fun i j => .bl (p i j))) (hg : ∀ d e z, g d e = some z → ∃ i j, d = .int i ∧ e = .int j ∧ z = .bool (p i j)) : OpR X (compareOp op) (rD2 c.K g) :=
  opr_cq ho fun x y H Q ⟨F, d, e, z, fh, dx, dy, hz, q⟩ => by
    obtain ⟨i, j, rfl, rfl, rfl⟩ := hg _ _ _ hz
    cases rp_int dx
    cases rp_int dy
    exact ⟨i, j, rfl, rfl, q _ F H (.inl ⟨rfl, rfl⟩) (.bl _)⟩
theorem lt_data : OpR X (compareOp .Lt) (rD2 c.K ltD) := cmpI_data op_lt fun d e z h => by
  unfold ltD at h
  split at h <;> cases h
  exact ⟨_, _, rfl, rfl, by rw [cd_eq]⟩
theorem le_data : OpR X (compareOp .LtE) (rD2 c.K leD) := cmpI_data op_le fun d e z h => by
  unfold leD at h
  split at h <;> cases h
  exact ⟨_, _, rfl, rfl, by rw [cd_eq]⟩
theorem gt_data : OpR X (compareOp .Gt) (rD2 c.K gtD) := cmpI_data op_gt fun d e z h => by
  unfold gtD at h
  split at h <;> cases h
  exact ⟨_, _, rfl, rfl, by rw [cd_eq]⟩
theorem ge_data : OpR X (compareOp .GtE) (rD2 c.K geD) := cmpI_data op_ge fun d e z h => by
  unfold geD at h
  split at h <;> cases h
  exact ⟨_, _, rfl, rfl, by rw [cd_eq]⟩
theorem dec_str (a b : Str) : decide (V.str a = V.str b) = decide (a = b) := by
  refine decide_eq_decide.mpr ⟨fun h => ?_, fun h => by rw [h]⟩
  cases h
  rfl
theorem op_eqLL (hu : X.A.units + 64 < cLine) : OpR X (compareOp .Eq) (fun x y H Q => ∃ a b xs ys, x = .ref a ∧ y = .ref b ∧ ((SqL X.K H a xs ∧ SqL X.K H b ys ∧ xs.length ≠ ys.length) ∨ (SqT X.K H a xs ∧ SqT X.K H b ys ∧ ys = [] ∧ xs.length ≠ 0)) ∧ Q (.bl false) H) := by
  intro pins s σ H x y v u Q I rx ry h
  obtain ⟨a, b, xs, ys, rfl, rfl, h, q⟩ := h
  cases rx
  cases ry
  rcases h with ⟨h1, h2, hne⟩ | ⟨h1, h2, he, hne⟩
  · obtain ⟨its, r, pl, hz⟩ := I.list h1
    obtain ⟨its2, r2, pl2, hz2⟩ := I.list h2
    have l1 := r.length
    have l2 := r2.length
    exact SeqAt.eq_list_lengthsAt pl.isList pl2.isList (by simp; omega) (by omega) ⟨.bl _, H, I, rfl, q⟩
  · obtain ⟨its, r, pl, hz⟩ := I.tuple h1
    obtain ⟨its2, r2, pl2, hz2⟩ := I.tuple h2
    have l1 := r.length
    have l2 := r2.length
    subst he
    have l3 : its2.toArray.size = 0 := by simp; simpa using l2.symm
    refine SeqAt.eq_tupleAt (e := fun _ => true) pl pl2 (by omega) (fun j j1 j2 => by omega) ?_
    have e : ((List.range (min its.toArray.size its2.toArray.size)).all (fun _ => true) && its.toArray.size == its2.toArray.size) = false := by
      rw [l3]
      simp
      intro z
      rw [z] at l1
      exact hne (by simpa using l1)
    rw [e]
    exact ⟨.bl _, H, I, rfl, q⟩
theorem eq_data (hu : X.A.units + 64 < cLine) (hK : c.K = X.K := by rfl) : OpR X (compareOp .Eq) (rD2 c.K eqD) := opr_cq (((op_eqD hu).or op_eq).or (op_eqLL hu)) fun x y H Q ⟨F, d, e, z, fh, dx, dy, hz, q⟩ => by
  unfold eqD at hz
  split at hz
  · cases dx
    cases dy
    cases hz
    refine .inl (.inr ⟨rfl, ?_⟩)
    rw [dec_str]
    exact q _ F H (.inl ⟨rfl, rfl⟩) (.bl _)
  · split at hz
    · rename_i hm
      cases hz
      refine .inl (.inl ⟨d, e, by rw [← hK]; exact rp_dp (dp_mono fh dx) hm.1, by rw [← hK]; exact rp_dp (dp_mono fh dy) hm.2, hm.1, hm.2, q _ F H (.inl ⟨rfl, rfl⟩) (.bl _)⟩)
    · refine .inr ?_
      cases dx with
      | @lst a1 vs1 ds1 g1 g2 =>
        cases dy with
        | @lst a2 vs2 ds2 g3 g4 =>
          have hz : (if ds1.length = ds2.length then none else some (PyData.bool false)) = some z := hz
          split at hz
          · cases hz
          · rename_i hn
            cases hz
            exact ⟨_, _, _, _, rfl, rfl, .inl ⟨by rw [← hK]; exact fh.l g1, by rw [← hK]; exact fh.l g3, by rw [dpa_len g2, dpa_len g4]; exact hn⟩, q _ F H (.inl ⟨rfl, rfl⟩) (.bl _)⟩
        | _ => cases hz
      | @tup a1 vs1 ds1 g1 g2 =>
        cases dy with
        | @tup a2 vs2 ds2 g3 g4 =>
          cases g4 with
          | nil =>
            have hz : (if ds1.length = 0 then none else some (PyData.bool false)) = some z := hz
            split at hz
            · cases hz
            · rename_i hn
              cases hz
              exact ⟨_, _, _, _, rfl, rfl, .inr ⟨by rw [← hK]; exact fh.t g1.s, by rw [← hK]; exact fh.t g3, rfl, by rw [dpa_len g2]; exact hn⟩, q _ F H (.inl ⟨rfl, rfl⟩) (.bl _)⟩
          | cons _ _ => cases hz
        | _ => cases hz
      | _ => cases hz
theorem ne_data (hu : X.A.units + 64 < cLine) (hK : c.K = X.K := by rfl) : OpR X (compareOp .NotEq) (rD2 c.K neD) := opr_cq ((op_neD hu).or op_ne) fun x y H Q ⟨F, d, e, z, fh, dx, dy, hz, q⟩ => by
  unfold neD at hz
  split at hz
  · cases dx
    cases dy
    cases hz
    refine .inr ⟨rfl, ?_⟩
    rw [dec_str]
    exact q _ F H (.inl ⟨rfl, rfl⟩) (.bl _)
  · split at hz
    · rename_i hm
      cases hz
      exact .inl ⟨d, e, by rw [← hK]; exact rp_dp (dp_mono fh dx) hm.1, by rw [← hK]; exact rp_dp (dp_mono fh dy) hm.2, hm.1, hm.2, q _ F H (.inl ⟨rfl, rfl⟩) (.bl _)⟩
    · cases hz
/-! chains: a op b op c -/
def eChain (g g' : D → D → Option D) (ma mb mc : M D) : M D := ma.bind fun x => mb.bind fun y => (M.opt (g x y)).bind fun b => match b with
  | .bool true => mc.bind fun z => M.opt (g' y z)
  | .bool false => M.ret (.bool false)
  | _ => M.no
end
/-! ### built-ins -/
def absD : D → Option D
  | .int i => some (.int (if i < 0 then -i else i))
  | _ => none
def intD : D → Option D
  | .int i => some (.int i)
  | .bool k => some (.int (if k then 1 else 0))
  | _ => none
def tupD : D → Option D
  | .list ds => some (.tuple ds)
  | .tuple ds => some (.tuple ds)
  | _ => none
def two (g : D → D → Option D) : List D → Option D
  | [d, e] => g d e
  | _ => none
def intsOf : List D → Option (List Int)
  | [] => some []
  | .int i :: ds => (intsOf ds).map (i :: ·)
  | _ => none
def boolsOf : List D → Option (List Bool)
  | [] => some []
  | .bool i :: ds => (boolsOf ds).map (i :: ·)
  | _ => none
def sumD : D → Option D
  | .list ds => (intsOf ds).map fun ns => .int ns.sum
  | _ => none
def allD : D → Option D
  | .list ds => (boolsOf ds).map fun bs => .bool (bs.all id)
  | _ => none
def anyD : D → Option D
  | .list ds => (boolsOf ds).map fun bs => .bool (bs.any id)
  | _ => none
def listD : List D → Option (List D)
  | [.list ds] => some ds
  | [.tuple ds] => some ds
  | _ => none
theorem intsOf_some : ∀ {ds : List D} {ns : List Int}, intsOf ds = some ns → ds = ns.map .int
  | [], ns, h => by
    cases h
    rfl
  | .int i :: ds, ns, h => by
    have h : (intsOf ds).map (i :: ·) = some ns := h
    cases e : intsOf ds with
    | none =>
      rw [e] at h
      cases h
    | some ms =>
      rw [e] at h
      cases h
      rw [intsOf_some e]
      rfl
  | .none :: _, _, h => by cases h
  | .bool _ :: _, _, h => by cases h
  | .str _ :: _, _, h => by cases h
  | .list _ :: _, _, h => by cases h
  | .tuple _ :: _, _, h => by cases h
  | .dict _ :: _, _, h => by cases h
theorem boolsOf_some : ∀ {ds : List D} {ns : List Bool}, boolsOf ds = some ns → ds = ns.map .bool
  | [], ns, h => by
    cases h
    rfl
  | .bool i :: ds, ns, h => by
    have h : (boolsOf ds).map (i :: ·) = some ns := h
    cases e : boolsOf ds with
    | none =>
      rw [e] at h
      cases h
    | some ms =>
      rw [e] at h
      cases h
      rw [boolsOf_some e]
      rfl
  | .none :: _, _, h => by cases h
  | .int _ :: _, _, h => by cases h
  | .str _ :: _, _, h => by cases h
  | .list _ :: _, _, h => by cases h
  | .tuple _ :: _, _, h => by cases h
  | .dict _ :: _, _, h => by cases h
theorem rpa_ints {K : PySem.W.Frag} {F : Hp} : ∀ {ns : List Int} {vs : List V}, RpAll K F vs (ns.map .int) → vs = ns.map .int
  | [], _, .nil => rfl
  | _ :: _, _, .cons h t => by
    rw [rp_int h, rpa_ints t]
    rfl
theorem rp_bl {K : PySem.W.Frag} {F : Hp} {v : V} {b : Bool} (h : Rp K F v (.bool b)) : v = .bl b := by
  cases h
  rfl
theorem rpa_bools {K : PySem.W.Frag} {F : Hp} : ∀ {ns : List Bool} {vs : List V}, RpAll K F vs (ns.map .bool) → vs = ns.map .bl
  | [], _, .nil => rfl
  | _ :: _, _, .cons h t => by
    rw [rp_bl h, rpa_bools t]
    rfl
section
variable {X : Cx} {c : Cc}
theorem abs_data : CallR X (.builtin "abs") (rDA c.K (one absD)) := callr_cq call_abs fun xs H Q ⟨F, ds, z, fh, dps, hz, q⟩ => by
  obtain ⟨d, rfl, hz⟩ := one_some hz
  obtain ⟨v, rfl, dp⟩ := rpa_one dps
  cases dp with
  | int i =>
    cases hz
    exact ⟨i, rfl, q _ F H (.inl ⟨rfl, rfl⟩) (.int _)⟩
  | _ => cases hz
theorem int_data : CallR X (.type "int") (rDA c.K (one intD)) := callr_cq call_int1 fun xs H Q ⟨F, ds, z, fh, dps, hz, q⟩ => by
  obtain ⟨d, rfl, hz⟩ := one_some hz
  obtain ⟨v, rfl, dp⟩ := rpa_one dps
  cases dp with
  | int i =>
    cases hz
    exact .inl ⟨i, rfl, q _ F H (.inl ⟨rfl, rfl⟩) (.int _)⟩
  | bl k =>
    cases hz
    exact .inr ⟨k, rfl, q _ F H (.inl ⟨rfl, rfl⟩) (.int _)⟩
  | _ => cases hz
theorem tup_data (hK : c.K = X.K := by rfl) : CallR X (.type "tuple") (rDA c.K (one tupD)) := callr_cq call_tuple_of fun xs H Q ⟨F, ds, z, fh, dps, hz, q⟩ => by
  obtain ⟨d, rfl, hz⟩ := one_some hz
  obtain ⟨v, rfl, dp⟩ := rpa_one dps
  cases dp with
  | @lst a vs ds g1 g2 =>
    cases hz
    refine ⟨a, vs, rfl, .inl ⟨by rw [← hK]; exact fh.l g1, fun p np => ?_⟩⟩
    have nF := fh.nn np
    exact q _ _ _ (.inr ⟨p, _, np, rfl, rfl⟩) (.tup upd_same (dpa_mono (Ex.new nF) g2))
  | @tup a vs ds g1 g2 =>
    cases hz
    exact ⟨a, vs, rfl, .inr ⟨by rw [← hK]; exact fh.t g1, q _ F H (.inl ⟨rfl, rfl⟩) (.tup g1 g2)⟩⟩
  | _ => cases hz
theorem sum_data (hK : c.K = X.K := by rfl) (hc : X.calm = true := by rfl) : CallR X (.builtin "sum") (rDA c.K (one sumD)) := callr_cq (cr_sum hc) fun xs H Q ⟨F, ds, z, fh, dps, hz, q⟩ => by
  obtain ⟨d, rfl, hz⟩ := one_some hz
  obtain ⟨v, rfl, dp⟩ := rpa_one dps
  cases dp with
  | @lst a vs ds g1 g2 =>
    have hz : (intsOf ds).map (fun ns => PyData.int ns.sum) = some z := hz
    cases e : intsOf ds with
    | none =>
      rw [e] at hz
      cases hz
    | some ns =>
      rw [e] at hz
      cases hz
      rw [intsOf_some e] at g2
      rw [rpa_ints g2] at g1
      exact ⟨a, ns, rfl, by rw [← hK]; exact fh.l g1, q _ F H (.inl ⟨rfl, rfl⟩) (.int _)⟩
  | _ => cases hz
theorem all_data (hK : c.K = X.K := by rfl) (hc : X.calm = true := by rfl) : CallR X (.builtin "all") (rDA c.K (one allD)) := callr_cq (cr_all hc) fun xs H Q ⟨F, ds, z, fh, dps, hz, q⟩ => by
  obtain ⟨d, rfl, hz⟩ := one_some hz
  obtain ⟨v, rfl, dp⟩ := rpa_one dps
  cases dp with
  | @lst a vs ds g1 g2 =>
    have hz : (boolsOf ds).map (fun ns => PyData.bool (ns.all id)) = some z := hz
    cases e : boolsOf ds with
    | none =>
      rw [e] at hz
      cases hz
    | some ns =>
      rw [e] at hz
      cases hz
      rw [boolsOf_some e] at g2
      rw [rpa_bools g2] at g1
      exact ⟨a, ns, rfl, by rw [← hK]; exact fh.l g1, q _ F H (.inl ⟨rfl, rfl⟩) (.bl _)⟩
  | _ => cases hz
/-! isinstance against a built-in class -/
def tyName : D → Option String
  | .none => some "NoneType"
  | .bool _ => some "bool"
  | .int _ => some "int"
  | .str _ => some "str"
  | .list _ => some "list"
  | .tuple _ => some "tuple"
  | .dict ((.str _, _) :: _) => none
  | .dict _ => some "dict"
def isiD (T : String) (d : D) : Option D := match d with
  | .dict ((.str _, _) :: _) => if T ∈ basicT then some (.bool false) else none
  | d => (tyName d).bind fun n => (kitB n T).map .bool
/-! an exception that was caught -/
theorem callr_or {f : Value} {r r' : List V → Hp → VK → Prop} (h : CallR X f r) (h' : CallR X f r') : CallR X f (fun xs H Q => r xs H Q ∨ r' xs H Q) := fun pins s st H xs us Q I rv q => q.elim (h pins s st H xs us Q I rv) (h' pins s st H xs us Q I rv)
theorem excC_kit {K : PySem.W.Frag} {C a : Addr} {ox : Obj} {od : Option Obj} (c : ExcC K C) : PySem.W.KitX K (.ref a) (.ref C) (fun h => PySem.W.InstAt h a ox C od) := by
  obtain ⟨cd, hc, _⟩ := PySem.W.any_some c.hd
  exact PySem.W.kitx_exc (by rw [hc]; rfl) c.hg c.hk c.hs c.ha c.hn c.ht c.hm
def ExAt (H : Hp) (a C : Addr) : Prop := ∃ d, H a = some (CauO (.ref C) d a) ∧ ∀ dd, d = some dd → ∃ fs, H dd = some (.xd fs)
theorem exAt_inst {X : Cx} {pins : List (Addr × Obj)} {st : L2.St} {H : Hp} {s : Shared} {a C : Addr} (I : Inv X pins st H s) (h : ExAt H a C) : ∃ ox od, PySem.W.InstAt s.heap a ox C od := by
  obtain ⟨d, h1, h2⟩ := h
  obtain ⟨⟨oe, vs, hg, ⟨hz1, hz2⟩, hd⟩, _, _⟩ := I.hok a _ h1
  have hno : PySem.W.notCls oe = true := by
    unfold PySem.W.notCls
    rw [hd]
  cases d with
  | none => exact ⟨oe, none, hg, hz1, hno, by rw [hz2]; trivial⟩
  | some dd =>
    obtain ⟨fs, h3⟩ := h2 dd rfl
    obtain ⟨o, ho⟩ := objOk_get (I.hok dd _ h3)
    exact ⟨oe, some o, hg, hz1, hno, by rw [hz2]; exact ho⟩
def rIsX (K : PySem.W.Frag) : List V → Hp → VK → Prop := fun xs H Q => ∃ (a C : Addr) (c : V) (cv : Value) (b : Bool), xs = [.ref a, c] ∧ ExAt H a C ∧ ExcC K C ∧ (∀ u, RelV c u → u = cv) ∧ PySem.W.kitOne K (.ref C) cv = some b ∧ Q (.bl b) H
theorem call_isX : CallR X (.builtin "isinstance") (rIsX X.K) := by
  intro pins s st H xs us Q I r h
  obtain ⟨a, C, c, cv, b, rfl, ha, hC, hcv, e, q⟩ := h
  cases r with
  | cons rx rr =>
    cases rr with
    | cons rt rr =>
      cases rr
      cases rx
      have ec := hcv _ rt
      subst ec
      obtain ⟨ox, od, J⟩ := exAt_inst I ha
      exact PySem.W.kia_one (excC_kit hC) I.kIn J e (fun z => nomatch z) fun tk => ⟨.bl b, H, I.kept (t' := tk) fun _ _ z => z, rfl, q⟩
theorem dci_str {kv : List (Int × D)} {nm : Str} {e : D} {r : List (D × D)} (h : ((PyData.str nm, e) :: r) = kv.map fun q => (PyData.int q.1, q.2)) : False := by
  cases kv with
  | nil => cases h
  | cons q kv => cases h
theorem rp_exAt {K : PySem.W.Frag} {F H : Hp} {v : V} {nm : Str} {kv : List (D × D)} (h : Rp K F v (.dict ((.str nm, .none) :: kv))) (fh : Ex F H) : ∃ a, v = .ref a ∧ ExAt H a (He.ga K nm) ∧ ExcK K nm := by
  cases h with
  | exc0 h1 h2 => exact ⟨_, rfl, ⟨_, fh.at_ _ _ h1 cau_ne, fun _ z => nomatch z⟩, h2⟩
  | excF h1 h2 h3 h4 h5 => exact ⟨_, rfl, ⟨_, fh.at_ _ _ h1 cau_ne, fun dd z => by cases z; exact ⟨_, fh.at_ _ _ h2 (fun ps z => nomatch z)⟩⟩, h3⟩
  | dci _ _ _ _ w => exact (dci_str w).elim
theorem rp_dict1 {K : PySem.W.Frag} {F : Hp} {v : V} {nm : Str} {e : D} {kv : List (D × D)} (h : Rp K F v (.dict ((.str nm, e) :: kv))) : e = .none := by
  cases h with
  | exc0 h1 h2 => rfl
  | excF h1 h2 h3 h4 h5 => rfl
  | dci _ _ _ _ w => exact (dci_str w).elim
theorem ty_data {K : PySem.W.Frag} {F H : Hp} {v : V} {d : D} {n : String} (h : Rp K F v d) (fh : Ex F H) (e : tyName d = some n) : TyX K H v (.type n) := by
  cases h with
  | non => cases e; exact .base .non
  | bl b => cases e; exact .base (.bl b)
  | int i => cases e; exact .base (.int i)
  | str x => cases e; exact .base (.str x)
  | @lst a vs ds g1 g2 =>
    cases e
    rcases fh.l g1 with (g | ⟨o, g⟩) | ⟨o, its, n, g, hc, _⟩
    · exact .base (.lst g)
    · exact .base (.frz g)
    · exact .kList g hc
  | @tup a vs ds g1 g2 =>
    cases e
    rcases fh.t g1.s with (g | ⟨o, g⟩) | ⟨o, its, n, g, hc, _⟩
    · exact .base (.tup g)
    · exact .fTuple g
    · exact .kTuple g hc
  | emp g =>
    cases e
    exact .base (.dK (fh.at_ _ _ g (fun ps z => nomatch z)))
  | exc0 _ _ => cases e
  | excF _ _ _ _ _ => cases e
  | @dci a od ks kv dd h1 _ _ h4 h5 =>
    subst h5
    cases kv with
    | nil => exact absurd rfl h4
    | cons q kv =>
      cases e
      exact .fDict (fh.at_ _ _ h1 (fun ps z => nomatch z))
theorem isiD_dict {T : String} {d z : D} (h : isiD T d = some z) : (∃ nm x kv, d = .dict ((.str nm, x) :: kv) ∧ T ∈ basicT ∧ z = .bool false) ∨ ((tyName d).bind fun n => (kitB n T).map PyData.bool) = some z := by
  unfold isiD at h
  split at h
  · rename_i nm x kv
    split at h
    · cases h
      exact .inl ⟨nm, x, kv, rfl, by assumption, rfl⟩
    · cases h
  · exact .inr h
theorem e_isi {T : String} {y : Str} {e : Expr} {m : M D} {p py pos : Pos} (h : PE X e (tM c m)) (hm : X.mg "isinstance" = none) (hmT : X.mg y = none) (hvT : bootBuiltins y = some (.type T) := by decide +kernel) (hK : c.K = X.K := by rfl) (hg : Gl X "isinstance" := by rfl) (hgT : Gl X y := by rfl) (hnT : y ≠ "__name__" := by decide) (hdT : (y == ("__debug__" : Str)) = false := by decide)
    (hs1 : starEach [e, .Name y py] X.env = (false, eval e X.env) :: starEach [.Name y py] X.env := by rfl) (hs2 : starEach [.Name y py] X.env = (false, eval (.Name y py) X.env) :: starEach [] X.env := by rfl) (hpl : (backTo pos (starEach [.Name y py] X.env)).any (·.1) = false := by rfl) :
    PE X (.Call (.Name "isinstance" p) [e, .Name y py] [] pos) (tM c (una (isiD T) m)) :=
  pe_cq (pe_callB (callr_or call_isi call_isX) hg hm (by decide +kernel) (pa_cons h (pa_cons (pe_bltn (v := .ty T) hgT hmT hvT rfl hnT hdT) pa_nil hs2) hs1) (by decide) (by decide) hs1 hpl) fun st H Q ⟨pa, H0, F0, F, r, ok, po⟩ => seqM ok po fun d r1 F1 H1 v k1 e1 dp q => by
    obtain ⟨z, hz, q9⟩ := opt_po q
    rcases isiD_dict hz with ⟨nm, x, kv, rfl, hT, rfl⟩ | hz
    · have hx := rp_dict1 dp
      subst hx
      obtain ⟨a, rfl, g1, g2⟩ := rp_exAt dp k1.fH
      refine .inr ⟨a, He.ga c.K nm, .ty T, .type T, false, rfl, g1, by rw [← hK]; exact g2.c, fun u ru => ru, by rw [← hK]; exact g2.t T hT, q9 F1 H1 _ k1 e1 (.bl _)⟩
    cases hn : tyName d with
    | none =>
      rw [hn] at hz
      cases hz
    | some n =>
      rw [hn] at hz
      have hz : (kitB n T).map PyData.bool = some z := hz
      cases hk : kitB n T with
      | none =>
        rw [hk] at hz
        cases hz
      | some b =>
        rw [hk] at hz
        cases hz
        exact .inl ⟨v, .ty T, .type n, .type T, b, rfl, .ty T, by rw [← hK]; exact ty_data dp k1.fH hn, kit_ty hk, q9 F1 H1 _ k1 e1 (.bl _)⟩
end
end Pu
namespace Pu
open PySem PySem.Spec PyProof.Rows L2
variable [TabT]
section
variable {X : Cx} {c : Cc}
theorem e_globI' {x : Str} {i : Int} {pos : Pos} (hm : ∃ t, X.mg x = some (.int i t)) (hg : Gl X x := by rfl) (hd : (x == ("__debug__" : Str)) = false := by decide) : PE X (.Name x pos) (tM c (M.ret (.int i))) := by
  obtain ⟨t, hm⟩ := hm
  exact e_globI hm hg hd
/-! ### a slice -/
def cutL (ds : List D) (lo hi : Option Int) : List D := (ds.drop (HT.sIx ds.length 0 lo)).take (HT.sIx ds.length ds.length hi - HT.sIx ds.length 0 lo)
def slD : D → Option Int → Option Int → Option D
  | .list ds, lo, hi => some (.list (cutL ds lo hi))
  | .tuple ds, lo, hi => some (.tuple (cutL ds lo hi))
  | .str z, lo, hi => if z.length ≤ 16777216 then some (.str (cutS z lo hi)) else none
  | _, _, _ => none
def pNone : M (Option Int) := M.ret none
def pSome (m : M D) : M (Option Int) := m.bind fun d => M.opt (match d with
  | .int i => some (some i)
  | _ => none)
def eSl (m : M D) (l u : M (Option Int)) : M D := m.bind fun d => l.bind fun a => u.bind fun b => M.opt (slD d a b)
def tPo (c : Cc) (m : M (Option Int)) : TO := fun st H Q => ∃ pa H0 F0 F r, Ok c.K pa H0 F0 F H st r ∧ Po (XW c pa H0 F0 F) (m r) fun o r' => ∀ F' H', Ok c.K pa H0 F0 F' H' st r' → Ex F F' → Q o H'
theorem seqP {α : Type} {pa : Nat → Addr} {H0 F0 F H : Hp} {st : L2.St} {r : En} {ma : M (Option Int)} {f : Option Int → M α} {k : α → En → Prop} {Q : Option Int → Hp → Prop} (ok : Ok c.K pa H0 F0 F H st r) (po : Po (XW c pa H0 F0 F) (ma.bind f r) k)
    (h : ∀ d r1 F1 H1, Ok c.K pa H0 F0 F1 H1 st r1 → Ex F F1 → Po (XW c pa H0 F0 F1) (f d r1) k → Q d H1) : tPo c ma st H Q :=
  ⟨pa, H0, F0, F, r, ok, (Po.bind po).mono (fun _ _ x => x) fun d r1 q F1 H1 k1 e1 => h d r1 F1 H1 k1 e1 (q.mono (XW.mono e1) fun _ _ x => x)⟩
theorem po_cq {e : Option Expr} {t t' : TO} (h : PO X e t) (i : ∀ st H Q, t' st H Q → t st H Q) : PO X e t' := ⟨fun pins s st H Q I q => h.run pins s st H Q I (i _ _ _ q)⟩
theorem p_none : PO X none (tPo c pNone) := po_cq po_none fun st H Q ⟨pa, H0, F0, F, r, ok, po⟩ => po F H ok (Ex.refl F)
theorem p_some {e : Expr} {m : M D} (h : PE X e (tM c m)) : PO X (some e) (tPo c (pSome m)) := po_cq (po_some h) fun st H Q ⟨pa, H0, F0, F, r, ok, po⟩ => seqM ok po fun d r1 F1 H1 v k1 e1 dp q => by
  obtain ⟨z, hz, q⟩ := opt_po q
  cases dp with
  | int i =>
    cases hz
    exact ⟨i, rfl, q F1 H1 k1 e1⟩
  | _ => cases hz
theorem slr_cq {r r' : V → Option Int → Option Int → Hp → VK → Prop} (h : SlR X r) (i : ∀ x lo hi H Q, r' x lo hi H Q → r x lo hi H Q) : SlR X r' := fun pins s st H x v vl vu lo hi sl Q I rx hs pl pu q => h pins s st H x v vl vu lo hi sl Q I rx hs pl pu (i x lo hi H Q q)
def rSlD (K : PySem.W.Frag) : V → Option Int → Option Int → Hp → VK → Prop := fun x lo hi H Q => ∃ F d z, Ex F H ∧ Rp K F x d ∧ slD d lo hi = some z ∧ ∀ v F' H', NewF F H F' H' → Rp K F' v z → Q v H'
theorem cut_dpa {K : PySem.W.Frag} {F : Hp} {vs : List V} {ds : List D} (h : RpAll K F vs ds) (lo hi : Option Int) : RpAll K F (cutV vs lo hi) (cutL ds lo hi) := by
  unfold cutV cutL
  rw [dpa_len h]
  exact dpa_take _ (dpa_drop _ h)
theorem sl_data (hK : c.K = X.K := by rfl) : SlR X (rSlD c.K) := slr_cq ((sl_list.or sl_tupA).or sl_str) fun x lo hi H Q ⟨F, d, z, fh, dx, hz, q⟩ => by
  cases dx with
  | @lst a vs ds g1 g2 =>
    cases hz
    refine .inl (.inl ⟨a, vs, rfl, by rw [← hK]; exact fh.l g1, fun p np => ?_⟩)
    have nF := fh.nn np
    exact q _ _ _ (.inr ⟨p, _, np, rfl, rfl⟩) (.lst (.inl (.inl upd_same)) (dpa_mono (Ex.new nF) (cut_dpa g2 lo hi)))
  | @tup a vs ds g1 g2 =>
    cases hz
    refine .inl (.inr ⟨a, vs, rfl, by rw [← hK]; exact fh.t g1, fun e => ?_, fun _ p np => ?_⟩)
    · have e2 : cutL ds lo hi = ds := by
        unfold cutL
        rw [← dpa_len g2, e.1, e.2, dpa_len g2]
        simp
      rw [e2] at q
      exact q _ F H (.inl ⟨rfl, rfl⟩) (.tup g1 g2)
    · have nF := fh.nn np
      exact q _ _ _ (.inr ⟨p, _, np, rfl, rfl⟩) (.tup upd_same (dpa_mono (Ex.new nF) (cut_dpa g2 lo hi)))
  | str s =>
    have hz : (if s.length ≤ 16777216 then some (PyData.str (cutS s lo hi)) else none) = some z := hz
    split at hz
    · cases hz
      exact .inr ⟨s, rfl, by rw [sizeLine_eq]; assumption, q _ F H (.inl ⟨rfl, rfl⟩) (.str _)⟩
    · cases hz
  | _ => cases hz
theorem e_sl {e : Expr} {lo hi : Option Expr} {m : M D} {l u : M (Option Int)} {p2 pos : Pos} (he : PE X e (tM c m)) (hl : PO X lo (tPo c l)) (hu : PO X hi (tPo c u)) (hK : c.K = X.K := by rfl) : PE X (.Subscript e (.Slice lo hi none p2) pos) (tM c (eSl m l u)) :=
  pe_cq (pe_slice (sl_data hK) he hl hu) fun st H Q ⟨pa, H0, F0, F, r, ok, po⟩ => seqM ok po fun d r1 F1 H1 v k1 e1 dp q1 => seqP k1 q1 fun a r2 F2 H2 k2 e2 q2 => seqP k2 q2 fun b r3 F3 H3 k3 e3 q3 => by
    obtain ⟨z, hz, q4⟩ := opt_po q3
    exact ⟨F3, d, z, k3.fH, dp_mono (e2.trans e3) dp, hz, op_end (r' := r3) k3 fun F' H' v ok ex dp => q4 F' H' v ok ((e1.trans (e2.trans e3)).trans ex) dp⟩
/-! ### t[::-1] -/
def revD : D → Option D
  | .list ds => some (.list ds.reverse)
  | .tuple ds => some (.tuple ds.reverse)
  | _ => none
/-! ### a < b < c -/
theorem chain_ok {g g2 : D → D → Option D} {ma mb mc : M D} {st : L2.St} {H : Hp} {Q : VK} (h : tM c (eChain g g2 ma mb mc) st H Q) : tChain (rD2 c.K g) (rD2 c.K g2) (tM c ma) (tM c mb) (tM c mc) st H Q := by
  obtain ⟨pa, H0, F0, F, r, ok, po⟩ := h
  unfold eChain at po
  refine seqM ok po fun d r1 F1 H1 v k1 e1 dp q => seqM k1 q fun d2 r2 F2 H2 v2 k2 e2 dp2 q2 => ?_
  obtain ⟨z, hz, q3⟩ := opt_po (Po.bind q2)
  refine ⟨F2, d, d2, z, k2.fH, dp_mono e2 dp, dp2, hz, fun w F3 H3 nf rz => ?_⟩
  obtain ⟨k3, e3⟩ := nf.ok k2
  cases z with
  | bool b =>
    cases rz
    cases b with
    | true =>
      refine ⟨true, rfl, ?_⟩
      rw [if_pos rfl]
      have q3 : Po _ (mc.bind (fun z => M.opt (g2 d2 z)) r2) _ := q3
      refine seqM k3 (q3.mono (XW.mono e3) fun _ _ x => x) fun d3 r4 F4 H4 v4 k4 e4 dp4 q4 => ?_
      obtain ⟨z2, hz2, q5⟩ := opt_po q4
      exact ⟨F4, d2, d3, z2, k4.fH, dp_mono (e3.trans e4) dp2, dp4, hz2, op_end (r' := r4) k4 fun F' H' v ok ex dp => q5 F' H' v ok ((e1.trans (e2.trans (e3.trans e4))).trans ex) dp⟩
    | false =>
      refine ⟨false, rfl, ?_⟩
      rw [if_neg Bool.false_ne_true]
      exact q3 F3 H3 _ k3 (e1.trans (e2.trans e3)) (.bl _)
  | _ => exact q3.elim
theorem e_chain {op op' : CmpOp} {g g2 : D → D → Option D} {a b d : Expr} {ma mb mc : M D} {pos : Pos} (ho : OpR X (compareOp op) (rD2 c.K g)) (ho' : OpR X (compareOp op') (rD2 c.K g2)) (ha : PE X a (tM c ma)) (hb : PE X b (tM c mb)) (hd : PE X d (tM c mc))
    (hm : lastMarks [op, op'] [b, d] = false := by with_unfolding_all rfl) : PE X (.Compare a [op, op'] [b, d] pos) (tM c (eChain g g2 ma mb mc)) := pe_cq (pe_chain ho ho' ha hb hd hm) fun _ _ _ h => chain_ok h
theorem t_chain {op op' : CmpOp} {g g2 : D → D → Option D} {a b d : Expr} {ma mb mc : M D} {pos : Pos} (ho : OpR X (compareOp op) (rD2 c.K g)) (ho' : OpR X (compareOp op') (rD2 c.K g2)) (ha : PE X a (tM c ma)) (hb : PE X b (tM c mb)) (hd : PE X d (tM c mc))
    (hm : lastMarks [op, op'] [b, d] = false := by with_unfolding_all rfl) : PT X (.Compare a [op, op'] [b, d] pos) (tT c (tBool (eChain g g2 ma mb mc))) := pt_cq (pt_chain ho ho' ha hb hd hm) fun st H Q h => by
    obtain ⟨pa, H0, F0, F, r, ok, po⟩ := h
    refine chain_ok ?_
    refine seqM ok po fun d r1 F1 H1 v k1 e1 dp q => ?_
    obtain ⟨b, hb, q⟩ := opt_po q
    cases dp with
    | bl b' =>
      cases hb
      exact ⟨_, rfl, q F1 H1 k1 e1⟩
    | _ => cases hb
/-! ### is None, is True -/
def isD : D → D → Option D
  | .bool a, .bool b => some (.bool (decide (a = b)))
  | .none, .none => some (.bool true)
  | _, .none => some (.bool false)
  | _, _ => none
def isntD : D → D → Option D
  | .bool a, .bool b => some (.bool (!decide (a = b)))
  | .none, .none => some (.bool false)
  | _, .none => some (.bool true)
  | _, _ => none
theorem is_data : OpR X (compareOp .Is) (rD2 c.K isD) := opr_cq (op_isN.or op_isBl) fun x y H Q ⟨F, d, e, z, fh, dx, dy, hz, q⟩ => by
  cases dy with
  | non =>
    cases dx <;> (cases hz; exact .inl ⟨rfl, q _ F H (.inl ⟨rfl, rfl⟩) (.bl _)⟩)
  | bl b =>
    cases dx with
    | bl a =>
      cases hz
      exact .inr ⟨a, b, rfl, rfl, q _ F H (.inl ⟨rfl, rfl⟩) (.bl _)⟩
    | _ => cases hz
  | _ => cases dx <;> cases hz
theorem isnt_data : OpR X (compareOp .IsNot) (rD2 c.K isntD) := opr_cq (op_notN.or op_notBl) fun x y H Q ⟨F, d, e, z, fh, dx, dy, hz, q⟩ => by
  cases dy with
  | non =>
    cases dx <;> (cases hz; exact .inl ⟨rfl, q _ F H (.inl ⟨rfl, rfl⟩) (.bl _)⟩)
  | bl b =>
    cases dx with
    | bl a =>
      cases hz
      exact .inr ⟨a, b, rfl, rfl, q _ F H (.inl ⟨rfl, rfl⟩) (.bl _)⟩
    | _ => cases hz
  | _ => cases dx <;> cases hz
/-! ### not of a value -/
def eNotT (m : M D) : M D := (tTru m).bind fun b => M.ret (.bool (!b))
end
end Pu
namespace Pu
open PySem PySem.Spec PyProof.Rows L2
variable [TabT]
section
variable {X : Cx} {c : Cc}
/-! ### repr -/
noncomputable def reprD : D → Option D
  | .none => some (.str "None")
  | .bool b => some (.str (if b then "True" else "False"))
  | .str x => cI ((reprText x).length ≤ 16777216) (some (.str (reprText x))) none
  | .dict [] => some (.str (PyData.dict []).shown)
  | .int i => cI (i.natAbs.log2 < 1920) (some (.str (toString i))) none
  | .list ds => cI ((PyData.list ds).showable = true ∧ SeqAt.shaped (.list ds) = true ∧ (PyData.list ds).shown.length ≤ 16777216) (some (.str (PyData.list ds).shown)) none
  | .tuple ds => cI ((PyData.tuple ds).showable = true ∧ SeqAt.shaped (.tuple ds) = true ∧ (PyData.tuple ds).shown.length ≤ 16777216) (some (.str (PyData.tuple ds).shown)) none
  | _ => none
/-! ### f(..).append(..): what was told is changed and dropped -/
def sAppX (m : M RV) : M Fl := m.bind fun rv => match rv with
  | .o (.l ds) => if ds.length < 16777216 then M.ret .nx else M.no
  | _ => M.no
/-! ### a new list from + and * -/
def binO (g : D → D → Option RV) (ma mb : M D) : M RV := ma.bind fun x => mb.bind fun y => M.opt (g x y)
def addO : D → D → Option RV
  | .list xs, .list ys => szC (xs.length + ys.length) (.o (.l (xs ++ ys)))
  | d, e => (addD d e).map .v
noncomputable def mulO : D → D → Option RV
  | .list xs, .int k => cI ((-(2 ^ 63) ≤ k ∧ k < 2 ^ 63) ∧ xs.length * k.toNat ≤ 16777216) (some (.o (.l (List.replicate k.toNat xs).flatten))) none
  | _, _ => none
end
end Pu
namespace Pu
open PySem PySem.Spec PyProof.Rows L2
variable [TabT]
section
variable {X : Cx} {c : Cc}
/-- x = [..], x not changed later -/
theorem s_setLcV {i : Nat} {y : Str} {py : Pos} {elt tg iter : Expr} {ifs : List Expr} {scope : Scope} {own : List (Str × Nat)} {pos spos : Pos} {src : M (List D)} {js : List Nat} {t : Tg} {tt : M Bool} {te : M D} (hi : PI X tg iter (iM c src)) (ok : BlkOk X.N X.env.scope scope own)
    (hg : ∀ (s : Shared) (H : Hp) (C : Addr) (cl : List (Str × Addr)) (fp : List Addr), PG (X.blk s H scope (compEnvC scope cl C X.env) fp) tg (gM c.K js t)) (ht : ∀ (s : Shared) (H : Hp) (C : Addr) (cl : List (Str × Addr)) (fp : List Addr), PTs (X.blk s H scope (compEnvC scope cl C X.env) fp) ifs (tT c.nox tt))
    (he : ∀ (s : Shared) (H : Hp) (C : Addr) (cl : List (Str × Addr)) (fp : List Addr), PE (X.blk s H scope (compEnvC scope cl C X.env) fp) elt (tM c.nox te)) (hN : X.N.Nodup) (hjs : ∀ j ∈ js, j ∈ own.map (·.2) := by decide) (hc : X.calm = true := by rfl) (hy : X.N[i]? = some y := by rfl) (hyl : X.env.scope.names.lookup y = some .local := by rfl)
    (hsw : swapsWith (.ListComp elt [⟨tg, iter, ifs, 0⟩] scope pos) (some (.Name y py)) spos.line X.env = pure true := by exact sw_true rfl rfl rfl (by decide +kernel)) (hs : ∀ x, foldedSetIterable iter X.env x = pure x := by intro _; rfl) :
    PS X (.Assign [.Name y py] (.ListComp elt [⟨tg, iter, ifs, 0⟩] scope pos) spos) (sM c (sSet i (frzM (oComp src (own.map (·.2)) t tt te)))) :=
  ps_cq (ps_setLc hc hN hy hyl hsw hi ok hg ht he hs) fun Dd st H ⟨pa, H0, F0, F, r, okk, po⟩ => lc_ok hjs ⟨pa, H0, F0, F, r, okk, (Po.bind (Po.bind po)).mono (fun _ _ x => x) fun rv r1 q F1 H1 v k1 e1 dp => by
    cases rv with
    | v d =>
      obtain ⟨q, hi⟩ := setM_po q
      exact q F1 H1 _ (k1.setV hi dp) e1
    | o ct =>
      cases ct with
      | l ds =>
        obtain ⟨a, rfl, z1, z2, ⟨vs, z3, z4⟩, z5⟩ := dp
        have k2 := k1.frz z3 z2 z5.1 z1
        obtain ⟨q, hi⟩ := setM_po q
        exact q _ H1 _ (k2.setV hi (.lst (.inl (.inl upd_same)) (dpa_mono (Ex.new z1) z4))) (e1.trans (Ex.new z1))
      | t kvs => exact q.elim
      | n t =>
        obtain ⟨d, hd, q⟩ := opt_po' q
        obtain ⟨a, rfl, z⟩ := dp
        obtain ⟨F2, k2, eF, rp⟩ := k1.frzRv z hd
        obtain ⟨q, hi⟩ := setM_po q
        exact q F2 H1 _ (k2.setV hi rp) (e1.trans eF)
      | d kvs => exact q.elim⟩
/-! ### an own list compared -/
def eqD0 (d e : D) : Option D := if SeqAt.shaped d = true ∧ SeqAt.shaped e = true then some (.bool (PyData.eqv d e)) else none
def eqS (i : Nat) (mb : M D) : M D := fun r => match getC i r with
  | some (.l _) => (mb r).bind fun d r => match getC i r with
    | some (.l ds) => M.opt (eqD0 (.list ds) d) r
    | _ => .no
  | some (.d _) => .no
  | some (.t _) => .no
  | some (.n _) => .no
  | none => bin eqD (getS i) mb r
def neS (i : Nat) (mb : M D) : M D := fun r => match getC i r with
  | some (.l _) => (mb r).bind fun d r => match getC i r with
    | some (.l ds) => M.opt (neD (.list ds) d) r
    | _ => .no
  | some (.d _) => .no
  | some (.t _) => .no
  | some (.n _) => .no
  | none => bin neD (getS i) mb r
/-! ### a statement that is never come to -/
def sNever : M Fl := fun _ => .no
theorem s_never {s : Stmt} : PS X s (sM c sNever) := ⟨fun pins sh st H Dd I ⟨_, _, _, _, _, _, po⟩ => po.elim⟩
/-! ### a call without arguments -/
def cCall0 (f : List Sl → Re RV) : M RV := cCall f aNil
end
end Pu
namespace Pu
open PySem PySem.Spec PyProof.Rows L2
variable [TabT]
section
variable {X : Cx} {c : Cc}
/-! ### {} -/
def oDict0 : M RV := M.ret (.o (.d []))
/-! ### bool, str -/
def boolD : D → Option D
  | .int i => some (.bool (i != 0))
  | .bool b => some (.bool b)
  | _ => none
/-! ### in, not in a list of data -/
noncomputable def inD : D → D → Option D
  | d, .list ds => cI (SeqAt.shaped d = true ∧ SeqAt.shaped (.list ds) = true) (some (.bool (ds.any fun z => PyData.eqv z d))) none
  | _, _ => none
noncomputable def ninD : D → D → Option D
  | d, .list ds => cI (SeqAt.shaped d = true ∧ SeqAt.shaped (.list ds) = true) (some (.bool (!ds.any fun z => PyData.eqv z d))) none
  | _, _ => none
theorem in_data (hu : X.A.units + 65 < cLine) (hK : c.K = X.K := by rfl) : OpR X (compareOp .In) (rD2 c.K inD) := opr_cq (op_inD hu) fun x y H Q ⟨F, d, e, z, fh, dx, dy, hz, q⟩ => by
  cases dy with
  | @lst a vs ds g1 g2 =>
    have hz : (if SeqAt.shaped d = true ∧ SeqAt.shaped (.list ds) = true then some (PyData.bool (ds.any fun z => PyData.eqv z d)) else none) = some z := by
      rw [← cI_eq]
      exact hz
    split at hz
    · rename_i hm
      cases hz
      exact ⟨d, ds, by rw [← hK]; exact rp_dp (dp_mono fh dx) hm.1, by rw [← hK]; exact rp_dp (dp_mono fh (.lst g1 g2)) hm.2, hm.1, hm.2, q _ F H (.inl ⟨rfl, rfl⟩) (.bl _)⟩
    · cases hz
  | _ => cases hz
theorem nin_data (hu : X.A.units + 65 < cLine) (hK : c.K = X.K := by rfl) : OpR X (compareOp .NotIn) (rD2 c.K ninD) := opr_cq (op_notInD hu) fun x y H Q ⟨F, d, e, z, fh, dx, dy, hz, q⟩ => by
  cases dy with
  | @lst a vs ds g1 g2 =>
    have hz : (if SeqAt.shaped d = true ∧ SeqAt.shaped (.list ds) = true then some (PyData.bool (!ds.any fun z => PyData.eqv z d)) else none) = some z := by
      rw [← cI_eq]
      exact hz
    split at hz
    · rename_i hm
      cases hz
      exact ⟨d, ds, by rw [← hK]; exact rp_dp (dp_mono fh dx) hm.1, by rw [← hK]; exact rp_dp (dp_mono fh (.lst g1 g2)) hm.2, hm.1, hm.2, q _ F H (.inl ⟨rfl, rfl⟩) (.bl _)⟩
    · cases hz
  | _ => cases hz
/-! ### l.index(x) -/
noncomputable def indexD : D → D → Option D
  | .list ds, d => cI (SeqAt.shaped d = true ∧ SeqAt.shaped (.list ds) = true) ((ds.findIdx? fun z => PyData.eqv z d).map fun j => .int (j : Nat)) none
  | _, _ => none
noncomputable def eIndex (mo me : M D) : M D := mo.bind fun d => match d with
  | .list ds => me.bind fun b => M.opt (indexD (.list ds) b)
  | _ => M.no
/-! ### l.pop(i) -/
noncomputable def popD (ds : List D) : D → Option (D × List D)
  | .int n => cI (0 ≤ n ∧ n < 2 ^ 63) ((ds[n.toNat]?).map fun y => (y, ds.eraseIdx n.toNat)) none
  | _ => none
noncomputable def ePop (i : Nat) (m : M D) : M D := fun r => match getC i r with
  | some (.l _) => (m r).bind fun d r => match getC i r with
    | some (.l ds) => (match popD ds d with
      | some p => .ok p.1 (putC i (.l p.2) r)
      | none => .no)
    | _ => .no
  | _ => .no
end
end Pu
namespace Pu
open PySem PySem.Spec PyProof.Rows L2
variable [TabT]
/-! ### a dict of the module: text keys, whole numbers -/
def Tabl (K : PySem.W.Frag) (w : World) (mg : Str → Option Value) (x : Str) (kvs : List (Str × Int)) : Prop := ∃ d es n, mg x = some (.ref d) ∧ KDict K w d es n ∧ ∀ z, ∃ r, PySem.W.nsIn K d z = some r ∧ (match kvs.find? fun p => decide (p.1 = z) with
  | none => r = none
  | some p => ∃ t, r = some (.int p.2 t))
/-! ### len(set(a tuple of at most two numbers)) -/
def dn : List Int → Nat
  | [] => 0
  | [_] => 1
  | a :: b :: _ => if a = b then 1 else 2
/-! ### the head with such tables -/
def ent (e : DictEntry) : Option (Str × Int) := match e.key with
  | .str k _ => (match e.val with
    | .int i _ => some (k, i)
    | _ => none)
  | _ => none
def tabV (K : PySem.W.Frag) (x : Str) : Option (List (Option (Str × Int))) := match K.lookup (He.ga K x) with
  | some ⟨_, _, .dict es _, _⟩ => some (es.toList.map ent)
  | _ => none
theorem ent_find (z : Str) : ∀ {l : List DictEntry} {kvs : List (Str × Int)}, l.map ent = kvs.map some → l.any (·.refKey) = false ∧ (match kvs.find? fun p => decide (p.1 = z) with
  | none => l.find? (·.key.isStr z) = none
  | some p => ∃ e t, l.find? (·.key.isStr z) = some e ∧ e.val = .int p.2 t)
  | [], [], _ => ⟨rfl, rfl⟩
  | [], _ :: _, h => by cases h
  | _ :: _, [], h => by cases h
  | e :: l, p :: kvs, h => by
    have h1 : ent e :: l.map ent = some p :: kvs.map some := h
    injection h1 with h2 h3
    obtain ⟨g1, g2⟩ := ent_find z h3
    obtain ⟨eh, ek, ev⟩ := e
    unfold ent at h2
    cases ek with
    | str k t =>
      cases ev with
      | int i t2 =>
        have h4 : some (k, i) = some p := h2
        cases h4
        refine ⟨?_, ?_⟩
        · rw [List.any_cons, g1]
          rfl
        · by_cases hk : k = z
          · rw [List.find?_cons_of_pos (by simp [hk]), List.find?_cons_of_pos (by simp [Value.isStr, hk])]
            exact ⟨_, t2, rfl, rfl⟩
          · rw [List.find?_cons_of_neg (by simp [hk]), List.find?_cons_of_neg (by simp [Value.isStr, hk])]
            exact g2
      | _ => cases h2
    | _ => cases h2
abbrev Tbs := List (Str × List (Str × Int))
def tsOf (xs : Tbs) : List He.Tab := xs.map fun p => (fun K => He.ga K p.1, p.2.map (·.1))
abbrev AlS : Type := He.AlT × List (Option (List (Option (Str × Int))))
def obsS (fa : List He.Fa) (fn : List He.DefD) (xs : Tbs) (K : PySem.W.Frag) : AlS := (He.obsT fa fn (tsOf xs) K, xs.map fun p => tabV K p.1)
def valS (fn : List He.DefD) (xs : Tbs) (w : World) : AlS := (He.valT fn (tsOf xs) w, xs.map fun p => some (p.2.map some))
def SaysS (fa : List He.Fa) (fn : List He.DefD) (xs : Tbs) (w : World) (K : PySem.W.Frag) : Prop := obsS fa fn xs K = valS fn xs w
section
variable {fa : List He.Fa} {fn : List He.DefD} {xs : Tbs} {w : World} {K : PySem.W.Frag}
theorem SaysS.d (c : SaysS fa fn xs w K) : He.SaysD fa fn K := He.SaysT.d (congrArg (fun z : AlS => z.1) c)
theorem SaysS.tab (c : SaysS fa fn xs w K) (i : Nat) {p : Str × List (Str × Int)} {mg : Str → Option Value} (h : xs[i]? = some p) (hm : mg p.1 = some (.ref (He.ga K p.1))) : Tabl K w mg p.1 p.2 := by
  have c1 : He.SaysT fa fn (tsOf xs) w K := congrArg (fun z : AlS => z.1) c
  obtain ⟨es, n, Dd⟩ := c1.tab i (t := (fun K => He.ga K p.1, p.2.map (·.1))) (by unfold tsOf; rw [List.getElem?_map, h]; rfl)
  have e : (xs.map fun p => tabV K p.1) = xs.map fun p => some (p.2.map some) := congrArg (fun z : AlS => z.2) c
  have e2 : (xs.map fun p => tabV K p.1)[i]? = (xs.map fun p => some (p.2.map some))[i]? := by rw [e]
  rw [List.getElem?_map, List.getElem?_map, h] at e2
  have e3 : tabV K p.1 = some (p.2.map some) := Option.some.inj e2
  have hat := Dd.at_
  unfold tabV at e3
  rw [hat] at e3
  have e4 : es.toList.map ent = p.2.map some := Option.some.inj e3
  refine ⟨He.ga K p.1, es, n, hm, Dd, fun z => ?_⟩
  obtain ⟨g1, g2⟩ := ent_find z e4
  unfold PySem.W.nsIn
  rw [hat]
  cases hf : p.2.find? fun p => decide (p.1 = z) with
  | none =>
    rw [hf] at g2
    have g2 : es.toList.find? (·.key.isStr z) = none := g2
    refine ⟨none, ?_, rfl⟩
    simp only [g2, g1]
    rfl
  | some q =>
    rw [hf] at g2
    obtain ⟨e, t, h1, h2⟩ := g2
    refine ⟨some e.val, ?_, t, by rw [h2]⟩
    simp only [h1]
end
end Pu
namespace Pu
open PySem PySem.Spec PyProof.Rows L2
variable [TabT]
/-! ### zip of a list and a tuple -/
theorem five {zz ti to p1 p2 q : Addr} (h : q ∈ [zz, ti, to, p1, p2]) : q = zz ∨ q = ti ∨ q = to ∨ q = p1 ∨ q = p2 := by simpa using h
end Pu
namespace Pu
open PySem PySem.Spec PyProof.Rows L2
variable [TabT]
/-! ### an object that stands already is tracked -/
structure Newly (X : Cx) (pins : List (Addr × Obj)) (a : Addr) : Prop where
  loc : a ≠ X.env.locals
  cel : ∀ x c, X.env.cells.lookup x = some c → c ≠ a
  pin : ∀ p ∈ X.pn ++ pins, p.1 ≠ a
  old : X.s_0.heap.get? a = none
theorem Newly.of {X : Cx} {pins : List (Addr × Obj)} {st : L2.St} {H : Hp} {s : Shared} {a : Addr} (I : Inv X pins st H s) (h : s.heap.get? a = none) (hx : X.ex = []) : Newly X pins a where
  loc := fun z => by
    obtain ⟨m, ⟨o, es, ep, q, _⟩, _⟩ := I.loc
    rw [← z, h] at q
    cases q
  cel := fun x c e z => by
    obtain ⟨v, o, q, _⟩ := I.cell x c e
    rw [z, h] at q
    cases q
  pin := fun p hp z => by
    obtain ⟨q, _⟩ := I.pin p hp
    rw [z, h] at q
    cases q
  old := by
    cases q : X.s_0.heap.get? a with
    | none => rfl
    | some o =>
      obtain ⟨o', q2⟩ := I.base.there a o q (by rw [hx]; simp)
      rw [h] at q2
      cases q2
/-! ### try: .. except x as n: y = n -/
/-! ### the classes of the program -/
def houseE : Str := "HouseError"
def isB (nm y : Str) : Bool := decide (nm = y) || decide (y = houseE)
/-! ### the rules -/
def sRaise (nm : Str) : M Fl := fun r => .ex ⟨nm, []⟩ r
def exOf (e : Exn) : D := .dict ((.str e.name, .none) :: e.flds.map fun p => (.str p.1, p.2))
/-- try: body, except HouseError as (slot j): (slot i) = it -/
def sTry (ns : List Str) (j i : Nat) (mb : M Fl) : M Fl := fun r => match mb r with
  | .ex e r1 => if e.name ∈ ns then (match (setN j (.v (exOf e)) r1).bind (setN i (.v (exOf e))) with
    | some r2 => .ok .nx (r2.set j .unk)
    | none => .no) else .no
  | x => x
def isED (ns : List Str) (y : Str) : D → Option D
  | .dict ((.str nm, .none) :: _) => if nm ∈ ns then some (.bool (isB nm y)) else none
  | _ => none
def isEV (ns : List Str) : D → Option D
  | .dict ((.str nm, .none) :: _) => if nm ∈ ns then some (.bool true) else none
  | _ => none
def isET (ns : List Str) (ys : List Str) : D → Option D
  | .dict ((.str nm, .none) :: _) => if nm ∈ ns then some (.bool (ys.any fun y => isB nm y)) else none
  | _ => none
/-! ### isinstance with a tuple of classes -/
section
variable {X : Cx} {c : Cc}
/-! .. of built-in classes -/
def isiTD : List String → D → Option D
  | [], _ => some (.bool false)
  | T :: Ts, d => match isiD T d with
    | some (.bool true) => some (.bool true)
    | some (.bool false) => isiTD Ts d
    | _ => none
end
/-! ### the head with one more Bool -/
abbrev AlB : Type := He.AlD × Bool
def SaysB (fa : List He.Fa) (fn : List He.DefD) (ex : PySem.W.Frag → Bool) (K : PySem.W.Frag) : Prop := He.SaysD fa fn K ∧ ex K = true
end Pu
namespace Pu
open PySem PySem.Spec PyProof.Rows L2
variable [TabT]
/-! ### zip of three tuples -/
def zip3D : List D → List D → List D → List D
  | x :: xs, y :: ys, z :: zs => .tuple [x, y, z] :: zip3D xs ys zs
  | _, _, _ => []
def zip3Of : List D → Option (List D)
  | [.tuple xs, .tuple ys, .tuple zs] => some (zip3D xs ys zs)
  | _ => none
/-! ### x.insert(n, e) -/
noncomputable def sInsert (i : Nat) (mk m : M D) : M Fl := fun r => match getC i r with
  | some (.l _) => (mk r).bind fun k r => (m r).bind fun d r => match k, getC i r with
    | .int n, some (.l ds) => cI (ds.length < 16777216 ∧ 0 ≤ n ∧ n < 2 ^ 63) (.ok .nx (putC i (.l (ds.take n.toNat ++ [d] ++ ds.drop n.toNat)) r)) .no
    | _, _ => .no
  | _ => .no
end Pu
namespace L2
open PySem PySem.Spec PyProof.Rows
end L2
namespace Pu
open PySem PySem.Spec PyProof.Rows L2
variable [TabT]
/-! ### sorted(set(a list of ints)) -/
def unaO (g : D → Option (List D)) (ma : M D) : M RV := ma.bind fun x => M.opt ((g x).map fun z => .o (.l z))
/-! ### sorted(a list of ints) -/
def insS (k : Int) : List Int → List Int
  | [] => [k]
  | x :: xs => if k ≤ x then k :: x :: xs else x :: insS k xs
def isort : List Int → List Int
  | [] => []
  | k :: ks => insS k (isort ks)
def sortD : List D → Option (List D)
  | [.list ds] => (intsOf ds).map fun ns => (isort ns).map .int
  | _ => none
end Pu
namespace Pu
open PySem PySem.Spec PyProof.Rows L2
variable [TabT]
/-! ### the fields of a caught exception -/
/-! ### HouseError.__init__(self, ..) -/
/-! ### the own __init__ of an exception: its fields are its parameters -/
def sRaiseF (nm : Str) (fs : List Str) (ms : M (List D)) : M Fl := ms.bind fun ds => fun r => if ds.length = fs.length then .ex ⟨nm, (fs.zip ds).reverse⟩ r else .no
/-! ### the head with the statics -/
end Pu
namespace Pu
open PySem PySem.Spec PyProof.Rows L2
/-! ### the tables of the defs that make lambdas -/
/-- the code object and its table of the global def x -/
def tabP (K : PySem.W.Frag) (x : Str) : Option (Addr × Addr) := match K.lookup (He.ga K x) with
  | some ⟨_, _, .func fd, _⟩ => (match fd.code with
    | .ref c => (match K.lookup c with
      | some ⟨_, _, .fields vs, _⟩ => (match (vs[11]? : Option Value) with
        | some (.ref P) => some (c, P)
        | _ => none)
      | _ => none)
    | _ => none)
  | _ => none
def lamQ (x : Str) : Str := (x ++ ".<locals>.") ++ "<lambda>"
def tabsN (ln : List Str) (K : PySem.W.Frag) : List (Addr × Str) := ln.filterMap fun x => (tabP K x).map fun p => (p.2, lamQ x)
def csN (ln : List Str) (K : PySem.W.Frag) : List (Addr × Addr) := ln.filterMap (tabP K)
def emptyT : Option Obj → Bool
  | some ⟨.none, none, .fields vs, sl⟩ => vs.isEmpty && sl.isEmpty
  | _ => false
theorem emptyT_ok {o : Option Obj} (h : emptyT o = true) : o = some { cls := .none, data := .fields #[] } := by
  unfold emptyT at h
  split at h
  · simp only [Bool.and_eq_true, Array.isEmpty_iff] at h
    obtain ⟨rfl, rfl⟩ := h
    rfl
  · cases h
def lamB (ln : List Str) (K : PySem.W.Frag) (g : Addr → Option Obj) : Bool := (ln.all fun x => match tabP K x with
  | some (c, P) => PySem.W.codeHdIn K c P && ((K.lookup P).isNone && emptyT (g P))
  | none => false) && (tabsN ln K).all fun p => (tabsN ln K).all fun q => !(p.1 == q.1) || p.2 == q.2
structure LamOk (ln : List Str) (K : PySem.W.Frag) (h : Heap) : Prop where
  at_ : ∀ x ∈ ln, ∃ c P, tabP K x = some (c, P) ∧ PySem.W.codeHdIn K c P = true ∧ K.lookup P = none ∧ h.get? P = some { cls := .none, data := .fields #[] }
  un : ∀ p ∈ tabsN ln K, ∀ q ∈ tabsN ln K, p.1 = q.1 → p.2 = q.2
theorem lamB_ok {ln : List Str} {K : PySem.W.Frag} {h : Heap} (e : lamB ln K h.get? = true) : LamOk ln K h := by
  unfold lamB at e
  simp only [Bool.and_eq_true, List.all_eq_true] at e
  obtain ⟨e1, e2⟩ := e
  refine ⟨fun x hx => ?_, fun p hp q hq z => ?_⟩
  · have q := e1 x hx
    cases ht : tabP K x with
    | none =>
      rw [ht] at q
      cases q
    | some cp =>
      obtain ⟨c, P⟩ := cp
      rw [ht] at q
      simp only [Bool.and_eq_true] at q
      obtain ⟨q1, q2, q3⟩ := q
      exact ⟨c, P, rfl, q1, Option.isNone_iff_eq_none.mp q2, emptyT_ok q3⟩
  · have y := e2 p hp q hq
    simp only [Bool.or_eq_true, Bool.not_eq_true', beq_iff_eq, beq_eq_false_iff_ne] at y
    rcases y with y | y
    · exact absurd z y
    · exact y
theorem LamOk.keeps {ln : List Str} {K : PySem.W.Frag} {h h' : Heap} (l : LamOk ln K h) (k : ∀ b o, h.get? b = some o → h'.get? b = some o) : LamOk ln K h' := ⟨fun x hx => by
  obtain ⟨c, P, q1, q2, q3, q4⟩ := l.at_ x hx
  exact ⟨c, P, q1, q2, q3, k _ _ q4⟩, l.un⟩
def asL (g : Addr → Option Obj) (n : Nat) (ln : List Str) : List Addr :=
  let as := He.asD g n ++ [cStatics]
  let ts := (csN ln (He.frG g as)).map (·.2)
  as.filter fun a => !ts.contains a
def obsLG (n : Nat) (fa : List He.Fa) (fn : List He.DefD) (ex : PySem.W.Frag → Bool) (ln : List Str) (g : Addr → Option Obj) : AlB := (He.obsD fa fn (He.frG g (asL g n ln)), ex (He.frG g (asL g n ln)) && lamB ln (He.frG g (asL g n ln)) g)
def hookL (n : Nat) (fa : List He.Fa) (fn : List He.DefD) (ex : PySem.W.Frag → Bool) (ln : List Str) : PySem.W.Hook where
  α := AlB
  obs := fun s => obsLG n fa fn ex ln s.heap.get?
  val := fun _ => (He.valD fn, true)
  says := fun _ h => ∃ K : PySem.W.Frag, K.In h ∧ SaysB fa fn ex K ∧ LamOk ln K h
  of := fun _ _ e => by
    have e2 := congrArg (fun z : AlB => z.2) e
    have e2 := Bool.and_eq_true_iff.mp e2
    exact ⟨_, He.frG_in, ⟨congrArg (fun z : AlB => z.1) e, e2.1⟩, lamB_ok e2.2⟩
  keeps := fun _ _ _ ⟨K, hK, c, l⟩ k => ⟨K, PySem.W.Frag.In.keeps hK k, c, l.keeps k⟩
theorem obsLG_eq {n : Nat} {fa : List He.Fa} {fn : List He.DefD} {ex : PySem.W.Frag → Bool} {ln : List Str} {g : Addr → Option Obj} {s : Shared} (h : ∀ a, g a = s.heap.get? a) : obsLG n fa fn ex ln g = (hookL n fa fn ex ln).obs s := by
  have e : g = s.heap.get? := funext h
  rw [e] <;> rfl
/-- what the law's start is told of the tables -/
theorem LamOk.cs {ln : List Str} {K : PySem.W.Frag} {h : Heap} (l : LamOk ln K h) (X : K.In h) : (∀ p ∈ csN ln K, h.get? p.2 = some { cls := .none, data := .fields #[] }) ∧ (∀ p ∈ csN ln K, K.lookup p.2 = none) ∧ (∀ p ∈ csN ln K, PySem.W.CodeHd h p.1 p.2) := by
  have key : ∀ p ∈ csN ln K, PySem.W.codeHdIn K p.1 p.2 = true ∧ K.lookup p.2 = none ∧ h.get? p.2 = some { cls := .none, data := .fields #[] } := fun p hp => by
    obtain ⟨x, hx, e⟩ := List.mem_filterMap.mp hp
    obtain ⟨c, P, q1, q2, q3, q4⟩ := l.at_ x hx
    rw [q1] at e
    cases e
    exact ⟨q2, q3, q4⟩
  exact ⟨fun p hp => (key p hp).2.2, fun p hp => (key p hp).2.1, fun p hp => PySem.W.codeHd_of_K X (key p hp).1⟩
theorem tabs_start {ln : List Str} {K : PySem.W.Frag} {H : Hp} (h : ∀ p ∈ csN ln K, H p.2 = some (.tbl #[])) : LamX.Tabs (tabsN ln K) H := fun p hp => by
  obtain ⟨x, hx, e⟩ := List.mem_filterMap.mp hp
  cases ht : tabP K x with
  | none =>
    rw [ht] at e
    cases e
  | some cp =>
    rw [ht] at e
    cases e
    exact LamX.TabS.nil (h cp (List.mem_filterMap.mpr ⟨x, hx, ht⟩))
/-! ### the lambda called, with no guard under way -/
/-! ### the def that calls the lambda inside its try -/
section
open LamX
variable [TabT]
/-! ### x(lambda: E) -/
/-- the lambda sees data alone -/
def hideS : Sl → Sl
  | .v d => .v d
  | _ => .unk
def lamRes (r1 : En) : Re Fl → Re RV
  | .ok (.rt rv) _ => .ok rv r1
  | .ok .nx _ => .ok (.v .none) r1
  | _ => .no
def cLam (ns : List Str) (n i : Nat) (br : M Fl) (th : M D) : M RV := fun r => match th (r.map hideS) with
  | .ok _ _ => lamRes r (br ((List.replicate n Sl.unk).set i (.v .none)))
  | .ex e _ => if e.name ∈ ns then lamRes r (br ((List.replicate n Sl.unk).set i (.v (exOf e)))) else .no
  | .no => .no
end
end Pu
namespace Pu
open PySem PySem.Spec PyProof.Rows L2
variable [TabT]
section
variable {X : Cx} {c : Cc}
/-! ### l.remove(x), l.count(x) over data -/
noncomputable def eRemove (i : Nat) (m : M D) : M D := fun r => match getC i r with
  | some (.l _) => (m r).bind fun d r => match getC i r with
    | some (.l ds) => cI (SeqAt.shaped d = true ∧ SeqAt.shaped (.list ds) = true ∧ (SeqAt.dataPlace ds d).isSome = true) (.ok .none (putC i (.l (ds.eraseIdx ((SeqAt.dataPlace ds d).getD 0))) r)) .no
    | _ => .no
  | _ => .no
noncomputable def countD : D → D → Option D
  | .list ds, d => cI (SeqAt.shaped d = true ∧ SeqAt.shaped (.list ds) = true) (some (.int ((ds.countP fun z => PyData.eqv z d : Nat) : Int))) none
  | _, _ => none
noncomputable def eCount (mo me : M D) : M D := mo.bind fun d => match d with
  | .list ds => me.bind fun b => M.opt (countD (.list ds) b)
  | _ => M.no
/-! ### d.get(k, x) of an owned dict -/
def eGet (i : Nat) (mk mx : M D) : M D := fun r => match getC i r with
  | some (.d _) => (mk r).bind fun k r => (mx r).bind fun x r => (match getC i r with
    | some (.d kvs) => (match keyD k with
      | some y => .ok ((vK kvs y).getD x) r
      | none => .no)
    | _ => .no)
  | _ => .no
/-! ### l.clear() -/
def eClear (i : Nat) : M D := fun r => match getC i r with
  | some (.l _) => .ok .none (putC i (.l []) r)
  | _ => .no
end
end Pu
namespace Pu
open PySem PySem.Spec PyProof.Rows L2
variable [TabT]
/-! ### zip of a tuple and a list -/
def zipW : List D → Option (List D)
  | [.tuple xs, .list ys] => some (zipD xs ys)
  | [.list xs, .list ys] => some (zipD xs ys)
  | [.tuple xs, .tuple ys] => some (zipD xs ys)
  | _ => none
end Pu
namespace Pu
open PySem PySem.Spec PyProof.Rows L2
variable [TabT]
section
variable {X : Cx} {c : Cc}
/-! ### repr(x), isinstance(x, T) of an owned name -/
noncomputable def eReprS (i : Nat) : M D := fun r => match getC i r with
  | some (.l ds) => M.opt (reprD (.list ds)) r
  | some (.d _) => .no
  | some (.t _) => .no
  | some (.n (.l its)) => M.opt (reprD (.list (its.map Im.data))) r
  | some (.n _) => .no
  | none => nry (one reprD) (aCons (getS i) aNil) r
noncomputable def eIsiS (T : String) (i : Nat) : M D := fun r => match getC i r with
  | some (.l ds) => M.opt ((kitB "list" T).map PyData.bool) r
  | some (.d _) => M.opt ((kitB "dict" T).map PyData.bool) r
  | some (.t _) => .no
  | some (.n (.l _)) => M.opt ((kitB "list" T).map PyData.bool) r
  | some (.n _) => .no
  | none => una (isiD T) (getS i) r
/-! ### list(d), sorted(d) of an owned dict -/
def kD : Key → D
  | .inl i => .int i
  | .inr x => .str x
def oListK (i : Nat) : M RV := fun r => match getC i r with
  | some (.d kvs) => .ok (.o (.l (kvs.map fun kv => kD kv.1))) r
  | some (.l _) => .no
  | some (.t _) => .no
  | some (.n _) => .no
  | none => nryO listD (aCons (getS i) aNil) r
def intKs : List Key → Option (List Int)
  | [] => some []
  | .inl i :: ks => (intKs ks).map (i :: ·)
  | .inr _ :: _ => none
noncomputable def oSortK (i : Nat) : M RV := fun r => match getC i r with
  | some (.d kvs) => (match intKs (kvs.map (·.1)) with
    | some is => cI (is.length < 64) (.ok (.o (.l ((isort is).map .int))) r) .no
    | none => .no)
  | some (.l _) => .no
  | some (.t _) => .no
  | some (.n _) => .no
  | none => nryO sortD (aCons (getS i) aNil) r
/-! ### tuple(x) of an owned list: x stays one's own -/
def eTupS (i : Nat) : M D := fun r => match getC i r with
  | some (.l ds) => .ok (.tuple ds) r
  | some (.d _) => .no
  | some (.t _) => .no
  | some (.n _) => .no
  | none => nry (one tupD) (aCons (getS i) aNil) r
theorem e_tupS (i : Nat) {x : Str} {p px pos : Pos} (hm : X.mg "tuple" = none) (hK : c.K = X.K := by rfl) (hg : Gl X "tuple" := by rfl) (hs1 : starEach [.Name x px] X.env = [(false, eval (.Name x px) X.env)] := by rfl) (hpl : (backTo pos (starEach [] X.env)).any (·.1) = false := by rfl)
    (hN : X.N[i]? = some x := by rfl) (hv : Vis X.env.scope x := by first | exact Or.inl rfl | exact Or.inr (Or.inl rfl) | exact Or.inr (Or.inr rfl)) (hd : (x == ("__debug__" : Str)) = false := by decide)
    (hcd : (x == ("__classdict__" : Str)) = false := by decide) : PE X (.Call (.Name "tuple" p) [.Name x px] [] pos) (tM c (eTupS i)) :=
  pe_cq (pe_or' (pe_callTy call_tuple_of hg hm (by decide +kernel) (pa_cons (pe_var (i := i) hN hv hd hcd) pa_nil hs1) (by decide) (by decide) hs1 hpl)
    (e_callT (c := c) (tup_data hK) hm (a_cons (e_var i hN hv hd hcd) a_nil hs1) hg (by decide +kernel) (by decide) (by decide) hs1 hpl)) fun st H Q ⟨pa, H0, F0, F, r, ok, po⟩ => by
    unfold eTupS at po
    split at po
    · rename_i ds hg
      obtain ⟨s0, hs0, hso0⟩ := getC_some hg
      obtain ⟨a, hst, nF, n0, vs, hH, hr⟩ := ok.ownd hs0 hso0
      refine .inl ⟨_, hst, a, vs, rfl, .inl ⟨.inl (.inl hH), fun p np => ?_⟩⟩
      have nFp := ok.fH.nn np
      exact op_end (r' := r) ok (fun F' H' v k e dp => po F' H' v k e dp) _ _ _ (.inr ⟨p, _, np, rfl, rfl⟩) (.tup upd_same (dpa_mono (Ex.new nFp) hr))
    · exact po.elim
    · exact po.elim
    · exact po.elim
    · exact .inr ⟨pa, H0, F0, F, r, ok, po⟩
end
end Pu
namespace Pu
open PySem PySem.Spec PyProof.Rows L2
variable [TabT]
section
variable {X : Cx} {c : Cc}
/-! ### max(list of ints, default=int) -/
def maxI (d : Int) : List Int → Int
  | [] => d
  | x :: xs => xs.foldl (fun a y => max a y) x
def maxdD : D → D → Option D
  | .list ds, .int d => (intsOf ds).map fun ns => .int (maxI d ns)
  | _, _ => none
/-! ### a call with an owned list lent -/
mutual
def noL : D → Bool
  | .tuple ds => noLAll ds
  | .list _ => false
  | .dict _ => false
  | _ => true
def noLAll : List D → Bool
  | [] => true
  | d :: ds => noL d && noLAll ds
end
end
end Pu
/-! ### sorted(set(a list of ints)), any number of them -/
namespace L2
open PySem PySem.Spec PyProof.Rows
end L2
namespace Pu
open PySem PySem.Spec PyProof.Rows L2
end Pu
/-! ### x(lambda: E) where E changes one object of the maker's -/
namespace Pu
open PySem PySem.Spec PyProof.Rows L2 LamX
end Pu
/-! ### texts -/
namespace Pu
open PySem PySem.Spec PyProof.Rows L2
end Pu
namespace Pu
open PySem PySem.Spec PyProof.Rows L2
/-! ### where a text stands in a text -/
end Pu
namespace Pu
open PySem PySem.Spec PyProof.Rows L2
/-! ### a text parted at a mark -/
end Pu
namespace Pu
open PySem PySem.Spec PyProof.Rows L2
variable [TabT]
section
variable {X : Cx} {c : Cc}
/-! ### l.reverse() -/
def eLRev (i : Nat) : M D := fun r => match getC i r with
  | some (.l ds) => .ok .none (putC i (.l ds.reverse) r)
  | _ => .no
end
@[simp] theorem eLRev_ap (i : Nat) (r : En) : eLRev i r = (match getC i r with
  | some (.l ds) => .ok .none (putC i (.l ds.reverse) r)
  | _ => .no) := rfl
end Pu
namespace Pu
open PySem PySem.Spec PyProof.Rows L2
variable [TabT]
/-! ### i // j of any size -/
noncomputable def fdivLD : D → D → Option D
  | .int i, .int j => cI (j ≠ 0) (some (.int (i.fdiv j))) none
  | _, _ => none
end Pu
namespace Pu
open PySem PySem.Spec PyProof.Rows L2
/-! ### f(x, ..) that lends an owned list x and hands further values -/
end Pu
namespace Pu
open PySem PySem.Spec PyProof.Rows L2
variable [TabT]
/-! ### sorted(xs) of a list of data, any number -/
section
variable {X : Cx} {c : Cc}
/-! ### {k: v}, the key a tuple -/
/-! ### k in d, k not in d: an owned dict -/
def eInS (i : Nat) (mk : M D) : M D := mk.bind fun kd r => match getC i r with
  | some (.t kvs) => (match tkeyD kd with
    | some y => .ok (.bool (vK kvs y).isSome) r
    | none => .no)
  | some (.d kvs) => (match keyD kd with
    | some y => .ok (.bool (vK kvs y).isSome) r
    | none => .no)
  | _ => .no
/-! ### sum of a list or a tuple of ints -/
/-! ### min, max of a list of ints -/
end
end Pu
namespace Pu
open PySem PySem.Spec PyProof.Rows L2
variable [TabT]
section
variable {X : Cx} {c : Cc}
/-! ### e in x, e not in x for an owned list x, which stays owned -/
noncomputable def eInLS (i : Nat) (mk : M D) : M D := mk.bind fun kd r => match getC i r with
  | some (.l ds) => M.opt (inD kd (.list ds)) r
  | _ => .no
noncomputable def eNinLS (i : Nat) (mk : M D) : M D := mk.bind fun kd r => match getC i r with
  | some (.l ds) => M.opt (ninD kd (.list ds)) r
  | _ => .no
end
@[simp] theorem eInLS_ap (i : Nat) (mk : M D) (r : En) : eInLS i mk r = (mk r).bind fun kd r => (match getC i r with
  | some (.l ds) => M.opt (inD kd (.list ds)) r
  | _ => .no) := rfl
@[simp] theorem eNinLS_ap (i : Nat) (mk : M D) (r : En) : eNinLS i mk r = (mk r).bind fun kd r => (match getC i r with
  | some (.l ds) => M.opt (ninD kd (.list ds)) r
  | _ => .no) := rfl
end Pu
namespace Pu
open PySem PySem.Spec PyProof.Rows L2
variable [TabT]
/-! ### dict(a list of pairs whose keys are tuples) -/
abbrev QP := Addr × List Key × Addr × V
section
variable {X : Cx}
variable {c : Cc}
def pairT : D → Option (List Key × D)
  | .tuple [k, v] => (tkeyD k).map fun y => (y, v)
  | _ => none
def pairsT : List D → Option (List (List Key × D))
  | [] => some []
  | d :: ds => (pairT d).bind fun p => (pairsT ds).map fun ps => p :: ps
def dictP : List D → Option (List (List Key × D))
  | [.list xs] => (pairsT xs).map fun kvs => kvs.foldl (fun acc kv => pK acc kv.1 kv.2) []
  | _ => none
def oDictP (ms : M (List D)) : M RV := ms.bind fun ds => M.opt ((dictP ds).map fun kvs => .o (.t kvs))
end
@[simp] theorem oDictP_ap (ms : M (List D)) (r : En) : oDictP ms r = (ms r).bind fun ds => M.opt ((dictP ds).map fun kvs => RV.o (.t kvs)) := rfl
end Pu
namespace Pu
open PySem PySem.Spec PyProof.Rows L2
variable [TabT]
/-! ### f(.., x) that lends an owned x as the last value -/
section
variable {X : Cx} {c : Cc} {k n : Nat} {x : Str} {f : List Sl → Re RV} {e : Expr} {es : List Expr} {p pos : Pos} {ms : M (List D)}
def cCallZ (i : Nat) (f : List Sl → Re RV) (m1 m2 : M D) : M RV := fun r => match getC i r with
  | none => .no
  | some _ => (m1 r).bind fun d1 r => (m2 r).bind fun d2 r => match getC i r with
    | some ct => (match f [.v d1, .v d2, .io ct] with
      | .ok rv z => (match (z[2]? : Option Sl) with
        | some (Sl.io ct') => .ok rv (putC i ct' r)
        | _ => .no)
      | .ex e z => (match (z[2]? : Option Sl) with
        | some (Sl.io ct') => .ex e (putC i ct' r)
        | _ => .no)
      | .no => .no)
    | none => .no
/-! ### e in x, x data or a dict with tuple keys of one's own -/
noncomputable def eInX (i : Nat) (mk : M D) : M D := fun r => match getC i r with
  | some (.t _) => eInS i mk r
  | none => bin inD mk (getS i) r
  | _ => .no
end
@[simp] theorem eInX_ap (i : Nat) (mk : M D) (r : En) : eInX i mk r = (match getC i r with
  | some (.t _) => eInS i mk r
  | none => bin inD mk (getS i) r
  | _ => .no) := rfl
@[simp] theorem cCallZ_ap (i : Nat) (f : List Sl → Re RV) (m1 m2 : M D) (r : En) : cCallZ i f m1 m2 r = (match getC i r with
  | none => .no
  | some _ => (m1 r).bind fun d1 r => (m2 r).bind fun d2 r => match getC i r with
    | some ct => (match f [.v d1, .v d2, .io ct] with
      | .ok rv z => (match (z[2]? : Option Sl) with
        | some (Sl.io ct') => .ok rv (putC i ct' r)
        | _ => .no)
      | .ex e z => (match (z[2]? : Option Sl) with
        | some (Sl.io ct') => .ex e (putC i ct' r)
        | _ => .no)
      | .no => .no)
    | none => .no) := rfl
end Pu
namespace Pu
open PySem PySem.Spec PyProof.Rows L2
variable [TabT]
/-! ### any of a tuple of ints -/
section
variable {X : Cx} {c : Cc}
def anyAD : D → Option D
  | .list ds => (boolsOf ds).map fun bs => .bool (bs.any id)
  | .tuple ds => (intsOf ds).map fun ns => .bool (ns.any fun n => n != 0)
  | _ => none
end
@[simp] theorem anyAD_b (ds : List D) : anyAD (.list ds) = (boolsOf ds).map fun bs => .bool (bs.any id) := rfl
end Pu
namespace Pu
open PySem PySem.Spec PyProof.Rows L2
/-! ### max of a tuple of ints -/
end Pu
namespace Pu
open PySem PySem.Spec PyProof.Rows L2
/-! ### repr of tuples that hold {} -/
end Pu
namespace Pu
open PySem PySem.Spec PyProof.Rows L2
variable [TabT]
/-! ### lists with lists of one's own within -/
/-! ### for y in x[lo:hi]: .., the inner lists lent one by one -/
section
variable {K : PySem.W.Frag} {pa : Nat → Addr} {H0 F0 F H F' H' : Hp} {st st2 : L2.St} {r r2 : En}
open Classical in
/-- the frame while an inner list is lent: the outer list, the other inner lists stand -/
noncomputable def LdK (H0 H : Hp) (a b : Addr) (t : Nt) : Hp := fun x => if x = a ∨ (Inn H a (.n t) x ∧ x ≠ b) then H x else H0 x
omit [TabT] in
theorem LdK.at_ {a b x : Addr} {t : Nt} (h : x = a ∨ (Inn H a (.n t) x ∧ x ≠ b)) : LdK H0 H a b t x = H x := if_pos h
/-- a new object joins what must stand -/
theorem Ok.inL (k : Ok K pa H0 F0 F H st r) {L : Addr} {o : HO} (n : H L = none) : Ok K pa (upd H0 L o) F0 F (upd H L o) st r := by
  have kl := k.lay (o := o) n
  have nF := k.fH.nn n
  refine kl.frame ⟨fun a u z nt => ?_, fun a ps z => ?_⟩ (fun a z1 z2 => ?_) (fun j s c a h1 h2 h3 => ?_)
  · by_cases ha : a = L
    · subst ha
      rw [upd_same] at z ⊢
      exact z
    · rw [upd_ne ha] at z ⊢
      exact k.hH.at_ a u z nt
  · by_cases ha : a = L
    · subst ha
      rw [upd_same] at z ⊢
      exact ⟨#[], by rw [Array.append_empty]; exact z⟩
    · rw [upd_ne ha] at z ⊢
      exact k.hH.tb a ps z
  · by_cases ha : a = L
    · subst ha
      exact absurd nF z2
    · rw [upd_ne ha] at z1
      exact k.sep a z1 z2
  · obtain ⟨na, ni⟩ := k.nobody n j s c a h1 h2 h3
    obtain ⟨a', g1, g2, g3, g4⟩ := k.ownd h1 h2
    rw [h3] at g1
    cases g1
    rw [upd_ne na]
    refine ⟨g3, fun b hb => ?_⟩
    have hb' := hb.cg (upd_ne na).symm
    have nb : b ≠ L := fun z => ni (z ▸ hb')
    rw [upd_ne nb]
    exact (k.inn j s c a b h1 h2 h3 hb').2.1
end
/-! ### x[k1][k2] = e, within a list of lists of one's own -/
end Pu
namespace Pu
open PySem PySem.Spec PyProof.Rows L2
variable [TabT]
/-! ### an object of one's own that is no slot's, kept while something else is reckoned -/
open Classical in
noncomputable def FrN (H0 H : Hp) (a : Addr) (t : Nt) : Hp := fun x => if x = a ∨ Inn H a (.n t) x then H x else H0 x
omit [TabT] in
theorem FrN.at_ {H0 H : Hp} {a x : Addr} {t : Nt} (h : x = a ∨ Inn H a (.n t) x) : FrN H0 H a t x = H x := if_pos h
section
variable {K : PySem.W.Frag} {pa : Nat → Addr} {H0 F0 F H F' H' F2 H2 : Hp} {st st2 : L2.St} {r r2 : En} {a : Addr} {its : List Im}
/-- what is nobody's, behind a block -/
theorem Nob.back {is : List Nat} {q : En} (hn : noOwn r is = true) (h : Nob H (wipe st is) (wipeE q is) a) : Nob H st (backE r (wipeE q is) is) a := fun j s ct b hj hct hst => by
  rw [backE_get] at hj
  by_cases hji : j ∈ is
  · rw [if_pos hji] at hj
    split at hj
    · cases hj
      have hz := List.all_eq_true.mp hn j hji
      rw [List.getD_eq_getElem?_getD] at hct
      cases hr : r[j]? with
      | none =>
        rw [hr] at hz
        cases hz
      | some x =>
        rw [hr] at hz hct
        have hz : x.own.isNone = true := hz
        have hct : x.own = some ct := hct
        rw [hct] at hz
        cases hz
    · cases hj
  · rw [if_neg hji] at hj
    exact h j s ct b hj hct (by rw [wipe_get, if_neg hji]; exact hst)
end
/-! ### [e for x in xs], e a list of one's own -/
end Pu
namespace Pu
open PySem PySem.Spec PyProof.Rows L2
/-! ### repr(x), empty dicts within -/
end Pu
namespace Pu
open PySem PySem.Spec PyProof.Rows L2
end Pu
namespace Pu
open PySem PySem.Spec PyProof.Rows L2
variable [TabT]
/-! ### a frozen dict with whole numbers as keys -/
/-- what stands at i -/
def fdG : List (D × D) → Int → Option D
  | [], _ => none
  | (.int j, d) :: r, i => if j = i then some d else fdG r i
  | _ :: _, _ => none
def inKD : D → D → Option D
  | .int i, .dict (x :: r) => some (.bool (fdG (x :: r) i).isSome)
  | _, _ => none
section
variable {X : Cx} {c : Cc}
/-- is it a dict that numbers stand for -/
def isKD : D → Bool
  | .dict ((.int _, _) :: _) => true
  | _ => false
def inK (x d : D) : Option D := if isKD d = true then inKD x d else none
/-! ### for k in d, for k, v in d.items() -/
/-! ### an owned dict is frozen -/
/-! ### len of a frozen dict -/
end
end Pu
namespace Pu
open PySem PySem.Spec PyProof.Rows L2
/-! ### len(set(a list of tuples of whole numbers)) -/
end Pu
namespace Pu
open PySem PySem.Spec PyProof.Rows L2
/-! ### tuples within tuples, asked by a set -/
theorem nest_mem {h : Heap} : ∀ {ks : List NestedKey} {vs : List Value}, NestedAll h ks vs → ∀ v ∈ vs, ∃ k, NestedIs h k v ∧ k.depth ≤ NestedKey.depthAll ks
  | _, _, .nil, v, hv => nomatch hv
  | k :: ks, u :: us, .cons h1 h2, v, hv => by
    have e : NestedKey.depthAll (k :: ks) = max k.depth (NestedKey.depthAll ks) := by
      first
        | rfl
        | (unfold NestedKey.depthAll; rfl)
    rw [e]
    rcases List.mem_cons.mp hv with rfl | hv
    · exact ⟨k, h1, Nat.le_max_left ..⟩
    · obtain ⟨k2, a, b⟩ := nest_mem h2 v hv
      exact ⟨k2, a, Nat.le_trans b (Nat.le_max_right ..)⟩
section
variable {P : Program} {w : World}
theorem ofAClass_nest : ∀ (n : Nat) (k : NestedKey) (v : Value) (s : Shared), NestedIs s.heap k v → k.depth ≤ n → ∀ (A : Around) (E : Value → Shared → Prop) (Q : Bool → Shared → Prop), Q false s → wpAny (model P w) A (ofAClassStatement n v) Q E s
  | n, k, v, s, hk, hd, A, E, Q, h => by
    cases hk with
    | tup ho hc hdt ha =>
      rename_i o vs m ks a
      cases n with
      | zero =>
        exfalso
        simp only [NestedKey.depth] at hd
        omega
      | succ n =>
        have hT : s.TypeIs (.ref _) "tuple" := ⟨_, ho, hc⟩
        unfold ofAClassStatement
        refine wpAny_bind (wpAny_typeOf hT ?_)
        dsimp only
        have e : (("tuple" : String) == "tuple") = true := by decide
        simp only [e, if_true, Bool.not_true, Bool.false_eq_true, if_false]
        try refine wpAny_bind (wpAny_pure ?_)
        try simp only [Bool.not_true, Bool.false_eq_true, if_false]
        refine wpAny_bind (wpAny_seqItems ho hdt ?_)
        dsimp only
        refine wpAny_bind ?_
        rw [← Array.forIn_toList]
        refine wpAny_forIn_list _ (fun rest r s' => r.1 = none ∧ s' = s ∧ ∀ u ∈ rest, ∃ k2, NestedIs s.heap k2 u ∧ k2.depth ≤ n) _ ?_ ?_ _ _ ⟨rfl, rfl, fun u hu => ?_⟩
        · rintro u rest r s' ⟨hr, rfl, hall⟩
          obtain ⟨k2, g1, g2⟩ := hall u List.mem_cons_self
          refine wpAny_bind (ofAClass_nest n k2 u s' g1 g2 A E _ ?_)
          simp only [Bool.false_eq_true, if_false]
          exact wpAny_pure ⟨rfl, rfl, fun x hx => hall x (List.mem_cons_of_mem _ hx)⟩
        · rintro ⟨r1, r2⟩ s' ⟨hr, rfl, _⟩
          simp only at hr
          subst hr
          exact wpAny_pure h
        · obtain ⟨k2, g1, g2⟩ := nest_mem ha u (by simpa using hu)
          refine ⟨k2, g1, ?_⟩
          simp only [NestedKey.depth] at hd
          omega
    | _ =>
      cases n <;> exact wpAny_pure h
/-- no texts within -/
inductive NoTx : NestedKey → Prop
  | none : NoTx .none
  | num (i : Int) : NoTx (.num i)
  | tup {ks : List NestedKey} : (∀ k ∈ ks, NoTx k) → NoTx (.tup ks)
theorem nest_mem2 {h : Heap} : ∀ {ks : List NestedKey} {vs : List Value}, NestedAll h ks vs → ∀ v ∈ vs, ∃ k ∈ ks, NestedIs h k v ∧ k.depth ≤ NestedKey.depthAll ks
  | _, _, .nil, v, hv => nomatch hv
  | k :: ks, u :: us, .cons h1 h2, v, hv => by
    have e : NestedKey.depthAll (k :: ks) = max k.depth (NestedKey.depthAll ks) := by
      first
        | rfl
        | (unfold NestedKey.depthAll; rfl)
    rw [e]
    rcases List.mem_cons.mp hv with rfl | hv
    · exact ⟨k, List.mem_cons_self .., h1, Nat.le_max_left ..⟩
    · obtain ⟨k2, m, a, b⟩ := nest_mem2 h2 v hv
      exact ⟨k2, List.mem_cons_of_mem _ m, a, Nat.le_trans b (Nat.le_max_right ..)⟩
theorem hashBy_nest : ∀ (n : Nat) (k : NestedKey) (v : Value) (s : Shared), NestedIs s.heap k v → k.depth ≤ n → NoTx k → ∀ (A : Around) (E : Value → Shared → Prop) (Q : Bool → Shared → Prop), Q true s → wpAny (model P w) A (hashByValue n v) Q E s
  | n, k, v, s, hk, hd, ht, A, E, Q, h => by
    cases hk with
    | tup ho hc hdt ha =>
      rename_i o vs m ks a
      cases n with
      | zero =>
        exfalso
        simp only [NestedKey.depth] at hd
        omega
      | succ n =>
        have hT : s.TypeIs (.ref _) "tuple" := ⟨_, ho, hc⟩
        cases ht with
        | tup hts =>
          unfold hashByValue
          refine wpAny_bind (wpAny_specialOf hT F.slot_tuple_hash.lookup ?_)
          show wpAny _ _ (seqItems? (.ref _) >>= _) _ _ s
          refine wpAny_bind (wpAny_seqItems ho hdt ?_)
          refine wpAny_bind ?_
          show wpAny _ _ (forIn _ _ _) _ _ s
          rw [← Array.forIn_toList]
          refine wpAny_forIn_list _ (fun rest r s' => r.1 = none ∧ s' = s ∧ ∀ u ∈ rest, ∃ k2, NestedIs s.heap k2 u ∧ k2.depth ≤ n ∧ NoTx k2) _ ?_ ?_ _ _ ⟨rfl, rfl, fun u hu => ?_⟩
          · rintro u rest r s' ⟨hr, rfl, hall⟩
            obtain ⟨k2, g1, g2, g3⟩ := hall u List.mem_cons_self
            refine wpAny_bind (hashBy_nest n k2 u s' g1 g2 g3 A E _ ?_)
            simp only [Bool.not_true, Bool.false_eq_true, if_false]
            exact wpAny_pure ⟨rfl, rfl, fun x hx => hall x (List.mem_cons_of_mem _ hx)⟩
          · rintro ⟨r1, r2⟩ s' ⟨hr, rfl, _⟩
            simp only at hr
            subst hr
            exact wpAny_pure h
          · obtain ⟨k2, m2, g1, g2⟩ := nest_mem2 ha u (by simpa using hu)
            refine ⟨k2, g1, ?_, hts k2 m2⟩
            simp only [NestedKey.depth] at hd
            omega
    | text => cases ht
    | _ =>
      cases n <;> exact wpAny_pure h
/-- a search among such tuples shows nothing -/
theorem seen_nest {s : Shared} {k : NestedKey} {b : Addr} {A : Around} {E : Value → Shared → Prop} {Q : Bool → Shared → Prop} (hk : (nestedKind P w).is s.heap k b) {ys : List Value} (hy : ∀ y ∈ ys, ∃ k' c, y = Value.ref c ∧ (nestedKind P w).is s.heap k' c) (h : Q false s) :
    wpAny (model P w) A (searchCouldBeSeen (.ref b) ys) Q E s := by
  unfold searchCouldBeSeen
  refine wpAny_bind ?_
  refine wpAny_forIn_list _ (fun rest r s' => r.1 = none ∧ s' = s ∧ ∀ y ∈ rest, ∃ k' c, y = Value.ref c ∧ (nestedKind P w).is s.heap k' c) _ ?_ ?_ _ _ ⟨rfl, rfl, hy⟩
  · rintro v rest r s' ⟨hr, rfl, hall⟩
    obtain ⟨k', c, rfl, hc⟩ := hall v List.mem_cons_self
    have more : ∀ y ∈ rest, ∃ k' c, y = Value.ref c ∧ (nestedKind P w).is s'.heap k' c := fun u hu' => hall u (List.mem_cons_of_mem _ hu')
    dsimp only
    by_cases hv : (b == c || (carriedByValue (.ref b) && carriedByValue (.ref c))) = true
    · refine wp_if_pos hv ?_
      exact wpAny_pure ⟨rfl, rfl, more⟩
    · refine wp_if_neg hv ?_
      refine wpAny_bind ((nestedKind P w).quiet hk ?_)
      simp only [Bool.not_true, Bool.false_eq_true, if_false]
      refine wpAny_bind ((nestedKind P w).quiet hc ?_)
      simp only [Bool.not_true, Bool.false_eq_true, if_false]
      refine wpAny_bind (ofAClass_nest 8 k _ s' hk.1 hk.2 A E _ ?_)
      simp only [Bool.false_eq_true, if_false]
      refine wpAny_bind (ofAClass_nest 8 k' _ s' hc.1 hc.2 A E _ ?_)
      simp only [Bool.false_eq_true, if_false]
      exact wpAny_pure ⟨rfl, rfl, more⟩
  · rintro ⟨r1, r2⟩ s' ⟨hr, rfl, _⟩
    simp only at hr
    subst hr
    exact wpAny_pure h
end
end Pu
namespace Pu
open PySem PySem.Spec PyProof.Rows L2
/-! ### a set whose members are of one kind of key -/
section
variable {P : Program} {w : World}
/-- what a set wants of a kind of key beyond what a dict wants -/
structure Asked {K : Type} [DecidableEq K] (knd : HeapKind P w K) : Prop where
  seen : ∀ {A : Around} {E : Value → Shared → Prop} {s : Shared} {k : K} {b : Addr} {Q : Bool → Shared → Prop}, knd.is s.heap k b → ∀ {ys : List Value}, (∀ y ∈ ys, ∃ k' c, y = Value.ref c ∧ knd.is s.heap k' c) → Q false s → wpAny (model P w) A (searchCouldBeSeen (.ref b) ys) Q E s
  byv : ∀ {A : Around} {E : Value → Shared → Prop} {s : Shared} {k : K} {b : Addr} {Q : Bool → Shared → Prop}, knd.is s.heap k b → Q true s → wpAny (model P w) A (hashByValue 8 (.ref b)) Q E s
  stay : knd.Stays
theorem Asked.but {K : Type} [DecidableEq K] {knd : HeapKind P w K} (S : Asked knd) {h h' : Heap} {k : K} {a b : Addr} {o : Obj} {es : Array (Int × Value)} {ep : Nat} {t : SetTable} (hb : knd.is h k b) (ho : h.get? a = some o) (hd : o.data = .set es ep t) (hs : Heap.SameBut a h h') : knd.is h' k b :=
  S.stay.stays (fun c o' vs n hc hcd => by
    refine (hs.2 c fun e => ?_).trans hc
    subst e
    rw [ho] at hc
    cases hc
    rw [hd] at hcd
    exact nomatch hcd) hb
theorem Asked.keep {K : Type} [DecidableEq K] {knd : HeapKind P w K} (S : Asked knd) {h h' : Heap} {k : K} {b : Addr} (hb : knd.is h k b) (hk : ∀ c o, h.get? c = some o → h'.get? c = some o) : knd.is h' k b :=
  S.stay.stays (fun c o _ _ hc _ => hk c o hc) hb
/-- tuples within tuples, no texts -/
def noTxKind (P : Program) (w : World) : HeapKind P w NestedKey where
  is := fun h k a => (nestedKind P w).is h k a ∧ NoTx k
  hash := (nestedKind P w).hash
  draws := (nestedKind P w).draws
  room := (nestedKind P w).room
  inj := fun hx hy => (nestedKind P w).inj hx.1 hy.1
  keeps := fun x ho hd hs => ⟨(nestedKind P w).keeps x.1 ho hd hs, x.2⟩
  pyHash := fun hu hk h => (nestedKind P w).pyHash hu hk.1 h
  eqBool := fun hu hx hy h => (nestedKind P w).eqBool hu hx.1 hy.1 h
  quiet := fun hk h => (nestedKind P w).quiet hk.1 h
theorem noTx_asked : Asked (noTxKind P w) where
  seen := fun hk ys hy h => seen_nest hk.1 (fun y hm => let ⟨k', c, e, hc⟩ := hy y hm; ⟨k', c, e, hc.1⟩) h
  byv := fun hk h => hashBy_nest 8 _ _ _ hk.1.1 hk.1.2 hk.2 _ _ _ h
  stay := ⟨fun hk x => ⟨nestedKind_stays.stays hk x.1, x.2⟩, fun x => nestedKind_stays.tuple x.1⟩
section
variable {K : Type} [DecidableEq K] {knd : HeapKind P w K} {A : Around} {E : Value → Shared → Prop} {s : Shared}
def kRows (knd : HeapKind P w K) (L : List (Addr × K)) : List (Int × Value) := L.map fun p => (knd.hash p.2, Value.ref p.1)
theorem kRows_len (L : List (Addr × K)) : (kRows knd L).length = L.length := List.length_map ..
theorem kRows_at {L : List (Addr × K)} {i : Nat} {p : Addr × K} (h : L[i]? = some p) : (kRows knd L)[i]? = some (knd.hash p.2, Value.ref p.1) := by
  unfold kRows
  rw [List.getElem?_map, h]
  rfl
/-- at a stands a set of keys of the kind -/
structure SetK (knd : HeapKind P w K) (h : Heap) (a : Addr) (L : List (Addr × K)) (es : Array (Int × Value)) (ep : Nat) (t : SetTable) : Prop where
  ob : ∃ o, h.get? a = some o ∧ o.ExactSet ∧ o.data = .set es ep t
  rows : es.toList = kRows knd L
  tab : TabOk t (L.map fun p => knd.hash p.2)
  nd : (L.map (·.2)).Nodup
  key : ∀ p ∈ L, knd.is h p.2 p.1
  plain : t.plain = true
  led : w.params.followText "set-order" = true ∨ t.led = true
  room : L.length * 5 < t.mask * 3
  few : L.length < 77
variable {a : Addr} {L : List (Addr × K)} {es : Array (Int × Value)} {ep : Nat} {t : SetTable}
theorem SetK.size (R : SetK knd s.heap a L es ep t) : es.size = L.length := by
  rw [← Array.length_toList, R.rows, kRows_len]
theorem SetK.psz (R : SetK knd s.heap a L es ep t) : t.place.toList.length = L.length := by
  have := R.tab.sz
  rw [List.length_map] at this
  rw [Array.length_toList, this]
theorem fits_of {t : SetTable} {n : Nat} (hs : t.place.size = n) (hd : t.dummies = #[]) (hn : n ≤ t.mask) : t.fits n = true := by
  unfold SetTable.fits SetTable.fill
  rw [hd, Bool.and_eq_true, beq_iff_eq, decide_eq_true_eq]
  show t.place.size = n ∧ t.place.size + 0 ≤ t.mask
  omega
theorem SetK.fits (R : SetK knd s.heap a L es ep t) : t.fits es.size = true := by
  have h1 := R.psz
  rw [Array.length_toList] at h1
  have h3 := R.room
  exact fits_of (h1.trans R.size.symm) R.tab.dm (by rw [R.size]; omega)
theorem SetK.entry (R : SetK knd s.heap a L es ep t) {i : Nat} {p : Addr × K} (h : L[i]? = some p) : es[i]? = some (knd.hash p.2, Value.ref p.1) := by
  rw [← Array.getElem?_toList, R.rows, kRows_at h]
theorem SetK.gw (R : SetK knd s.heap a L es ep t) : ¬ t.gaveWay = true := by
  unfold SetTable.gaveWay
  rw [mask_odd R.tab.mok]
  decide
theorem nth_clean (m : Nat) : ∀ (n : Nat) (p : SetTable.Probe), p.dummy = none → (nth m p n).dummy = none
  | 0, _, h => h
  | n + 1, p, h => nth_clean m n (adv m p) (by unfold adv; split <;> exact h)
/-- the way's probe behind c steps -/
abbrev pb (m : Nat) (h : Int) (c : Nat) : SetTable.Probe := nth m (runAt m (SetTable.bits h % (m + 1)) (SetTable.bits h)) c
theorem pb_add (m : Nat) (h : Int) (c q : Nat) : nth m (pb m h c) q = pb m h (c + q) := (nth_add m c _ q).symm
theorem pb_way (m : Nat) (h : Int) (c q : Nat) : (nth m (pb m h c) q).j = way m h (c + q) := congrArg SetTable.Probe.j (pb_add m h c q)
/-- the search, from the c-th step of the way on -/
theorem seek_from (S : Asked knd) (R : SetK knd s.heap a L es ep t) {x : Addr} {k : K} (hx : knd.is s.heap k x) (hu : knd.room A) {n : Nat} (hnf : n < 10 * SetTable.turns t.mask)
    (hn : way t.mask (knd.hash k) n ∉ t.place.toList) (hb : ∀ c, c < n → way t.mask (knd.hash k) c ∈ t.place.toList) {Q : SetFound → Shared → Prop}
    (hin : k ∈ L.map (·.2) → Q (.there none) s) (hout : k ∉ L.map (·.2) → Q (.free (way t.mask (knd.hash k) n) false) s) :
    ∀ (f c : Nat) (st : Option SetTable.Probe), st.getD (t.probeStart (knd.hash k)) = pb t.mask (knd.hash k) c → c ≤ n → n - c < f →
      (∀ (i : Nat) p, L[i]? = some p → p.2 = k → ∃ c', c ≤ c' ∧ c' < n ∧ t.place.toList[i]? = some (way t.mask (knd.hash k) c')) →
      wpAny (model P w) A (setSearchFrom a (.ref x) (knd.hash k) true f st) Q E s := by
  obtain ⟨o, ho, hex, hd⟩ := R.ob
  have hashAt : ∀ (i : Nat) p, L[i]? = some p → (fun i => (es[i]?.map (·.1)).getD 0) i = knd.hash p.2 := fun i p hp => by
    show (es[i]?.map (·.1)).getD 0 = _
    rw [R.entry hp]
    rfl
  intro f
  induction f with
  | zero => intro c st _ _ hf _; exact absurd hf (Nat.not_lt_zero _)
  | succ f ih =>
    intro c st hst hc hf hre
    rw [setSearchFrom_succ]
    refine wpAny_bind (wpAny_setState_of ho hd R.fits ?_)
    dsimp only
    refine wp_if_neg R.gw ?_
    try refine wpAny_bind (wpAny_pure ?_)
    have spec := go_spec t R.tab.ris R.tab.dm (fun i => (es[i]?.map (·.1)).getD 0) (knd.hash k) (10 * SetTable.turns t.mask) (n - c) (pb t.mask (knd.hash k) c) (nth_clean _ _ _ rfl) (by omega)
      (fun q hq => by rw [pb_way]; exact hb (c + q) (by omega)) (by rw [pb_way, show c + (n - c) = n by omega]; exact hn)
    rcases spec with ⟨q, i, hq, hi, hh, hno, hpr⟩ | ⟨hno, hpr⟩
    · have hpr' : t.probe (fun i => (es[i]?.map (·.1)).getD 0) (knd.hash k) (st.getD (t.probeStart (knd.hash k))) = some (.candidate (way t.mask (knd.hash k) (c + q)) i (pb t.mask (knd.hash k) (c + (q + 1)))) := by
        rw [hst, ← pb_way, ← pb_add]
        exact hpr
      rw [hpr']
      dsimp only
      rw [pb_way] at hi
      have hil : i < L.length := R.psz ▸ (List.getElem?_eq_some_iff.mp hi).1
      obtain ⟨p, hp⟩ : ∃ p, L[i]? = some p := ⟨_, List.getElem?_eq_getElem hil⟩
      have hmem : p ∈ L := List.mem_of_getElem? hp
      have hsl : t.slot (way t.mask (knd.hash k) (c + q)) = .live i := slot_live R.tab.ris hi
      have rest : wpAny (model P w) A (searchRest a (.ref x) (knd.hash k) true f es t (way t.mask (knd.hash k) (c + q)) i (pb t.mask (knd.hash k) (c + (q + 1)))) Q E s := by
        unfold searchRest
        rw [R.entry hp]
        dsimp only
        refine wpAny_bind (wpAny_holding (knd.eqBool hu (R.key p hmem) hx ?_))
        refine wpAny_bind (wpAny_setState_of ho hd R.fits ?_)
        dsimp only
        by_cases hkk : p.2 = k
        · refine wp_if_pos (by simp [hkk]) ?_
          exact wpAny_pure (hin (List.mem_map.mpr ⟨p, hmem, hkk⟩))
        · refine wp_if_neg (by simp [hkk]) ?_
          try refine wpAny_bind (wpAny_pure ?_)
          rw [sameMem]
          dsimp only
          simp only [if_true, hsl, R.entry hp]
          refine wpAny_bind (wpAny_isSame_ref_self (wpAny_bind (wpAny_pure ?_)))
          simp only [if_true]
          refine wp_if_neg (by simp [hkk]) ?_
          refine ih (c + (q + 1)) _ rfl (by omega) (by omega) fun i0 p0 h0 hk0 => ?_
          obtain ⟨c', a1, a2, a3⟩ := hre i0 p0 h0 hk0
          refine ⟨c', Classical.byContradiction fun z => ?_, a2, a3⟩
          rcases Nat.lt_or_ge c' (c + q) with y | y
          · refine hno (c' - c) i0 (by omega) (by rw [pb_way, show c + (c' - c) = c' by omega]; exact a3) ?_
            exact (hashAt i0 p0 h0).trans (congrArg knd.hash hk0)
          · have ec : c' = c + q := by omega
            rw [ec] at a3
            have s0 := slot_live R.tab.ris a3
            rw [hsl] at s0
            injection s0 with s0
            rw [← s0, hp] at h0
            exact hkk ((congrArg Prod.snd (Option.some.inj h0)).trans hk0)
      by_cases hl : t.led = true
      · refine wp_if_neg (by simp [hl]) ?_
        try refine wpAny_bind (wpAny_pure ?_)
        exact rest
      · refine wp_if_pos (by simp [hl]) ?_
        refine wpAny_bind (S.seen hx (fun y hy => ?_) ?_)
        · obtain ⟨e, he, ee⟩ := List.mem_map.mp hy
          have he2 : e ∈ es.toList := by
            have : e ∈ es ∧ e.1 = knd.hash k := by simpa using he
            simpa using this.1
          rw [R.rows] at he2
          obtain ⟨p2, hp2, e2⟩ := List.mem_map.mp he2
          exact ⟨p2.2, p2.1, by rw [← ee, ← e2], R.key p2 hp2⟩
        · refine wp_if_neg (by decide) ?_
          try refine wpAny_bind (wpAny_pure ?_)
          exact rest
    · have hpr' : t.probe (fun i => (es[i]?.map (·.1)).getD 0) (knd.hash k) (st.getD (t.probeStart (knd.hash k))) = some (.empty (way t.mask (knd.hash k) n) none) := by
        have e2 : way t.mask (knd.hash k) n = (nth t.mask (pb t.mask (knd.hash k) c) (n - c)).j := by
          rw [pb_way, show c + (n - c) = n by omega]
        rw [hst, e2]
        exact hpr
      rw [hpr']
      dsimp only
      refine wpAny_pure (hout fun hm => ?_)
      obtain ⟨p0, h0, hk0⟩ := List.mem_map.mp hm
      obtain ⟨i0, hi0, e0⟩ := List.getElem_of_mem h0
      have h00 : L[i0]? = some p0 := by rw [List.getElem?_eq_getElem hi0, e0]
      obtain ⟨c', a1, a2, a3⟩ := hre i0 p0 h00 hk0
      refine hno (c' - c) i0 (by omega) (by rw [pb_way, show c + (c' - c) = c' by omega]; exact a3) ?_
      exact (hashAt i0 p0 h00).trans (congrArg knd.hash hk0)
theorem seek_at (S : Asked knd) (R : SetK knd s.heap a L es ep t) {x : Addr} {k : K} (hx : knd.is s.heap k x) (hu : knd.room A) {Q : SetFound → Shared → Prop}
    (hin : k ∈ L.map (·.2) → Q (.there none) s)
    (hout : ∀ n, k ∉ L.map (·.2) → way t.mask (knd.hash k) n ∉ t.place.toList → (∀ c, c < n → way t.mask (knd.hash k) c ∈ t.place.toList) → Q (.free (way t.mask (knd.hash k) n) false) s) :
    wpAny (model P w) A (setSearch a (.ref x) (knd.hash k) true) Q E s := by
  have hroom := R.room
  obtain ⟨n, hnf, hn, hb⟩ := R.tab.first (by rw [List.length_map]; omega) (knd.hash k)
  have hbig : n < 100000 := by
    have : 10 * SetTable.turns t.mask ≤ 1420 := by
      unfold SetTable.turns
      rcases R.tab.mok with e | e | e <;> omega
    omega
  unfold setSearch
  refine seek_from S R hx hu hnf hn hb hin (fun z => hout n z hn hb) 100000 0 none rfl (Nat.zero_le _) (by omega) fun i p hp hk => ?_
  have hi : (L.map fun p => knd.hash p.2)[i]? = some (knd.hash k) := by rw [List.getElem?_map, hp, ← hk]; rfl
  have hil : i < t.place.toList.length := R.psz ▸ (List.getElem?_eq_some_iff.mp hp).1
  have hj := List.getElem?_eq_getElem hil
  obtain ⟨c, hc, e⟩ := R.tab.before hn hi hj
  exact ⟨c, Nat.zero_le _, hc, by rw [hj, e]⟩
end
end
end Pu
namespace Pu
open PySem PySem.Spec PyProof.Rows L2
section
variable {P : Program} {w : World} {K : Type} [DecidableEq K] {knd : HeapKind P w K} {A : Around} {E : Value → Shared → Prop} {s : Shared}
theorem kRows_put (L : List (Addr × K)) (p : Nat) (x : Addr) (k : K) : kRows knd (L.take p ++ (x, k) :: L.drop p) = (kRows knd L).take p ++ (knd.hash k, Value.ref x) :: (kRows knd L).drop p := by
  unfold kRows
  rw [List.map_append, List.map_cons, List.map_take, List.map_drop]
theorem range_get {α : Type} (L : List α) : (List.range L.length).filterMap (fun i => L[i]?) = L := by
  induction L with
  | nil => rfl
  | cons x L ih =>
    rw [List.length_cons, List.range_succ_eq_map, List.filterMap_cons_some (show (fun i => (x :: L)[i]?) 0 = some x from rfl), List.filterMap_map]
    exact congrArg (x :: ·) ih
theorem kRows_get (L : List (Addr × K)) (es : Array (Int × Value)) (hr : es.toList = kRows knd L) : ∀ l : List Nat, (∀ i ∈ l, i < L.length) → l.filterMap (fun i => es[i]?) = kRows knd (l.filterMap fun i => L[i]?) ∧ ((l.filterMap fun i => L[i]?).map fun p => knd.hash p.2) = l.map fun i => (es.map (·.1)).getD i 0
  | [], _ => ⟨rfl, rfl⟩
  | i :: l, hl => by
    obtain ⟨p, hp⟩ : ∃ p, L[i]? = some p := ⟨_, List.getElem?_eq_getElem (hl i List.mem_cons_self)⟩
    have he : es[i]? = some (knd.hash p.2, Value.ref p.1) := by rw [← Array.getElem?_toList, hr, kRows_at hp]
    obtain ⟨e1, e2⟩ := kRows_get L es hr l fun j hj => hl j (List.mem_cons_of_mem _ hj)
    have e5 : (es.map (·.1))[i]? = some (knd.hash p.2) := by rw [Array.getElem?_map, he]; rfl
    have e4 : (es.map (·.1)).getD i 0 = knd.hash p.2 := by simp [Array.getD_eq_getD_getElem?, e5]
    rw [List.filterMap_cons_some he, List.filterMap_cons_some hp, e1, List.map_cons, e2, List.map_cons, e4]
    exact ⟨rfl, rfl⟩
theorem kRows_order (L : List (Addr × K)) (es : Array (Int × Value)) (order : Array Nat) (hr : es.toList = kRows knd L) (hp : order.toList.Perm (List.range L.length)) :
    ∃ L2, (order.filterMap (es[·]?)).toList = kRows knd L2 ∧ L2.Perm L ∧ (L2.map fun p => knd.hash p.2) = order.toList.map fun i => (es.map (·.1)).getD i 0 := by
  obtain ⟨e1, e2⟩ := kRows_get (knd := knd) L es hr order.toList fun i hi => List.mem_range.mp (hp.mem_iff.mp hi)
  refine ⟨_, by first | (rw [Array.toList_filterMap]; exact e1) | simpa using e1, ?_, e2⟩
  have h1 := hp.filterMap fun i => L[i]?
  rw [range_get] at h1
  exact h1
variable {a : Addr} {L : List (Addr × K)} {es : Array (Int × Value)} {ep : Nat} {t : SetTable}
/-- the table laid anew, larger -/
theorem relay_k (S : Asked knd) {o : Obj} (ho : s.heap.get? a = some o) (hex : o.ExactSet) (hd : o.data = .set es ep t) (hrows : es.toList = kRows knd L) (hsz : t.place.size = es.size) (hdm : t.dummies = #[]) (hfl : es.size ≤ t.mask)
    (nd : (L.map (·.2)).Nodup) (key : ∀ p ∈ L, knd.is s.heap p.2 p.1) (pl : t.plain = true) (ld : w.params.followText "set-order" = true ∨ t.led = true) (few : L.length < 77) {wanted M : Nat}
    (hw : SetTable.sizeAbove wanted - 1 = M) (hM : MaskOk M) (hw2 : SetTable.sizeAbove wanted ≤ 128) (hn : L.length * 5 < M * 3) {Q : Unit → Shared → Prop}
    (hQ : ∀ h' L' es' ep' t', Heap.SameBut a s.heap h' → SetK knd h' a L' es' ep' t' → L'.Perm L → Q () { s with heap := h' }) : wpAny (model P w) A (setRelay a wanted) Q E s := by
  have hsl : es.size = L.length := by rw [← Array.length_toList, hrows, kRows_len]
  obtain ⟨t', order, e, hp, T, em, el, ep', ed⟩ := relaid_ok t (hs := es.map (·.1)) (wanted := wanted) hw hM (by rw [Array.size_map, hsl]; omega)
  rw [Array.size_map, hsl] at hp
  obtain ⟨L2, r1, r2, r3⟩ := kRows_order L es order hrows hp
  rw [← r3] at T
  have hs2 : (order.filterMap (es[·]?)).size = es.size := by rw [← Array.length_toList, r1, kRows_len, r2.length_eq, hsl]
  rw [setRelay_eq]
  refine wpAny_bind (wpAny_setState_of ho hd (fits_of hsz hdm hfl) ?_)
  dsimp only
  refine wp_if_neg (by rw [sizeLine_eq]; omega) ?_
  try refine wpAny_bind (wpAny_pure ?_)
  rw [e]
  dsimp only
  refine wpAny_bind ?_
  refine wp_if_neg (by rw [hs2]; simp) ?_
  try refine wpAny_bind (wpAny_pure ?_)
  refine wpAny_pure ?_
  dsimp only
  refine wpAny_storeSet_of ho hd ?_ (by rw [hs2, hsl, sizeLine_eq]; omega)
  have sb : Heap.SameBut a s.heap (s.heap.update a (Obj.putSet (order.filterMap (es[·]?)) t')) := Heap.SameBut.update ..
  refine hQ _ L2 (order.filterMap (es[·]?)) (ep + 1) t' sb ?_ r2
  exact {
    ob := ⟨_, store_at ho hd, ⟨hex.1, hex.2.1, hex.2.2⟩, rfl⟩
    rows := r1
    tab := T
    nd := (r2.map (·.2)).nodup_iff.mpr nd
    key := fun p hpm => S.but (key p (r2.mem_iff.mp hpm)) ho hd sb
    plain := by rw [ep']; exact pl
    led := by rw [el]; exact ld
    room := by rw [r2.length_eq, em]; exact hn
    few := by rw [r2.length_eq]; exact few }
/-- adding -/
theorem add_k (S : Asked knd) (R : SetK knd s.heap a L es ep t) {x : Addr} {k : K} (hx : knd.is s.heap k x) (hu : knd.room A) (hfew : L.length + 1 < 77) {Q : Bool → Shared → Prop}
    (hQ : ∀ b h' L' es' ep' t', Heap.SameBut a s.heap h' → SetK knd h' a L' es' ep' t' → (k ∈ L.map (·.2) → L' = L) → (k ∉ L.map (·.2) → L'.Perm ((x, k) :: L)) → Q b { s with heap := h' }) :
    wpAny (model P w) A (setAddHashed a (.ref x) (knd.hash k)) Q E s := by
  obtain ⟨o, ho, hex, hd⟩ := R.ob
  have hsl := R.size
  have hroom := R.room
  unfold setAddHashed
  refine wpAny_holding ?_
  rw [show (100000 : Nat) = 99999 + 1 from rfl, setAddHashedIn_succ]
  refine wpAny_bind (wpAny_setState_of ho hd R.fits ?_)
  dsimp only
  refine wp_if_neg (by simp [byScan, Value.scannable]) ?_
  try refine wpAny_bind (wpAny_pure ?_)
  refine wpAny_bind (seek_at S R hx hu (fun hm => ?_) fun n hm hn hb => ?_)
  · dsimp only
    exact wpAny_pure (hQ false s.heap L es ep t (Heap.SameBut.refl a s.heap) R (fun _ => rfl) fun z => absurd hm z)
  · dsimp only
    refine wpAny_bind (wpAny_setState_of ho hd R.fits ?_)
    dsimp only
    obtain ⟨q1, q2, q3, q4, q5, q6, q7, q8, q9⟩ := R.tab.put hn hb
    have hp1 : (t.put (way t.mask (knd.hash k) n)).1.plain = true := by rw [q6]; exact R.plain
    generalize hpt : t.put (way t.mask (knd.hash k) n) = pt at q1 q3 q4 q5 q6 q7 q8 q9 hp1 ⊢
    obtain ⟨t1, p⟩ := pt
    dsimp only at q1 q3 q4 q5 q6 q7 q8 q9 hp1 ⊢
    subst q1
    first
      | (refine wpAny_bind ?_; refine wp_if_pos hp1 ?_; refine S.byv hx ?_)
      | refine wp_if_pos hp1 (wpAny_bind (S.byv hx ?_))
    simp only [if_true]
    have hin : (SetTable.insertAt es (SetTable.below t.place (way t.mask (knd.hash k) n)) (knd.hash k, Value.ref x)).toList = kRows knd (L.take (SetTable.below t.place (way t.mask (knd.hash k) n)) ++ (x, k) :: L.drop (SetTable.below t.place (way t.mask (knd.hash k) n))) := by
      rw [SetTable.toList_insertAt, kRows_put, R.rows]
    generalize hpp : SetTable.below t.place (way t.mask (knd.hash k) n) = p at q2 q3 hin ⊢
    have pm := put_perm L p (x, k)
    have hlen : (L.take p ++ (x, k) :: L.drop p).length = L.length + 1 := pm.length_eq
    have hhs : (L.take p ++ (x, k) :: L.drop p).map (fun p => knd.hash p.2) = (L.map fun p => knd.hash p.2).take p ++ knd.hash k :: (L.map fun p => knd.hash p.2).drop p := by
      rw [List.map_append, List.map_cons, List.map_take, List.map_drop]
    rw [← hhs] at q3
    have nd1 : ((L.take p ++ (x, k) :: L.drop p).map (·.2)).Nodup := (pm.map (·.2)).nodup_iff.mpr (List.nodup_cons.mpr ⟨hm, R.nd⟩)
    have hes : (SetTable.insertAt es p (knd.hash k, Value.ref x)).size = L.length + 1 := by rw [← Array.length_toList, hin, kRows_len, hlen]
    generalize SetTable.insertAt es p (knd.hash k, Value.ref x) = es1 at hin hes ⊢
    generalize L.take p ++ (x, k) :: L.drop p = L1 at pm hlen q3 nd1 hin
    refine wpAny_bind (wpAny_storeSet_of ho hd ?_ (by rw [hes, sizeLine_eq]; omega))
    have sb : Heap.SameBut a s.heap (s.heap.update a (Obj.putSet es1 t1)) := Heap.SameBut.update ..
    have ho1 := store_at (es' := es1) (t' := t1) ho hd
    generalize s.heap.update a (Obj.putSet es1 t1) = h1 at sb ho1 ⊢
    have key1 : ∀ p ∈ L1, knd.is h1 p.2 p.1 := fun p hp => by
      rcases List.mem_cons.mp (pm.mem_iff.mp hp) with e | hp
      · rw [e]; exact S.but hx ho hd sb
      · exact S.but (R.key p hp) ho hd sb
    have ld1 : w.params.followText "set-order" = true ∨ t1.led = true := by rw [q5]; exact R.led
    by_cases hf : t1.tooFull = true
    · first
        | (refine wpAny_bind ?_; refine wp_if_pos (by simp [hf]) ?_)
        | (refine wp_if_pos (by simp [hf]) ?_; refine wpAny_bind ?_)
      have hfull : (L.length + 1) * 5 ≥ t1.mask * 3 := by
        have h := hf
        unfold SetTable.tooFull at h
        rw [decide_eq_true_eq, q9, List.length_map] at h
        exact h
      rw [hsl]
      have hsz1 : t1.place.size = es1.size := by
        have h := q3.sz
        rw [List.length_map, hlen] at h
        rw [h, hes]
      have two : (t.mask = 7 ∧ L.length = 4) ∨ (t.mask = 31 ∧ L.length = 18) := by
        rcases R.tab.mok with e | e | e
        · left; rw [q4, e] at hfull; rw [e] at hroom; exact ⟨e, by omega⟩
        · right; rw [q4, e] at hfull; rw [e] at hroom; exact ⟨e, by omega⟩
        · exfalso; rw [q4, e] at hfull; omega
      have go : ∀ M, SetTable.sizeAbove (SetTable.grown (L.length + 1)) - 1 = M → MaskOk M → SetTable.sizeAbove (SetTable.grown (L.length + 1)) ≤ 128 → (L.length + 1) * 5 < M * 3 →
          wpAny (model P w) A (setRelay a (SetTable.grown (L.length + 1))) (fun _ s' => wpAny (model P w) A (pure true) Q E s') E { s with heap := h1 } := fun M h1' h2' h3' h4' => by
        refine relay_k S (s := { s with heap := h1 }) ho1 ⟨hex.1, hex.2.1, hex.2.2⟩ rfl hin hsz1 q3.dm (by rw [hes, q4]; rcases two with ⟨e, e2⟩ | ⟨e, e2⟩ <;> omega) nd1 key1 hp1 ld1 (by rw [hlen]; exact hfew) h1' h2' h3' (by rw [hlen]; exact h4') ?_
        intro h2 L2 es2 ep2 t2 sb2 R2 pm2
        exact wpAny_pure (hQ true h2 L2 es2 ep2 t2 (sb.trans sb2) R2 (fun z => absurd z hm) fun _ => pm2.trans pm)
      rcases two with ⟨_, e2⟩ | ⟨_, e2⟩
      · exact go 31 (by rw [e2, size_20]) (.inr (.inl rfl)) (by rw [e2, size_20]; decide) (by omega)
      · exact go 127 (by rw [e2, size_76]) (.inr (.inr rfl)) (by rw [e2, size_76]; decide) (by omega)
    · first
        | refine wp_if_neg (by simp [hf]) ?_
        | (refine wpAny_bind ?_; refine wp_if_neg (by simp [hf]) ?_; refine wpAny_pure ?_)
      refine wpAny_pure (hQ true h1 L1 es1 (ep + 1) t1 sb ?_ (fun z => absurd z hm) fun _ => pm)
      exact {
        ob := ⟨_, ho1, ⟨hex.1, hex.2.1, hex.2.2⟩, rfl⟩
        rows := hin
        tab := q3
        nd := nd1
        key := key1
        plain := hp1
        led := ld1
        room := by
          have h := hf
          unfold SetTable.tooFull at h
          rw [decide_eq_true_eq, q9, List.length_map] at h
          rw [hlen]
          omega
        few := by rw [hlen]; exact hfew }
/-- what the set has got of the first i items -/
structure Has (ks : List (Addr × K)) (i : Nat) (L : List (Addr × K)) : Prop where
  sub : ∀ p ∈ L, p ∈ ks.take i
  all : ∀ p ∈ ks.take i, p.2 ∈ L.map (·.2)
  len : L.length ≤ i
theorem Has.zero (ks : List (Addr × K)) : Has ks 0 [] := ⟨fun p h => (by cases h), fun p h => (by simp at h), Nat.le_refl _⟩
theorem Has.step {ks L L' : List (Addr × K)} {i : Nat} {x : Addr × K} (g : Has ks i L) (h : ks[i]? = some x) (c1 : x.2 ∈ L.map (·.2) → L' = L) (c2 : x.2 ∉ L.map (·.2) → L'.Perm (x :: L)) : Has ks (i + 1) L' := by
  by_cases hm : x.2 ∈ L.map (·.2)
  · rw [c1 hm]
    refine ⟨fun p hp => ?_, fun p hp => ?_, Nat.le_succ_of_le g.len⟩
    · rw [take_next h]
      exact List.mem_append_left _ (g.sub p hp)
    · rw [take_next h] at hp
      rcases List.mem_append.mp hp with z | z
      · exact g.all p z
      · rw [List.mem_singleton.mp z]; exact hm
  · have pm := c2 hm
    refine ⟨fun p hp => ?_, fun p hp => ?_, ?_⟩
    · rw [take_next h]
      rcases List.mem_cons.mp (pm.mem_iff.mp hp) with e | z
      · rw [e]; exact List.mem_append_right _ (List.mem_singleton.mpr rfl)
      · exact List.mem_append_left _ (g.sub p z)
    · rw [(pm.map (·.2)).mem_iff, List.map_cons]
      rw [take_next h] at hp
      rcases List.mem_append.mp hp with z | z
      · exact List.mem_cons_of_mem _ (g.all p z)
      · rw [List.mem_singleton.mp z]; exact List.mem_cons_self
    · rw [pm.length_eq, List.length_cons]
      exact Nat.succ_le_succ g.len
theorem SetK.keep {h h' : Heap} (R : SetK knd h a L es ep t) (ha : ∀ o, h.get? a = some o → h'.get? a = some o) (ht : ∀ p ∈ L, knd.is h' p.2 p.1) : SetK knd h' a L es ep t := by
  obtain ⟨o, ho, r⟩ := R.ob
  exact { ob := ⟨o, ha o ho, r⟩, rows := R.rows, tab := R.tab, nd := R.nd, key := ht, plain := R.plain, led := R.led, room := R.room, few := R.few }
theorem setK_new {h : Heap} {a : Addr} (ho : h.get? a = some { cls := .type "set", dict := none, data := .set #[] 0 (.fresh 0 0 (!w.params.followText "set-order")) }) : SetK knd h a [] #[] 0 (.fresh 0 0 (!w.params.followText "set-order")) where
  ob := ⟨_, ho, ⟨rfl, rfl, rfl⟩, rfl⟩
  rows := rfl
  tab := ⟨List.Pairwise.nil, rfl, rfl, .inl rfl, fun x hx => (by cases hx), fun i h j hi => (by simp at hi)⟩
  nd := List.nodup_nil
  key := fun p hp => (by cases hp)
  plain := rfl
  led := by
    show _ ∨ (!w.params.followText "set-order") = true
    cases w.params.followText "set-order"
    · exact .inr rfl
    · exact .inl rfl
  room := by
    show 0 * 5 < 7 * 3
    decide
  few := by
    show 0 < 77
    decide
end
end Pu
namespace Pu
open PySem PySem.Spec PyProof.Rows L2
section
variable {P : Program} {w : World} {K : Type} [DecidableEq K] {knd : HeapKind P w K} {A : Around} {E : Value → Shared → Prop} {s : Shared}
/-- the loop of a set's update -/
theorem update_k (S : Asked knd) {I : Addr} {fp wr : List Addr} {G : Array GenState → Array GenState → Prop} {n : Nat} {Pv : Nat → Value → Prop} {St : Nat → Shared → Prop} {R : Result → Shared → Prop}
    (W : WalksS P w A.in1 I fp wr G n Pv St) (a : Addr) (haf : a ∉ fp) (ks : List (Addr × K)) (hn : n = ks.length) (hfew : ks.length < 77) (hval : ∀ i v, Pv i v → ∃ p, ks[i]? = some p ∧ v = .ref p.1)
    (h0 : Heap) (hk : ∀ p ∈ ks, knd.is h0 p.2 p.1) (ha0 : h0.get? a = none) (hw0 : ∀ b ∈ wr, h0.get? b = none) (hu : knd.room A.in1) :
    ∀ (k i : Nat) (s : Shared), n - i = k → i ≤ n → St i s → (∀ b o, h0.get? b = some o → s.heap.get? b = some o) → (∃ L es ep t, SetK knd s.heap a L es ep t ∧ Has ks i L) →
      (∀ s' L es ep t, Moved (a :: wr) G s s' → SetK knd s'.heap a L es ep t → Has ks n L → (∀ b o, h0.get? b = some o → s'.heap.get? b = some o) → R (.ok (.ret .none)) s') →
      codeAny (model P w) A (.builtin "set.update.loop" ⟨[.ref a, .ref I], []⟩) R s := by
  have haw : a ∉ wr := fun h => haf (W.sub _ h)
  have hsub : ∀ b ∈ wr, b ∈ a :: wr := fun b hb => List.mem_cons_of_mem _ hb
  have stays : ∀ {s s' : Shared}, Moved wr G s s' → (∀ b o, h0.get? b = some o → s.heap.get? b = some o) → ∀ b o, h0.get? b = some o → s'.heap.get? b = some o := fun hm hkp b o e =>
    hm.heap b o (fun hb => by rw [hw0 b hb] at e; cases e) (hkp b o e)
  intro k
  induction k with
  | zero =>
    intro i s hk' hi hst hkp ⟨L, es, ep, t, hS, g⟩ hR
    have hin : i = n := by omega
    subst hin
    refine codeAny_builtin F.entry_set_update_loop ?_
    rw [Around.under_plainId F.plain_set_update_loop _]
    show wpAny _ A.in1 (pyNext (.ref I) >>= _) _ _ s
    refine wpAny_bind (W.done s _ _ hst fun s' hm => ?_)
    show wpAny _ A.in1 (ret Value.none) _ _ s'
    have hkp' := stays hm hkp
    exact wpAny_pure (hR s' L es ep t (hm.mono hsub) (hS.keep (fun o e => hm.heap a o haw e) fun p hp => S.keep (hk p (List.mem_of_mem_take (g.sub p hp))) hkp') g hkp')
  | succ k ih =>
    intro i s hk' hi hst hkp ⟨L, es, ep, t, hS, g⟩ hR
    have hlt : i < n := by omega
    refine codeAny_builtin F.entry_set_update_loop ?_
    rw [Around.under_plainId F.plain_set_update_loop _]
    show wpAny _ A.in1 (pyNext (.ref I) >>= _) _ _ s
    refine wpAny_bind (W.item i s _ _ hlt hst fun v s' hP hst' hm => ?_)
    obtain ⟨p, hp, rfl⟩ := hval i v hP
    have hkp' := stays hm hkp
    have hS' : SetK knd s'.heap a L es ep t := hS.keep (fun o e => hm.heap a o haw e) fun q hq => S.keep (hk q (List.mem_of_mem_take (g.sub q hq))) hkp'
    have hx : knd.is s'.heap p.2 p.1 := S.keep (hk p (List.mem_of_getElem? hp)) hkp'
    show wpAny _ A.in1 (holding [Value.ref p.1] (setAdd a (.ref p.1)) >>= _) _ _ s'
    refine wpAny_bind (wpAny_holding ?_)
    unfold setAdd
    refine wpAny_holding ?_
    refine wpAny_bind (knd.pyHash hu hx ?_)
    refine add_k (s := { s' with toks := s'.toks + knd.draws p.2 }) S hS' hx hu (by have := g.len; omega) fun b h' L' es' ep' t' hsb hS2 c1 c2 => ?_
    have g' : Has ks (i + 1) L' := g.step hp c1 c2
    have hkp2 : ∀ b o, h0.get? b = some o → h'.get? b = some o := fun b o e => (hsb.2 b (fun z => by rw [z, ha0] at e; cases e)).trans (hkp' b o e)
    refine wpAny_pure ⟨plainId_quiet F.plain_set_update_loop _, ih (i + 1) _ (by omega) hlt (W.frame _ s' _ _ hst' (Nat.le_add_right _ _) fun b hb o e => ?_) hkp2 ⟨L', es', ep', t', hS2, g'⟩ fun s'' L2 es2 ep2 t2 hm'' hS'' g'' hkp'' => ?_⟩
    · rw [hsb.2 b (fun h : b = a => haf (by rw [← h]; exact hb))]; exact e
    · refine hR s'' L2 es2 ep2 t2 (Moved.trans W.gtrans ((hm.mono hsub).then_heap (Nat.le_add_right _ _) fun b o hb e => ?_) hm'') hS'' g'' hkp''
      rw [hsb.2 b (fun h : b = a => hb (by rw [h]; exact List.mem_cons_self))]; exact e
/-- the object of a new set -/
abbrev newSet (w : World) : Obj := { cls := .type "set", dict := none, data := .set #[] 0 (.fresh 0 0 (!w.params.followText "set-order")) }
/-- set(xs) of a list of keys -/
theorem call_set_k (S : Asked knd) {l : Addr} {items : Array Value} (ks : List (Addr × K)) {Q : Value → Shared → Prop} (hh : A.handled = none) (hl : s.heap.IsList l items) (hit : items.toList = ks.map fun p => Value.ref p.1)
    (hk : ∀ p ∈ ks, knd.is s.heap p.2 p.1) (hfew : ks.length < 77) (hu : ∀ B : Around, B.units ≤ A.units + 8 → knd.room B)
    (h : ∀ (h' : Heap) (tk : Nat) L es ep t, SetK knd h' s.heap.objs.size L es ep t → Has ks ks.length L → (∀ b o, s.heap.get? b = some o → h'.get? b = some o) → Q (.ref s.heap.objs.size) { s with heap := h', toks := tk }) :
    wpAny (model P w) A (call (.type "set") [.ref l]) Q E s := by
  have hisz : items.size = ks.length := by rw [← Array.length_toList, hit, List.length_map]
  obtain ⟨c, tl, hmro⟩ := F.called_set.mro
  have hmade := F.called_set.made
  have hsub := F.called_set.sub
  refine wpAny_call (codeAny_of_tree ?_)
  show wpAny _ _ (callAny (.type "set") _) _ _ _
  refine wpAny_pure ⟨Code.quiet_builtin _ (by decide +kernel), codeAny_builtin F.entry_type_call ?_⟩
  rw [Around.under_plain (weight_type_call_type "set" [.ref l] []) rfl]
  have h1 := F.called_set.notType
  have h2 := F.called_set.canCreate
  have hct := F.typeCall_set_1 (.ref l)
  repeat (any_goals (first | assumption | wp_step))
  refine codeAny_mono (code_set_led1 (.ref l) (E := E) (Q₁ := fun obj s₁ => obj = .ref s.heap.objs.size ∧ s₁ = { s with heap := s.heap.push (newSet w) }) ⟨rfl, rfl⟩) fun r s₁ hr => ?_
  cases r with
  | error e => exact hr
  | ok fl =>
    cases fl with
    | ret obj =>
      obtain ⟨rfl, rfl⟩ := hr
      have hS : (s.heap.push (newSet w)).get? s.heap.objs.size = some (newSet w) := Heap.get?_push_size _ rfl
      have hT : Shared.TypeIs { s with heap := s.heap.push (newSet w) } (.ref s.heap.objs.size) "set" := ⟨_, hS, rfl⟩
      have hli := F.called_set.init.lookup
      have hbi := F.called_set.init.bind (.ref s.heap.objs.size)
      repeat (any_goals (first | assumption | wp_step))
      refine codeAny_mono (codeAny_call_builtin (R := wants (fun r s₂ => r = .none ∧ ∃ h' tk L es ep t, s₂ = { s with heap := h', toks := tk } ∧ SetK knd h' s.heap.objs.size L es ep t ∧ Has ks ks.length L ∧
          (∀ b o, s.heap.get? b = some o → h'.get? b = some o)) E) F.called_set.init.plain F.entry_set_init (check_set_init_1 hT ?_)) fun r₂ s₂ hr₂ => ?_
      · obtain ⟨ol, hol, hcl, nl, hdl⟩ := hl
        obtain ⟨ocls, odict, odata, oslots⟩ := ol
        simp only at hcl hdl
        subst hcl; subst hdl
        have hol' : (s.heap.push (newSet w)).get? l = some { cls := .type "list", dict := odict, data := .seq items nl, slots := oslots } := Heap.get?_push_of_some _ hol
        have hsls := F.sub_list_set
        have hslf := F.sub_list_frozenset
        have hne : (Value.type "list" == Value.type "dict") = false := by decide
        have hl1 : (s.heap.push (newSet w)).IsList l items := ⟨_, hol', rfl, nl, rfl⟩
        unfold Builtin.«set.__init__» noKeywords Builtin.Frozenset.updateFrom
        generalize hPI : pyIter = PI
        wp_walk
        subst hPI
        refine wpAny_pyIter_list hl1 ?_
        refine wpAny_bind (wpAny_runValue ?_)
        have hlS : l < s.heap.objs.size := Heap.lt_size hol
        have hh3 : A.in1.in1.in1.handled = none := by simp [hh]
        have hneI : l ≠ (s.heap.push (newSet w)).objs.size := by
          rw [Heap.size_push]; exact Nat.ne_of_lt (Nat.lt_succ_of_lt hlS)
        have hSf : s.heap.objs.size ∉ [(s.heap.push (newSet w)).objs.size, l] := by
          rw [Heap.size_push]; simp only [List.mem_cons, List.mem_singleton, List.not_mem_nil, or_false, not_or]
          exact ⟨Nat.ne_of_lt (Nat.lt_succ_self _), Nat.ne_of_gt hlS⟩
        have hval : ∀ (i : Nat) (v : Value), items[i]? = some v → ∃ p, ks[i]? = some p ∧ v = .ref p.1 := fun i v hv => by
          have q : items.toList[i]? = some v := by rw [Array.getElem?_toList]; exact hv
          rw [hit, List.getElem?_map] at q
          cases hq : ks[i]? with
          | none => rw [hq] at q; cases q
          | some p =>
            rw [hq] at q
            exact ⟨p, rfl, (Option.some.inj q).symm⟩
        have none_of : ∀ b, s.heap.objs.size ≤ b → s.heap.get? b = none := fun b hb => by
          cases q : s.heap.get? b with
          | none => rfl
          | some o => exact absurd (Nat.lt_of_lt_of_le (Heap.lt_size q) hb) (Nat.lt_irrefl _)
        refine update_k S ((Walks.list hh3 _ l hneI items).toS) s.heap.objs.size
          hSf ks hisz hfew hval s.heap hk (none_of _ (Nat.le_refl _)) (fun b hb => none_of b (by
            rw [List.mem_singleton.mp hb, Heap.size_push]
            exact Nat.le_succ _)) (hu _ (by simp only [Around.in1_units]; omega)) (items.size - 0) 0 _ (by omega) (Nat.zero_le _)
          ⟨⟨_, Heap.get?_push_size _ rfl, rfl, rfl⟩, (hl1.push _)⟩ (fun b o e => Heap.get?_push_of_some _ (Heap.get?_push_of_some _ e)) ?hS0 ?hR
        case hS0 =>
          have hget : ((s.heap.push (newSet w)).push { cls := .type "list_iterator", data := .fields #[.ref l, .int 0 0] }).get? s.heap.objs.size = some (newSet w) := Heap.get?_push_of_some _ hS
          exact ⟨[], #[], 0, _, setK_new hget, Has.zero ks⟩
        case hR =>
          intro s' L es ep t hm hS' g' hkp
          obtain ⟨h', g2, d', tk', os'⟩ := s'
          have eg : g2 = s.gens := hm.gens
          have ed : d' = s.drawn := hm.drawn
          have eo : os' = s.os := hm.os
          subst eg; subst ed; subst eo
          show wpAny _ _ _ _ _ _
          refine wpAny_pure ?_
          show wpAny _ _ (ret Value.none) _ _ _
          rw [hisz] at g'
          exact wpAny_pure ⟨rfl, h', tk', L, es, ep, t, rfl, hS', g', hkp⟩
      · cases r₂ with
        | error e => exact hr₂
        | ok fl₂ =>
          cases fl₂ with
          | ret r =>
            obtain ⟨rfl, h', tk, L, es, ep, t, rfl, hS', g', hk'⟩ := hr₂
            repeat (any_goals (first | assumption | wp_step))
            exact h _ _ _ _ _ _ hS' g' hk'
          | _ => exact hr₂.elim
    | _ => exact hr.elim
end
end Pu
namespace Pu
open PySem PySem.Spec PyProof.Rows L2
/-! ### len(set(a list of tuples within tuples)) -/
section
variable {α : Type} [DecidableEq α]
def dedG : List α → List α
  | [] => []
  | x :: xs => if x ∈ xs then dedG xs else x :: dedG xs
theorem dedG_mem : ∀ (xs : List α) (y : α), y ∈ dedG xs ↔ y ∈ xs
  | [], _ => Iff.rfl
  | x :: xs, y => by
    unfold dedG
    split
    · rename_i h
      rw [dedG_mem xs y, List.mem_cons]
      exact ⟨.inr, fun z => z.elim (fun e => e ▸ h) id⟩
    · rw [List.mem_cons, List.mem_cons, dedG_mem xs y]
theorem dedG_nd : ∀ xs : List α, (dedG xs).Nodup
  | [] => List.Pairwise.nil
  | x :: xs => by
    unfold dedG
    split
    · exact dedG_nd xs
    · rename_i h
      exact List.nodup_cons.mpr ⟨fun z => h ((dedG_mem xs x).mp z), dedG_nd xs⟩
theorem dedG_of {xs l : List α} (nd : l.Nodup) (h : ∀ k, k ∈ l ↔ k ∈ xs) : l.length = (dedG xs).length :=
  ((List.perm_ext_iff_of_nodup nd (dedG_nd xs)).mpr fun k => (h k).trans (dedG_mem xs k).symm).length_eq
theorem dedG_self : ∀ {xs : List α}, xs.Nodup → dedG xs = xs
  | [], _ => rfl
  | x :: xs, h => by
    obtain ⟨h1, h2⟩ := List.nodup_cons.mp h
    unfold dedG
    rw [if_neg h1, dedG_self h2]
end
mutual
/-- data of whole numbers and tuples as a key -/
def nestD : D → Option NestedKey
  | .none => some .none
  | .int i => some (.num i)
  | .tuple ds => (nestDs ds).map .tup
  | _ => none
def nestDs : List D → Option (List NestedKey)
  | [] => some []
  | d :: ds => match nestD d, nestDs ds with
    | some k, some ks => some (k :: ks)
    | _, _ => none
end
mutual
theorem nestD_data : ∀ {d : D} {k : NestedKey}, nestD d = some k → k.data = d ∧ NoTx k
  | .none, _, h => by cases h; exact ⟨rfl, .none⟩
  | .int i, _, h => by cases h; exact ⟨rfl, .num i⟩
  | .tuple ds, k, h => by
    have h : (nestDs ds).map .tup = some k := h
    cases e : nestDs ds with
    | none => rw [e] at h; cases h
    | some ks =>
      rw [e] at h
      cases h
      obtain ⟨a, b⟩ := nestDs_data e
      exact ⟨congrArg PyData.tuple a, .tup b⟩
  | .bool _, _, h => by cases h
  | .str _, _, h => by cases h
  | .list _, _, h => by cases h
  | .dict _, _, h => by cases h
theorem nestDs_data : ∀ {ds : List D} {ks : List NestedKey}, nestDs ds = some ks → NestedKey.datas ks = ds ∧ ∀ k ∈ ks, NoTx k
  | [], _, h => by cases h; exact ⟨rfl, fun _ z => nomatch z⟩
  | d :: ds, ks, h => by
    unfold nestDs at h
    cases e1 : nestD d with
    | none => rw [e1] at h; cases h
    | some k =>
      cases e2 : nestDs ds with
      | none => rw [e1, e2] at h; cases h
      | some ks2 =>
        rw [e1, e2] at h
        cases h
        obtain ⟨a, b⟩ := nestD_data e1
        obtain ⟨c, f⟩ := nestDs_data e2
        refine ⟨?_, fun y hy => ?_⟩
        · show k.data :: NestedKey.datas ks2 = _
          rw [a, c]
        · rcases List.mem_cons.mp hy with rfl | hy
          · exact b
          · exact f y hy
end
section
variable [TabT]
variable {X : Cx} {pins : List (Addr × Obj)} {σ : L2.St} {H : Hp} {s : Shared}
mutual
theorem nest_of (I : Inv X pins σ H s) : ∀ {v : V} {d : D} {k : NestedKey} {u : Value}, Rp X.K H v d → nestD d = some k → RelV v u → NestedIs s.heap k u
  | _, _, _, _, .non, e, r => by cases e; cases r; exact .none
  | _, _, _, _, .int i, e, r => by cases e; obtain ⟨t, rfl⟩ := r; exact .int i t
  | _, _, k, _, @Rp.tup _ _ a xs ds h1 h2, e, r => by
    have e : (nestDs ds).map .tup = some k := e
    cases e2 : nestDs ds with
    | none => rw [e2] at e; cases e
    | some ks =>
      rw [e2] at e
      cases e
      cases r
      obtain ⟨its, rr, ⟨o, ho, hc, n, hd⟩, _⟩ := I.tuple h1.s
      exact .tup ho hc hd (nest_ofs I h2 e2 (by simpa using rr))
  | _, _, _, _, .bl _, e, _ => by cases e
  | _, _, _, _, .str _, e, _ => by cases e
  | _, _, _, _, .lst _ _, e, _ => by cases e
  | _, _, _, _, .emp _, e, _ => by cases e
  | _, _, _, _, .exc0 _ _, e, _ => by cases e
  | _, _, _, _, .excF _ _ _ _ _, e, _ => by cases e
  | _, _, _, _, .dci _ _ _ _ _, e, _ => by cases e
theorem nest_ofs (I : Inv X pins σ H s) : ∀ {vs : List V} {ds : List D} {ks : List NestedKey} {us : List Value}, RpAll X.K H vs ds → nestDs ds = some ks → Vals vs us → NestedAll s.heap ks us
  | _, _, _, _, .nil, e, .nil => by cases e; exact .nil
  | _, _, _, _, @RpAll.cons _ _ v vs d ds h1 h2, e, .cons r t => by
    unfold nestDs at e
    cases e1 : nestD d with
    | none => rw [e1] at e; cases e
    | some k =>
      cases e2 : nestDs ds with
      | none => rw [e1, e2] at e; cases e
      | some ks2 =>
        rw [e1, e2] at e
        cases e
        exact .cons (nest_of I h1 e1 r) (nest_ofs I h2 e2 t)
end
end
def tupK : NestedKey → Bool
  | .tup ks => decide (NestedKey.depthAll ks < 8)
  | _ => false
/-- how many unlike ones -/
def lsetND : D → Option D
  | .list ds => match nestDs ds with
    | some ks => if ks.length < 77 ∧ ks.all tupK = true then some (.int ((dedG ks).length : Nat)) else none
    | none => none
  | _ => none
def tLenSetN (K : PySem.W.Frag) (ta : TE) : TE := fun σ H Q => ta σ H fun x H1 => ∃ (l : Addr) (vs : List V) (ds : List D) (ks : List NestedKey), x = .ref l ∧ SqL K H1 l vs ∧ RpAll K H1 vs ds ∧ nestDs ds = some ks ∧ ks.length < 77 ∧ ks.all tupK = true ∧ Q (.int ((dedG ks).length : Nat)) H1
theorem refs_nest {h : Heap} : ∀ {ks : List NestedKey} {us : List Value}, NestedAll h ks us → ks.all tupK = true → (∀ k ∈ ks, NoTx k) → ∃ ps : List (Addr × NestedKey), us = ps.map (fun p => Value.ref p.1) ∧ ks = ps.map (·.2) ∧ ∀ p ∈ ps, (NestedIs h p.2 (.ref p.1) ∧ p.2.depth ≤ 8) ∧ NoTx p.2
  | _, _, .nil, _, _ => ⟨[], rfl, rfl, fun _ z => nomatch z⟩
  | k :: ks, u :: us, .cons h1 h2, ha, hn => by
    rw [List.all_cons, Bool.and_eq_true] at ha
    obtain ⟨ps, e1, e2, e3⟩ := refs_nest h2 ha.2 fun y hy => hn y (List.mem_cons_of_mem _ hy)
    cases h1 with
    | @tup a o vs n kk g1 g2 g3 g4 =>
      refine ⟨(a, .tup kk) :: ps, by rw [e1]; rfl, by rw [e2]; rfl, fun p hp => ?_⟩
      rcases List.mem_cons.mp hp with rfl | hp
      · have hd : NestedKey.depthAll kk < 8 := of_decide_eq_true ha.1
        refine ⟨⟨.tup g1 g2 g3 g4, ?_⟩, hn _ (List.mem_cons_self ..)⟩
        show (NestedKey.tup kk).depth ≤ 8
        simp only [NestedKey.depth]
        omega
      · exact e3 p hp
    | _ => exact absurd ha.1 (by simp [tupK])
section
variable [TabT]
theorem pe_lenSetN {X : Cx} {a : Expr} {ta : TE} {p p2 q pos : Pos} (hg : Gl X "len") (hm : X.mg "len" = none) (hg2 : Gl X "set") (hm2 : X.mg "set" = none) (ha : PE X a ta) (hc : X.calm = true) (hu : X.A.units + 64 < cLine)
    (na : starEach [a] X.env = (false, eval a X.env) :: starEach [] X.env) (nb : starEach [.Call (.Name "set" p2) [a] [] q] X.env = (false, eval (.Call (.Name "set" p2) [a] [] q) X.env) :: starEach [] X.env) : PE X (.Call (.Name "len" p) [.Call (.Name "set" p2) [a] [] q] [] pos) (tLenSetN X.K ta) := by
  refine ⟨fun pins s σ H Q I h => ?_⟩
  refine Call_ (ld_blt I hg hm boot_len ?_)
  refine PyProof.Rows.callWith_builtin1 (PyProof.Rows.args_cons ?_ rfl) rfl rfl
  refine Call_ (ld_blt I hg2 hm2 boot_set ?_)
  refine PyProof.Rows.callWith_type1 (PyProof.Rows.args_cons (thn (ha.run pins s σ H _ I h) fun v s1 ⟨x, H1, I1, r1, q1⟩ => PyProof.Rows.args_nil ?_) na) na rfl
  obtain ⟨l, vs, ds, ks, rfl, hq, hr, he, hf, hall, q1⟩ := q1
  cases r1
  obtain ⟨its, rv, pl, hz⟩ := I1.list hq
  have hn := nest_ofs I1 hr he rv
  obtain ⟨ps, rfl, rfl, hp⟩ := refs_nest hn hall (nestDs_data he).2
  have hf' : ps.length < 77 := by simpa using hf
  refine call_set_k (knd := noTxKind X.prog X.w) noTx_asked ps (I1.ok.hd hc) pl.isList (by simp) (fun p h => hp p h) hf' (fun B hB => by show B.units + 8 < cLine; omega) fun h' tk L es ep t R g k => ?_
  refine PyProof.Rows.args_nil ?_
  obtain ⟨o, ho, hex, hd⟩ := R.ob
  have I2 : Inv X pins σ H1 { s1 with heap := h', toks := tk } := I1.kept fun b o e => k b o e
  have hlen : L.length = (dedG (ps.map (·.2))).length := by
    have := dedG_of (xs := ps.map (·.2)) R.nd fun y => ⟨fun hy => by
      obtain ⟨p, hp, rfl⟩ := List.mem_map.mp hy
      exact List.mem_map.mpr ⟨p, List.mem_of_mem_take (g.sub p hp), rfl⟩, fun hy => by
      obtain ⟨p, hp, rfl⟩ := List.mem_map.mp hy
      exact g.all p (by rw [List.take_length]; exact hp)⟩
    rw [List.length_map] at this
    exact this
  have hsz : es.size = L.length := SetK.size (s := { s1 with heap := h' }) R
  have hes : es.size = (dedG (ps.map (·.2))).length := hsz.trans hlen
  have hle := R.few
  refine call_len_set ho hex hd (SetK.fits (s := { s1 with heap := h' }) R) (by rw [hsz]; omega) ⟨.int ((dedG (ps.map (·.2))).length : Nat), H1, I2.tok _, ⟨_, by rw [hes]⟩, q1⟩
section
variable {X : Cx} {c : Cc}
theorem e_lsetN {a : Expr} {m : M D} {p p2 q pos : Pos} (hm : X.mg "len" = none) (hm2 : X.mg "set" = none) (ha : PE X a (tM c m)) (hu : X.A.units + 64 < cLine) (hK : c.K = X.K := by rfl) (hg : Gl X "len" := by rfl) (hg2 : Gl X "set" := by rfl) (hc : X.calm = true := by rfl)
    (na : starEach [a] X.env = (false, eval a X.env) :: starEach [] X.env := by rfl) (nb : starEach [.Call (.Name "set" p2) [a] [] q] X.env = (false, eval (.Call (.Name "set" p2) [a] [] q) X.env) :: starEach [] X.env := by rfl) : PE X (.Call (.Name "len" p) [.Call (.Name "set" p2) [a] [] q] [] pos) (tM c (una lsetND m)) :=
  pe_cq (pe_lenSetN hg hm hg2 hm2 ha hc hu na nb) fun st H Q ⟨pa, H0, F0, F, r, ok, po⟩ => seqM ok po fun d r1 F1 H1 v k1 e1 dp q => by
    obtain ⟨z, hz, q⟩ := opt_po q
    cases dp with
    | @lst a vs ds g1 g2 =>
      have hz : (match nestDs ds with
        | some ks => if ks.length < 77 ∧ ks.all tupK = true then some (.int ((dedG ks).length : Nat)) else none
        | none => none) = some z := hz
      cases ht : nestDs ds with
      | none => rw [ht] at hz; cases hz
      | some ks =>
        rw [ht] at hz
        dsimp only at hz
        split at hz
        · rename_i hl
          cases hz
          refine ⟨a, vs, ds, ks, rfl, by rw [← hK]; exact k1.fH.l g1, by rw [← hK]; exact dpa_mono k1.fH g2, ht, hl.1, hl.2, q F1 H1 _ k1 e1 (.int _)⟩
        · cases hz
    | _ => cases hz
end
end
theorem nestDs_some : ∀ {ds : List D}, (∀ d ∈ ds, ∃ k, nestD d = some k ∧ tupK k = true) → ∃ ks, nestDs ds = some ks ∧ ks.all tupK = true
  | [], _ => ⟨[], rfl, rfl⟩
  | d :: ds, h => by
    obtain ⟨k, e1, t1⟩ := h d (List.mem_cons_self ..)
    obtain ⟨ks, e2, t2⟩ := nestDs_some fun y hy => h y (List.mem_cons_of_mem _ hy)
    refine ⟨k :: ks, ?_, ?_⟩
    · unfold nestDs
      rw [e1, e2]
    · rw [List.all_cons, t1, t2]
      rfl
theorem datas_map : ∀ ks : List NestedKey, NestedKey.datas ks = ks.map NestedKey.data
  | [] => rfl
  | k :: ks => by
    show k.data :: NestedKey.datas ks = _
    rw [datas_map ks]
    rfl
/-- unlike ones are as many as told -/
theorem lsetND_nd {ds : List D} (h : ∀ d ∈ ds, ∃ k, nestD d = some k ∧ tupK k = true) (nd : ds.Nodup) (hl : ds.length < 77) : lsetND (.list ds) = some (.int ds.length) := by
  obtain ⟨ks, e, t⟩ := nestDs_some h
  have hd := (nestDs_data e).1
  rw [datas_map] at hd
  have hk : ks.length = ds.length := by rw [← hd, List.length_map]
  have hnd : ks.Nodup := by
    rw [← hd] at nd
    exact List.Pairwise.of_map NestedKey.data (fun _ _ hne e => hne (congrArg _ e)) nd
  show (match nestDs ds with
    | some ks => if ks.length < 77 ∧ ks.all tupK = true then some (PyData.int ((dedG ks).length : Nat)) else none
    | none => none) = _
  rw [e]
  dsimp only
  rw [if_pos ⟨by omega, t⟩, dedG_self hnd, hk]
theorem nestDs_ints : ∀ ns : List Int, nestDs (ns.map PyData.int) = some (ns.map NestedKey.num)
  | [] => rfl
  | n :: ns => by
    show (match nestD (.int n), nestDs (ns.map PyData.int) with
      | some k, some ks => some (k :: ks)
      | _, _ => none) = _
    rw [nestDs_ints ns]
    rfl
theorem depth_ints : ∀ ns : List Int, NestedKey.depthAll (ns.map NestedKey.num) = 0
  | [] => rfl
  | n :: ns => by
    show max _ (NestedKey.depthAll (ns.map NestedKey.num)) = 0
    rw [depth_ints ns]
    rfl
end Pu
namespace Pu
open PySem PySem.Spec PyProof.Rows L2
end Pu
namespace Pu
open PySem PySem.Spec PyProof.Rows L2
variable [TabT]
/-! ### f(..) that lends some owned names, at any places -/
abbrev Az := List (Sum Nat D)
inductive ZAll (K : PySem.W.Frag) (F : Hp) (st : L2.St) : List V → Az → Prop
  | nil : ZAll K F st [] []
  | l {v : V} {vs : List V} {i : Nat} {xs : Az} : st[i]? = some (some v) → ZAll K F st vs xs → ZAll K F st (v :: vs) (.inl i :: xs)
  | d {v : V} {vs : List V} {d : D} {xs : Az} : Rp K F v d → ZAll K F st vs xs → ZAll K F st (v :: vs) (.inr d :: xs)
omit [TabT] in
theorem ZAll.len {K : PySem.W.Frag} {F : Hp} {st : L2.St} : ∀ {vs : List V} {xs : Az}, ZAll K F st vs xs → vs.length = xs.length
  | _, _, .nil => rfl
  | _, _, .l _ t => congrArg Nat.succ t.len
  | _, _, .d _ t => congrArg Nat.succ t.len
omit [TabT] in
theorem ZAll.getD {K : PySem.W.Frag} {F : Hp} {st : L2.St} : ∀ {vs : List V} {xs : Az} {p : Nat} {d : D}, ZAll K F st vs xs → xs[p]? = some (.inr d) → ∃ v, vs[p]? = some v ∧ Rp K F v d
  | _, _, _, _, .nil, e => by simp at e
  | _, _, 0, _, .l h t, e => by simp at e
  | _, _, 0, _, .d h t, e => by
    simp at e
    subst e
    exact ⟨_, rfl, h⟩
  | _, _, p + 1, _, .l h t, e => by
    obtain ⟨v, g1, g2⟩ := ZAll.getD (p := p) t (by simpa using e)
    exact ⟨v, by simpa using g1, g2⟩
  | _, _, p + 1, _, .d h t, e => by
    obtain ⟨v, g1, g2⟩ := ZAll.getD (p := p) t (by simpa using e)
    exact ⟨v, by simpa using g1, g2⟩
omit [TabT] in
theorem ZAll.mono {K : PySem.W.Frag} {F F' : Hp} {st : L2.St} (e : Ex F F') : ∀ {vs : List V} {xs : Az}, ZAll K F st vs xs → ZAll K F' st vs xs
  | _, _, .nil => .nil
  | _, _, .l h t => .l h (t.mono e)
  | _, _, .d h t => .d (dp_mono e h) (t.mono e)
end Pu
namespace Pu
open PySem PySem.Spec PyProof.Rows L2
variable [TabT]
/-! ### for rows, .. in ((x, ..), (y["k"], ..), (y["l"], ..)): each list changed in its turn -/
section
variable {K : PySem.W.Frag} {pa pa' : Nat → Addr} {H0 H1 F0 F H : Hp} {st : L2.St} {r r' : En}
theorem Ok.nobH (k : Ok K pa H0 F0 F H st r) {p : Addr} (h : H0 p ≠ none) : Nob H st r p := fun i s c a h1 h2 h3 => by
  obtain ⟨a', g1, g2, g3, g4⟩ := k.ownd h1 h2
  rw [h3] at g1
  cases g1
  exact ⟨fun z => h (z ▸ g3), fun n => h (k.inn i s c a p h1 h2 h3 n).2.1⟩
theorem Ok.less (k : Ok K pa H0 F0 F H st r) (hl : r'.length = r.length) (h : ∀ (j : Nat) (s' : Sl), r'[j]? = some s' → r[j]? = some s' ∨ s' = .unk ∨ (s' = .pin ∧ st[j]? = some (some (.ref (pa j))))) : Ok K pa H0 F0 F H st r' := by
  have old : ∀ (j : Nat) (s' : Sl) (c : Ct), r'[j]? = some s' → s'.own = some c → r[j]? = some s' := fun j s' c h1 h2 => by
    rcases h j s' h1 with h3 | rfl | ⟨rfl, _⟩
    · exact h3
    · cases h2
    · cases h2
  refine ⟨k.hH, k.fF, k.fH, k.sep, by rw [hl]; exact k.len, fun j s' h1 n => ?_, k.tb, fun i j s q c c' a ne h1 h2 o1 o2 g1 g2 => k.dis i j s q c c' a ne (old i s c h1 o1) (old j q c' h2 o2) o1 o2 g1 g2, fun i s c a b h1 h2 h3 h4 => ?_⟩
  · rcases h j s' h1 with h3 | rfl | ⟨rfl, h3⟩
    · exact k.sl j s' h3 n
    · exact absurd rfl n
    · exact ⟨_, h3, rfl⟩
  · obtain ⟨g1, g2, g3⟩ := k.inn i s c a b (old i s c h1 h2) h2 h3 h4
    exact ⟨g1, g2, fun j q c' a' w1 w2 w3 => g3 j q c' a' (old j q c' w1 w2) w2 w3⟩
/-- an owned object becomes one that must come back -/
theorem Ok.toIo (k : Ok K pa H0 F0 F H st r) {i : Nat} {a : Addr} {c : Ct} (h : r[i]? = some (.o c)) (ha : st[i]? = some (some (.ref a))) (hp : pa' i = a) (hq : ∀ j, j ≠ i → pa' j = pa j) : Ok K pa' H0 F0 F H st (r.set i (.io c)) := by
  have li : i < r.length := (List.getElem?_eq_some_iff.mp h).1
  have view : ∀ (j : Nat) (s' : Sl), (r.set i (.io c))[j]? = some s' → (j = i ∧ s' = .io c) ∨ (j ≠ i ∧ r[j]? = some s') := fun j s' e => by
    by_cases q : i = j
    · subst q
      rw [List.getElem?_set_self li] at e
      cases e
      exact .inl ⟨rfl, rfl⟩
    · rw [List.getElem?_set_ne q] at e
      exact .inr ⟨fun z => q z.symm, e⟩
  have old : ∀ (j : Nat) (s' : Sl) (c' : Ct), (r.set i (.io c))[j]? = some s' → s'.own = some c' → ∃ s, r[j]? = some s ∧ s.own = some c' := fun j s' c' h1 h2 => by
    rcases view j s' h1 with ⟨rfl, rfl⟩ | ⟨_, h3⟩
    · exact ⟨_, h, h2⟩
    · exact ⟨s', h3, h2⟩
  refine ⟨k.hH, k.fF, k.fH, k.sep, by rw [List.length_set]; exact k.len, fun j s' h1 n => ?_, k.tb, fun i1 j1 s q c1 c2 a ne h1 h2 o1 o2 g1 g2 => ?_, fun i1 s c1 a1 b h1 h2 h3 h4 => ?_⟩
  · rcases view j s' h1 with ⟨rfl, rfl⟩ | ⟨nj, h3⟩
    · obtain ⟨v, g1, a', rfl, g2, g3, g4⟩ := k.sl j _ h (fun z => nomatch z)
      rw [ha] at g1
      cases g1
      refine ⟨_, ha, ?_⟩
      show V.ref a = V.ref (pa' j) ∧ F (pa' j) = none ∧ H0 (pa' j) = none ∧ CtOk K F H (pa' j) c
      rw [hp]
      exact ⟨rfl, g2, g3, g4⟩
    · obtain ⟨v, g1, g2⟩ := k.sl j s' h3 n
      refine ⟨v, g1, ?_⟩
      rw [hq j nj]
      exact g2
  · obtain ⟨s', y1, y2⟩ := old i1 s c1 h1 o1
    obtain ⟨q', y3, y4⟩ := old j1 q c2 h2 o2
    exact k.dis i1 j1 s' q' c1 c2 a ne y1 y3 y2 y4 g1 g2
  · obtain ⟨s', y1, y2⟩ := old i1 s c1 h1 h2
    obtain ⟨g1, g2, g3⟩ := k.inn i1 s' c1 a1 b y1 y2 h3 h4
    refine ⟨g1, g2, fun j q c' a' w1 w2 w3 => ?_⟩
    obtain ⟨q', y3, y4⟩ := old j q c' w1 w2
    exact g3 j q' c' a' y3 y4 w3
theorem Ok.pinS (k : Ok K pa H0 F0 F H st r) (S : Addr → Prop) (h1 : ∀ x, S x → H1 x = H x ∧ F x = none ∧ Nob H st r x) (h2 : ∀ x, ¬ S x → H1 x = H0 x) : Ok K pa H1 F0 F H st r := by
  classical
  refine k.frame ⟨fun x o e nt => ?_, fun x ps e => ?_⟩ (fun x z1 z2 => ?_) fun j s c a g1 g2 g3 => ?_
  · by_cases hx : S x
    · rw [(h1 x hx).1] at e
      exact e
    · rw [h2 x hx] at e
      exact k.hH.at_ x o e nt
  · by_cases hx : S x
    · rw [(h1 x hx).1] at e
      exact ⟨#[], by rw [Array.append_empty]; exact e⟩
    · rw [h2 x hx] at e
      exact k.hH.tb x ps e
  · by_cases hx : S x
    · exact absurd (h1 x hx).2.1 z2
    · rw [h2 x hx] at z1
      exact k.sep x z1 z2
  · obtain ⟨a', y1, y2, y3, y4⟩ := k.ownd g1 g2
    rw [g3] at y1
    cases y1
    refine ⟨?_, fun b hb => ?_⟩
    · rw [h2 a fun hx => ((h1 a hx).2.2 j s c a g1 g2 g3).1 rfl]
      exact y3
    · rw [h2 b fun hx => ((h1 b hx).2.2 j s c a g1 g2 g3).2 hb]
      exact (k.inn j s c a b g1 g2 g3 hb).2.1
theorem Ok.unpin (k : Ok K pa H1 F0 F H st r) (h : ∀ x, H0 x = H1 x ∨ H0 x = none) : Ok K pa H0 F0 F H st r := by
  have sub : ∀ x o, H0 x = some o → H1 x = some o := fun x o e => by
    rcases h x with g | g
    · rw [← g]; exact e
    · rw [g] at e; cases e
  have non : ∀ x, H1 x = none → H0 x = none := fun x e => by
    rcases h x with g | g
    · rw [g]; exact e
    · exact g
  refine k.frame ⟨fun x o e nt => k.hH.at_ x o (sub x o e) nt, fun x ps e => k.hH.tb x ps (sub x _ e)⟩ (fun x z1 z2 => k.sep x (fun q => z1 (non x q)) z2) fun j s c a g1 g2 g3 => ?_
  obtain ⟨a', y1, y2, y3, y4⟩ := k.ownd g1 g2
  rw [g3] at y1
  cases y1
  exact ⟨non a y3, fun b hb => non b (k.inn j s c a b g1 g2 g3 hb).2.1⟩
/-- a list that must stand is lent into a slot -/
theorem Ok.take (k : Ok K pa H1 F0 F H st r) {q : Nat} {qs : Sl} {b : Addr} {ws : List V} {L : List D} (hq : r[q]? = some qs) (hio : qs.isIo = false) (hb : H1 b = some (.lst ws)) (hF : F b = none) (hr : RpAll K F ws L) :
    Ok K (fun j => if j = q then b else pa j) (fun x => if x = b then none else H1 x) F0 F H (st.set q (some (.ref b))) (r.set q (.io (.l L))) := by
  have lq : q < r.length := (List.getElem?_eq_some_iff.mp hq).1
  have nb : Nob H st r b := k.nobH (ne_none hb)
  have hHb : H b = some (.lst ws) := k.hH.at_ b _ hb fun ps z => nomatch z
  have k1 : Ok K pa (fun x => if x = b then none else H1 x) F0 F H st r := k.unpin fun x => by
    by_cases e : x = b
    · exact .inr (if_pos e)
    · exact .inl (if_neg e)
  have k2 : Ok K pa (fun x => if x = b then none else H1 x) F0 F H (st.set q (some (.ref b))) (r.set q (.o (.l L))) := k1.set (s := .o (.l L)) (fun s' e => by
    rw [hq] at e
    cases e
    exact hio) rfl ⟨b, rfl, hF, if_pos rfl, ws, hHb, hr⟩ fun a c e1 e2 => by
      cases e1
      cases e2
      exact .l (nb.unk)
  have k3 := k2.toIo (pa' := fun j => if j = q then b else pa j) (i := q) (a := b) (c := .l L) (List.getElem?_set_self lq) (List.getElem?_set_self (by rw [k.len]; exact lq)) (if_pos rfl) fun j nj => if_neg nj
  rw [List.set_set] at k3
  exact k3
end
/-- the state between two turns -/
def S3 (c : Cc) (pa : Nat → Addr) (H0 F0 F : Hp) (ts : List (Addr × HO)) (i j : Nat) (a1 b1 : Addr) (k1 k2 : Key) (G A B : List D) (st : L2.St) (H : Hp) (r : En) : Prop :=
  ∃ F' H1, Ok c.K pa H1 F0 F' H st r ∧ Ex F F' ∧ (∀ x, H0 x = H1 x ∨ H0 x = none) ∧ (∀ p ∈ ts, H1 p.1 = some p.2) ∧ H1 (pa j) = some (.dK [(k1, .ref a1), (k2, .ref b1)]) ∧ F' (pa j) = none ∧
    (∃ ws, H1 (pa i) = some (.lst ws) ∧ RpAll c.K F' ws G ∧ F' (pa i) = none) ∧ (∃ ws, H1 a1 = some (.lst ws) ∧ RpAll c.K F' ws A ∧ F' a1 = none) ∧ (∃ ws, H1 b1 = some (.lst ws) ∧ RpAll c.K F' ws B ∧ F' b1 = none)
section
variable {X : Cx} {c : Cc} {pa : Nat → Addr} {H0 F0 F : Hp} {ts : List (Addr × HO)} {i j : Nat} {a1 b1 : Addr} {k1 k2 : Key} {G A B G' A' B' : List D}
omit [TabT] in
theorem base_upd {H1 : Hp} {b : Addr} {o : HO} (h : ∀ x, H0 x = H1 x ∨ H0 x = none) (hb : H0 b = none) : ∀ x, H0 x = upd H1 b o x ∨ H0 x = none := fun x => by
  by_cases e : x = b
  · subst e
    exact .inr hb
  · rw [upd_ne e]
    exact h x
end
section
variable {X : Cx} {c : Cc} {pa : Nat → Addr} {H0 F0 F : Hp} {ts : List (Addr × HO)} {i j : Nat} {a1 b1 : Addr} {k1 k2 : Key} {G A B : List D} {st : L2.St} {H : Hp} {r : En}
/-- the object at a slot, the lists within another's dict: all stand from now on -/
theorem S3.begin (k : Ok c.K pa H0 F0 F H st r) (hi : r[i]? = some (.io (.l G))) (hj : r[j]? = some (.io (.n (.d [(k1, .l A), (k2, .l B)])))) (hij : i ≠ j) :
    ∃ a1 b1, S3 c pa H0 F0 F [] i j a1 b1 k1 k2 G A B st H ((r.set i .pin).set j .pin) ∧ H0 (pa i) = none ∧ H0 (pa j) = none ∧ H0 a1 = none ∧ H0 b1 = none ∧ pa i ≠ a1 ∧ pa i ≠ b1 ∧ a1 ≠ b1 := by
  classical
  obtain ⟨vi, si, rfl, zi, n0i, ws1, h1, y1⟩ := k.sl i _ hi (fun z => nomatch z)
  obtain ⟨vj, sj, rfl, zj, n0j, us, ⟨ks, hd, hkeys, hvals⟩, hit, hun⟩ := k.sl j _ hj (fun z => nomatch z)
  have hl2 : us.length = 2 := hit.len
  obtain ⟨w1, g1, a1, ws2, rfl, h2, y2⟩ := hit.get (j := 0) (i := .l A) rfl
  obtain ⟨w2, g2, b1, ws3, rfl, h3, y3⟩ := hit.get (j := 1) (i := .l B) rfl
  have eks : ks = [(k1, .ref a1), (k2, .ref b1)] := by
    rw [hvals] at g1 g2 hl2
    match ks, hkeys, g1, g2, hl2 with
    | [(p1, q1), (p2, q2)], hkeys, g1, g2, _ =>
      simp at hkeys g1 g2
      obtain ⟨rfl, rfl⟩ := hkeys
      subst g1
      subst g2
      rfl
    | [], _, g1, _, _ => simp at g1
    | [_], _, _, g2, _ => simp at g2
    | _ :: _ :: _ :: _, _, _, _, hl => simp at hl
  subst eks
  have ia : Inn H (pa j) (.n (.d [(k1, .l A), (k2, .l B)])) a1 := ⟨0, us, A, by rw [hd, hvals]; rfl, g1, rfl⟩
  have ib : Inn H (pa j) (.n (.d [(k1, .l A), (k2, .l B)])) b1 := ⟨1, us, B, by rw [hd, hvals]; rfl, g2, rfl⟩
  obtain ⟨fa, n0a, fa3⟩ := k.inn j _ _ _ a1 hj rfl sj ia
  obtain ⟨fb, n0b, fb3⟩ := k.inn j _ _ _ b1 hj rfl sj ib
  have nia : pa i ≠ a1 := (fa3 i _ _ _ hi rfl si).1
  have nib : pa i ≠ b1 := (fb3 i _ _ _ hi rfl si).1
  have nab : a1 ≠ b1 := fun z => hun 0 1 a1 (by decide) ⟨us, A, by rw [hd, hvals]; rfl, g1, rfl⟩ ⟨us, B, by rw [hd, hvals]; rfl, by rw [z]; exact g2, rfl⟩
  have li : i < r.length := (List.getElem?_eq_some_iff.mp hi).1
  have lj : j < r.length := (List.getElem?_eq_some_iff.mp hj).1
  have view : ∀ (n : Nat) (s' : Sl), ((r.set i .pin).set j .pin)[n]? = some s' → (s' = .pin ∧ (n = i ∨ n = j)) ∨ (n ≠ i ∧ n ≠ j ∧ r[n]? = some s') := fun n s' e => by
    by_cases q : j = n
    · subst q
      rw [List.getElem?_set_self (by rw [List.length_set]; exact lj)] at e
      cases e
      exact .inl ⟨rfl, .inr rfl⟩
    · rw [List.getElem?_set_ne q] at e
      by_cases q2 : i = n
      · subst q2
        rw [List.getElem?_set_self li] at e
        cases e
        exact .inl ⟨rfl, .inl rfl⟩
      · rw [List.getElem?_set_ne q2] at e
        exact .inr ⟨fun z => q2 z.symm, fun z => q z.symm, e⟩
  have kp : Ok c.K pa H0 F0 F H st ((r.set i .pin).set j .pin) := k.less (by rw [List.length_set, List.length_set]) fun n s' e => by
    rcases view n s' e with ⟨rfl, rfl | rfl⟩ | ⟨_, _, e⟩
    · exact .inr (.inr ⟨rfl, si⟩)
    · exact .inr (.inr ⟨rfl, sj⟩)
    · exact .inl e
  have nobs : ∀ x, (x = pa i ∨ x = pa j ∨ x = a1 ∨ x = b1) → Nob H st ((r.set i .pin).set j .pin) x := fun x hx n s' c' a e1 e2 e3 => by
    rcases view n s' e1 with ⟨rfl, _⟩ | ⟨ni, nj, e⟩
    · cases e2
    · rcases hx with rfl | rfl | rfl | rfl
      · refine ⟨fun z => ?_, fun z => ((k.inn n s' c' a _ e e2 e3 z).2.2 i _ _ _ hi rfl si).1 rfl⟩
        subst z
        exact k.dis n i s' _ c' _ _ ni e hi e2 rfl e3 si
      · refine ⟨fun z => ?_, fun z => ((k.inn n s' c' a _ e e2 e3 z).2.2 j _ _ _ hj rfl sj).1 rfl⟩
        subst z
        exact k.dis n j s' _ c' _ _ nj e hj e2 rfl e3 sj
      · obtain ⟨z1, z2⟩ := fa3 n s' c' a e e2 e3
        exact ⟨z1, z2 nj⟩
      · obtain ⟨z1, z2⟩ := fb3 n s' c' a e e2 e3
        exact ⟨z1, z2 nj⟩
  have kS : Ok c.K pa (fun x => if (x = pa i ∨ x = pa j ∨ x = a1 ∨ x = b1) then H x else H0 x) F0 F H st ((r.set i .pin).set j .pin) := kp.pinS (fun x => x = pa i ∨ x = pa j ∨ x = a1 ∨ x = b1) (fun x hx => ⟨if_pos hx, by
    rcases hx with rfl | rfl | rfl | rfl
    · exact zi
    · exact zj
    · exact fa
    · exact fb, nobs x hx⟩) fun x hx => if_neg hx
  refine ⟨a1, b1, ⟨F, _, kS, Ex.refl F, fun x => ?_, fun p hp => (by cases hp), ?_, zj, ⟨ws1, ?_, y1, zi⟩, ⟨ws2, ?_, y2, fa⟩, ⟨ws3, ?_, y3, fb⟩⟩, n0i, n0j, n0a, n0b, nia, nib, nab⟩
  · by_cases hx : x = pa i ∨ x = pa j ∨ x = a1 ∨ x = b1
    · right
      rcases hx with rfl | rfl | rfl | rfl
      · exact n0i
      · exact n0j
      · exact n0a
      · exact n0b
    · exact .inl (if_neg hx).symm
  · exact (if_pos (.inr (.inl rfl))).trans hd
  · exact (if_pos (.inl rfl)).trans h1
  · exact (if_pos (.inr (.inr (.inl rfl)))).trans h2
  · exact (if_pos (.inr (.inr (.inr rfl)))).trans h3
theorem S3.add (hW : S3 c pa H0 F0 F ts i j a1 b1 k1 k2 G A B st H r) {t : Addr} {o : HO} (n : H t = none) : S3 c pa H0 F0 F ((t, o) :: ts) i j a1 b1 k1 k2 G A B st (upd H t o) r := by
  obtain ⟨F', H1, k, e, hb0, hts1, hd, fj, ⟨ws1, x1, y1, z1⟩, ⟨ws2, x2, y2, z2⟩, ⟨ws3, x3, y3, z3⟩⟩ := hW
  have n1 : H1 t = none := k.hH.nn n
  have n0 : H0 t = none := (hb0 t).elim (fun z => z.trans n1) id
  have ne : ∀ x u, H1 x = some u → x ≠ t := fun x u h z => by
    rw [z, n1] at h
    cases h
  refine ⟨F', _, k.inL n, e, base_upd hb0 n0, fun p hp => ?_, by rw [upd_ne (ne _ _ hd)]; exact hd, fj, ⟨ws1, by rw [upd_ne (ne _ _ x1)]; exact x1, y1, z1⟩, ⟨ws2, by rw [upd_ne (ne _ _ x2)]; exact x2, y2, z2⟩, ⟨ws3, by rw [upd_ne (ne _ _ x3)]; exact x3, y3, z3⟩⟩
  rcases List.mem_cons.mp hp with rfl | hp
  · exact upd_same
  · rw [upd_ne (ne _ _ (hts1 p hp))]
    exact hts1 p hp
end
end Pu
namespace Pu
open PySem PySem.Spec PyProof.Rows L2
/-! ### {"k": a list of one's own, "l": another} -/
end Pu
namespace Pu
open PySem PySem.Spec PyProof.Rows L2
variable [TabT]
theorem sp_start {K : PySem.W.Frag} {mg : Str → Option Value} {f : List Sl → Re RV} {ns : List Int} {H : Hp} {a : Addr} (hl : ∃ r, f [.v (.list (ns.map .int))] = .ok (.v (.bool true)) r) (hS : SqL K H a (ns.map V.int)) (tb : LamX.Tabs (TabT.T K) H) : spG K mg 1 f [.ref a] H (fun v _ => v = .bl true) fun _ _ _ => False := by
  obtain ⟨r, hr⟩ := hl
  refine ⟨rfl, fun _ => 0, H, H, _, argsV (vs := [.ref a]) (ds := [.list (ns.map .int)]) (.cons (.lst hS (dpa_ints ns)) .nil) (Ex.refl H) tb, argsOkV _, ?_⟩
  rw [show [PyData.list (ns.map PyData.int)].map Sl.v = [Sl.v (.list (ns.map .int))] from rfl, hr]
  intro F' H' v ok rv
  cases rv
  rfl
theorem no_cx {P : Program} {w : World} {H : Hp} {s s' : Shared} {e : Value} (h : L2.CX P w [] H s (fun _ _ _ => False) e s') : False := by
  obtain ⟨_, _, _, _, _, _, _, _, _, _, _, _, z⟩ := h
  exact z
/-- the law called from outside, with the tables of code objects -/
theorem lawG {P : Program} {w : World} {K : PySem.W.Frag} {mg mb : Str → Option Value} {k : Nat} {fa a : Addr} {cs : List (Addr × Addr)} {fd : FuncData} {x : Str} {sp : Sp} {s₁ : Shared} {vs : List Value} {ns : List Int}
    (KX : K.In s₁.heap) (hns : s₁.heap.Ns mainGlobals mg) (hb : s₁.heap.Ns builtinsNs mb) (hbb : ∀ x : Str, x ≠ "__name__" → mb x = bootBuiltins x) (hlim : s₁.heap.NoLimit) (hg : s₁.gens = #[])
    (hT : ∀ p ∈ cs, s₁.heap.get? p.2 = some { cls := .none, data := .fields #[] }) (nT : ∀ p ∈ cs, K.lookup p.2 = none) (C : ∀ p ∈ cs, PySem.W.CodeHd s₁.heap p.1 p.2)
    (hbm : ∃ (bm : Addr) (ob : Obj), mg "__builtins__" = some (.ref bm) ∧ bm ≠ builtinsNs ∧ s₁.heap.get? bm = some ob ∧ ob.cls = .type "module" ∧ ob.dict = some builtinsNs ∧ ob.data = .plain)
    (ha : s₁.heap.get? a = some { cls := .type "list", data := .seq vs.toArray }) (hi : IntsAre vs ns) (hl : ns.length ≤ sizeLine) (hr : RmC k callerA) (hsr : s₁.heap.NoSeer)
    (F : ∀ base : Heap, K.In base → base.Ns mainGlobals mg → base.NoSeer → (∀ p ∈ cs, LamX.TabB base mg p.1 p.2) → FnG P w K mg base k fa fd [x] sp) (hbind : ∀ (s : Shared) (u : Value), BindsTo s fd ⟨[u], []⟩ [(x, u)])
    (hsp : ∀ H : Hp, (∀ p ∈ cs, H p.2 = some (.tbl #[])) → SqL K H a (ns.map V.int) → sp [.ref a] H (fun v _ => v = .bl true) fun _ _ _ => False) :
    codeAny (model P w) callerA (.call (.ref fa) ⟨[.ref a], []⟩) (fun r s' => r = .ok (.ret (.bool true)) ∧ OldK s₁.heap s'.heap ∧ s'.os = s₁.os ∧ AllBare s'.gens) s₁ := by
  have rv := vals_ints hi
  have lenV := hi.length
  have isT : ∀ b : Addr, b ∈ cs.map (·.2) → s₁.heap.get? b = some { cls := .none, data := .fields #[] } := fun b hb => by
    obtain ⟨p, hp, e⟩ := List.mem_map.mp hb
    rw [← e]
    exact hT p hp
  have aT : a ∉ cs.map (·.2) := fun z => by
    have q := isT a z
    rw [ha] at q
    have z' : Data.seq vs.toArray _ = Data.fields #[] := congrArg Obj.data (Option.some.inj q)
    cases z'
  have memT : ∀ p ∈ cs, p.2 ∈ cs.map (·.2) := fun p hp => List.mem_map.mpr ⟨p, hp, rfl⟩
  -- from an abstract heap in which nothing but the script and the tables may be tracked
  have core : ∀ H : Hp, (∀ p ∈ cs, H p.2 = some (.tbl #[])) → (∀ b, H b = none ∨ b ∈ cs.map (·.2) ∨ ∃ o xs, H b = some (.frz o (.lst xs))) → SqL K H a (ns.map V.int) → HOk P w H s₁.heap → (∀ b, H b ≠ none → b = a ∨ b ∈ cs.map (·.2)) → (H a ≠ none → K.lookup a = none) →
      codeAny (model P w) callerA (.call (.ref fa) ⟨[.ref a], []⟩) (fun r s' => r = .ok (.ret (.bool true)) ∧ OldK s₁.heap s'.heap ∧ s'.os = s₁.os ∧ AllBare s'.gens) s₁ := by
    intro H hH hO hS hok hA hK
    have base_of : ∀ {b : Addr} {o : Obj}, s₁.heap.get? b = some o → H b = none → (hidT s₁.heap H).get? b = some o := fun e n => hidT_get e n
    have noD : ∀ {b : Addr} {o : Obj}, s₁.heap.get? b = some o → (∀ vs n, o.data ≠ .seq vs n) → o.data ≠ .fields #[] → H b = none := fun {b o} e h1 h2 => by
      cases q : H b with
      | none => rfl
      | some u =>
        rcases hA b (by rw [q]; simp) with e' | e'
        · rw [e', ha] at e
          cases e
          exact (h1 _ _ rfl).elim
        · rw [isT b e'] at e
          cases e
          exact (h2 rfl).elim
    have noA : ∀ {b : Addr} {o : Obj} {es : Array DictEntry} {ep : Nat}, s₁.heap.get? b = some o → o.data = .dict es ep → H b = none := fun {b o es ep} e d => by
      refine noD e (fun vs n z => ?_) fun z => ?_
      · rw [d] at z
        cases z
      · rw [d] at z
        cases z
    have nsK : ∀ {b : Addr} {m : Str → Option Value}, s₁.heap.Ns b m → (hidT s₁.heap H).Ns b m := fun {b m} ⟨o, es, ep, e, d, r⟩ => ⟨o, es, ep, base_of e (noA e d), d, r⟩
    have hKb : K.In (hidT s₁.heap H) := fun b o e => base_of (KX b o e) (by
      cases q : H b with
      | none => rfl
      | some u =>
        rcases hA b (by rw [q]; simp) with e' | e'
        · rw [e'] at e q
          rw [hK (by rw [q]; simp)] at e
          cases e
        · obtain ⟨p, hp, ep⟩ := List.mem_map.mp e'
          rw [← ep, nT p hp] at e
          cases e)
    have hM : L2.Mod K mg (hidT s₁.heap H) := ⟨hKb, nsK hns, ⟨mb, nsK hb, hbb⟩, let ⟨mc, h1, h2⟩ := hlim; ⟨mc, nsK h1, h2⟩⟩
    have hSR : (hidT s₁.heap H).NoSeer := ⟨(let ⟨mc, a, b⟩ := hsr.statics; ⟨mc, nsK a, b⟩), (let ⟨mc, a, b⟩ := hsr.mods; ⟨mc, nsK a, b⟩), (let ⟨mb, a, b⟩ := hsr.imp; ⟨mb, nsK a, b⟩), by
      obtain ⟨bm, ob, b1, b2, b3, b4, b5, b6⟩ := hbm
      refine ⟨mg, bm, ob, nsK hns, b1, base_of b3 (noD b3 (fun vs n z => ?_) fun z => ?_), b4, b5⟩
      · rw [b6] at z
        cases z
      · rw [b6] at z
        cases z⟩
    have TB : ∀ p ∈ cs, LamX.TabB (hidT s₁.heap H) mg p.1 p.2 := fun p hp => by
      have hTp := hT p hp
      refine ⟨?_, ?_, fun z => ?_⟩
      · obtain ⟨o, us, file, tf, flags, tg, inF, text, tt, e1, r1, r2, r3, r4, r5, r6, r7, r8, hne⟩ := C p hp
        refine ⟨o, us, file, tf, flags, tg, inF, text, tt, base_of e1 (noD e1 (fun vs n z => ?_) fun z => ?_), r1, r2, r3, r4, r5, r6, r7, r8, hne⟩
        · rw [r2] at z
          cases z
        · rw [r2] at z
          cases z
          simp at r3
      · obtain ⟨bm, ob, b1, b2, b3, b4, b5, b6⟩ := hbm
        have nG : bm ≠ mainGlobals := fun q => by
          obtain ⟨o, es, ep, e, hd, _⟩ := hns
          rw [q, e] at b3
          cases b3
          rw [hd] at b6
          cases b6
        have nP : bm ≠ p.2 := fun q => by
          rw [q, hTp] at b3
          cases b3
          cases b6
        refine ⟨bm, ob, b1, b2, nG, nP, base_of b3 (noD b3 (fun vs n z => ?_) fun z => ?_), b4, b5, b6⟩
        · rw [b6] at z
          cases z
        · rw [b6] at z
          cases z
      · obtain ⟨o, es, ep, e, hd, _⟩ := hns
        rw [z, hTp] at e
        cases e
        cases hd
    have e0 : Env0 P w K mg (hidT s₁.heap H) callerA [] s₁ H := ⟨rfl, hM, fun b o e => of_hidT e, Nat.le_of_eq (hidT_size _ _), trivial, fun b hb => absurd (show b ∈ ([] : List Addr) from hb) (by simp), hok, .of_eq hg⟩
    refine codeAny_mono ((F _ hKb (nsK hns) hSR TB).run callerA [] s₁ H ⟨[.ref a], []⟩ [.ref a] [.ref a] _ _ hr e0 (hbind s₁ (.ref a)) (.cons rfl .nil) (hsp H hH hS)) fun r s' h => ?_
    cases r with
    | error e => exact (no_cx h).elim
    | ok fl =>
      cases fl with
      | next => exact False.elim h
      | brk => exact False.elim h
      | cont => exact False.elim h
      | ret u =>
        obtain ⟨v, H', os, bare, un, hok', r', q⟩ := h
        have q' : v = .bl true := q
        subst q'
        obtain rfl : u = Value.bool true := r'
        have key : ∀ b o, b ∉ cs.map (·.2) → s₁.heap.get? b = some o → s'.heap.get? b = some o := fun b o nb e => by
          cases q : H b with
          | none => exact un.keep b o e q (by intro z; exact absurd (show b ∈ ([] : List Addr) from z) (by simp)) (by simp)
          | some u =>
            rcases hO b with z | z | ⟨ob, xs, z⟩
            · rw [q] at z; cases z
            · exact absurd z nb
            · have z2 := un.frzs b ob _ z
              obtain ⟨e1, _⟩ := hok b _ z
              obtain ⟨e2, _⟩ := hok' b _ z2
              rw [e] at e1; cases e1
              exact e2
        have grown : ∀ p ∈ cs, ∃ more : Array Value, s'.heap.get? p.2 = some { cls := .none, data := .fields more } := fun p hp => by
          obtain ⟨more, z⟩ := un.tbls p.2 #[] (hH p hp)
          exact ⟨_, hok' p.2 _ z⟩
        refine ⟨rfl, ⟨fun b o e => ?_, fun b o e => ?_⟩, os, bare⟩
        · by_cases hb : b ∈ cs.map (·.2)
          · obtain ⟨p, hp, ep⟩ := List.mem_map.mp hb
            obtain ⟨more, hm⟩ := grown p hp
            rw [← ep] at e ⊢
            rw [hT p hp] at e
            cases e
            exact .inr (.inl ⟨((C p hp).tab (hT p hp)).isCodeTable, rfl, #[], more, rfl, by rw [Array.empty_append]; exact hm⟩)
          · exact .inl (key b o hb e)
        · by_cases hb : b ∈ cs.map (·.2)
          · obtain ⟨p, hp, ep⟩ := List.mem_map.mp hb
            obtain ⟨more, hm⟩ := grown p hp
            rw [← ep]
            exact ⟨_, hm⟩
          · exact ⟨o, key b o hb e⟩
  cases hk : K.lookup a with
  | some o =>
    have e := KX a o hk
    rw [ha] at e
    cases e
    refine core (fun b => if b ∈ cs.map (·.2) then some (.tbl #[]) else none) (fun p hp => if_pos (memT p hp)) (fun b => ?_) (.inr ⟨_, vs.toArray, _, hk, rfl, rfl, rfl, by rw [List.size_toArray, lenV]; exact hl, by simpa using rv⟩) (fun b u z => ?_) (fun b z => ?_) fun z => absurd (show (if a ∈ cs.map (·.2) then some (HO.tbl #[]) else none) = none from if_neg aT) z
    · by_cases hb : b ∈ cs.map (·.2)
      · exact .inr (.inl hb)
      · exact .inl (if_neg hb)
    · by_cases hb : b ∈ cs.map (·.2)
      · have z' := (if_pos hb).symm.trans z
        cases z'
        exact isT b hb
      · have z' := (if_neg hb).symm.trans z
        cases z'
    · by_cases hb : b ∈ cs.map (·.2)
      · exact .inr hb
      · exact absurd (if_neg hb) z
  | none =>
    refine core (fun b => if b = a then some (.frz { cls := .type "list", data := .seq vs.toArray } (.lst (ns.map V.int))) else if b ∈ cs.map (·.2) then some (.tbl #[]) else none) (fun p hp => (if_neg (show ¬ p.2 = a from fun z => aT (by rw [← z]; exact memT p hp))).trans (if_pos (memT p hp))) (fun b => ?_)
      (.inl (.inr ⟨{ cls := .type "list", data := .seq vs.toArray }, if_pos rfl⟩)) (fun b u z => ?_) (fun b z => ?_) fun _ => hk
    · by_cases hb : b = a
      · exact .inr (.inr ⟨_, _, if_pos hb⟩)
      · by_cases hb2 : b ∈ cs.map (·.2)
        · exact .inr (.inl hb2)
        · exact .inl ((if_neg hb).trans (if_neg hb2))
    · by_cases hb : b = a
      · have z' := (if_pos hb).symm.trans z
        cases z'
        rw [hb]
        exact ⟨ha, by rw [List.length_map]; exact hl, vs, _, rv, ha⟩
      · have z1 := (if_neg hb).symm.trans z
        by_cases hb2 : b ∈ cs.map (·.2)
        · have z' := (if_pos hb2).symm.trans z1
          cases z'
          exact isT b hb2
        · have z' := (if_neg hb2).symm.trans z1
          cases z'
    · by_cases hb : b = a
      · exact .inl hb
      · by_cases hb2 : b ∈ cs.map (·.2)
        · exact .inr hb2
        · exact absurd ((if_neg hb).trans (if_neg hb2)) z
theorem walk_ofP {l : PySem.W.OpenLaw} {n k : Nat} {q : Program} {loose : List Str} {XP : (Str → Option Value) → Heap → Prop} {YP : World → Heap → Prop} {d : DefRec} {x : Str} (hn : l.most = some n) (hn2 : n ≤ sizeLine) (hdf : d.params.defaults = []) (hr : RmC k callerA) (hi : PyProof.Rows.importsNone q = true)
    (F : ∀ (w : World) (mg : Str → Option Value) (fa : Addr) (h : Heap), YP w h → h.Ns mainGlobals mg → mg d.name = some (.ref fa) → ∃ (K : PySem.W.Frag) (fd : FuncData) (cs : List (Addr × Addr)) (sp : Sp), K.In h ∧ (∀ p ∈ cs, h.get? p.2 = some { cls := .none, data := .fields #[] }) ∧ (∀ p ∈ cs, K.lookup p.2 = none) ∧ (∀ p ∈ cs, PySem.W.CodeHd h p.1 p.2) ∧ (∀ (s : Shared) (u : Value), BindsTo s fd ⟨[u], []⟩ [(x, u)]) ∧
      (∀ (H : Hp) (a : Addr) (ns : List Int), ns.length ≤ n → (∀ z ∈ ns, Builtin.Int.intBits z ≤ 1048576) → (∀ p ∈ cs, H p.2 = some (.tbl #[])) → SqL K H a (ns.map V.int) → sp [.ref a] H (fun v _ => v = .bl true) fun _ _ _ => False) ∧ ∀ base : Heap, K.In base → base.Ns mainGlobals mg → base.NoSeer → (∀ p ∈ cs, LamX.TabB base mg p.1 p.2) → FnG l.prog w K mg base k fa fd [x] sp) :
    PySem.W.WalkO q loose XP YP l.row.toRowW d [] (fun f vs => PySem.call f vs) :=
  Att.attach_callB hn hdf fun w t0 t1 mg mb fa o pm cd doc a us ns G Y ho hd hcd hmg hobj hints hlen hbits hg => by
    obtain ⟨K, fd, cs, sp, KX, hT, nT, C, hb, hsp, hF⟩ := F w mg fa _ Y G.T.g hmg
    exact lawG KX G.T.g G.T.b G.T.builtins G.T.nolimit hg hT nT C G.T.bmain hobj hints (Nat.le_trans hlen hn2) hr (G.T.seer hi) hF hb fun H hH hS => hsp H a ns hlen hbits hH hS
end Pu
namespace Pu
open PySem L2
variable [TabT]
theorem ite_some {α : Type} (p : Prop) [Decidable p] (a b : α) : ((if p then some a else none) = some b) = (p ∧ a = b) := by
  by_cases h : p
  · rw [if_pos h]
    simp [h]
  · rw [if_neg h]
    simp [h]
/-! ### what a mirror does, from the left -/
variable {α β : Type} {X : Exn → En → Prop} {k : α → En → Prop}
@[simp] theorem qo_ok (a : α) (r : En) : Po X (.ok a r) k = k a r := rfl
@[simp] theorem qo_ex (e : Exn) (r : En) : Po X (.ex e r) k = X e r := rfl
@[simp] theorem qo_no : Po X (.no : Re α) k = False := rfl
@[simp] theorem qo_bind (x : Re β) (f : β → M α) : Po X (x.bind f) k = Po X x fun a r => Po X (f a r) k := by cases x <;> rfl
theorem qo_opt (o : Option α) (r : En) : Po X (M.opt o r) k = ∃ a, o = some a ∧ k a r := by
  cases o with
  | none => simp [M.opt]
  | some a => simp [M.opt]
theorem qo_mono {x : Re α} {k' : α → En → Prop} (h : Po X x k') (i : ∀ a r, k' a r → k a r) : Po X x k := h.mono (fun _ _ z => z) i
theorem qo_true {f : Re RV} (h : Po (fun _ _ => False) f fun rv _ => rv = .v (.bool true)) : ∃ r, f = .ok (.v (.bool true)) r := by
  cases f with
  | ok a r => exact ⟨r, by rw [show a = .v (.bool true) from h]⟩
  | ex e r => exact h.elim
  | no => exact h.elim
@[simp] theorem getS_ap (i : Nat) (r : En) : getS i r = (match r[i]? with
  | some (.v d) => .ok d r
  | _ => .no) := rfl
@[simp] theorem bin_ap (g : D → D → Option D) (a b : M D) (r : En) : bin g a b r = (a r).bind fun x r => (b r).bind fun y r => M.opt (g x y) r := rfl
@[simp] theorem una_ap (g : D → Option D) (a : M D) (r : En) : una g a r = (a r).bind fun x r => M.opt (g x) r := rfl
@[simp] theorem nry_ap (g : List D → Option D) (a : M (List D)) (r : En) : nry g a r = (a r).bind fun x r => M.opt (g x) r := rfl
@[simp] theorem unaO_ap (g : D → Option (List D)) (a : M D) (r : En) : unaO g a r = (a r).bind fun x r => M.opt ((g x).map fun z => .o (.l z)) r := rfl
@[simp] theorem nryO_ap (g : List D → Option (List D)) (a : M (List D)) (r : En) : nryO g a r = (a r).bind fun x r => M.opt ((g x).map fun z => .o (.l z)) r := rfl
@[simp] theorem aNil_ap (r : En) : aNil r = .ok [] r := rfl
@[simp] theorem aCons_ap (a : M D) (b : M (List D)) (r : En) : aCons a b r = (a r).bind fun x r => (b r).bind fun y r => .ok (x :: y) r := rfl
@[simp] theorem frzM_ap (m : M RV) (r : En) : frzM m r = (m r).bind fun rv r => M.opt rv.data r := rfl
@[simp] theorem data_v (d : D) : RV.data (.v d) = some d := rfl
@[simp] theorem data_l (ds : List D) : RV.data (.o (.l ds)) = some (.list ds) := rfl
@[simp] theorem eTup_ap (m : M (List D)) (r : En) : eTup m r = (m r).bind fun ds r => M.opt (szC ds.length (.tuple ds)) r := rfl
@[simp] theorem oLst_ap (m : M (List D)) (r : En) : oLst m r = (m r).bind fun ds r => M.opt (szC ds.length (.o (.l ds))) r := rfl
theorem szC_iff (n : Nat) (a b : α) : (szC n a = some b) = (n ≤ 16777216 ∧ a = b) := by
  unfold szC
  exact ite_some _ _ _
@[simp] theorem tBool_ap (m : M D) (r : En) : tBool m r = (m r).bind fun d r => M.opt (match d with
  | .bool b => some b
  | _ => none) r := rfl
@[simp] theorem tTru_ap (m : M D) (r : En) : tTru m r = (m r).bind fun d r => M.opt (tru d) r := rfl
@[simp] theorem tNotM_ap (m : M Bool) (r : En) : tNotM m r = (m r).bind fun b r => .ok (!b) r := rfl
@[simp] theorem tAndM_ap (m n : M Bool) (r : En) : tAndM m n r = (m r).bind fun b r => if b = true then n r else .ok false r := by
  show (m r).bind (fun b => if b = true then n else M.ret false) = _
  congr 1
  funext b r
  cases b <;> rfl
@[simp] theorem tOrM_ap (m n : M Bool) (r : En) : tOrM m n r = (m r).bind fun b r => if b = true then .ok true r else n r := by
  show (m r).bind (fun b => if b = true then M.ret true else n) = _
  congr 1
  funext b r
  cases b <;> rfl
@[simp] theorem eNot_ap (m : M D) (r : En) : eNot m r = (tBool m r).bind fun b r => .ok (.bool (!b)) r := rfl
@[simp] theorem eNotT_ap (m : M D) (r : En) : eNotT m r = (tTru m r).bind fun b r => .ok (.bool (!b)) r := rfl
@[simp] theorem eAnd_ap (m n : M D) (r : En) : eAnd m n r = (tBool m r).bind fun b r => if b = true then n r else .ok (.bool false) r := by
  show (tBool m r).bind (fun b => if b = true then n else M.ret (.bool false)) = _
  congr 1
  funext b r
  cases b <;> rfl
@[simp] theorem eOr_ap (m n : M D) (r : En) : eOr m n r = (tBool m r).bind fun b r => if b = true then .ok (.bool true) r else n r := by
  show (tBool m r).bind (fun b => if b = true then M.ret (.bool true) else n) = _
  congr 1
  funext b r
  cases b <;> rfl
@[simp] theorem eIf_ap (t : M Bool) (m n : M D) (r : En) : eIf t m n r = (t r).bind fun b r => if b = true then m r else n r := by
  show (t r).bind (fun b => if b = true then m else n) = _
  congr 1
  funext b r
  cases b <;> rfl
@[simp] theorem eChain_ap (g g' : D → D → Option D) (a b d : M D) (r : En) : eChain g g' a b d r = (a r).bind fun x r => (b r).bind fun y r => (M.opt (g x y) r).bind fun z r => (match z with
  | .bool true => (d r).bind fun z r => M.opt (g' y z) r
  | .bool false => .ok (.bool false) r
  | _ => .no) := by
  show (a r).bind (fun x => b.bind fun y => (M.opt (g x y)).bind fun z => (match z with
  | .bool true => d.bind fun z => M.opt (g' y z)
  | .bool false => M.ret (.bool false)
  | _ => M.no)) = _
  congr 1
  funext x r
  show (b r).bind _ = _
  congr 1
  funext y r
  show (M.opt (g x y) r).bind _ = _
  congr 1
  funext z r
  cases z with
  | bool b => cases b <;> rfl
  | _ => rfl
@[simp] theorem setN_ap (i : Nat) (s : Sl) (r : En) : setN i s r = (match r[i]? with
  | some q => if q.isIo = true then none else some (r.set i s)
  | none => none) := by
  unfold setN
  cases r[i]? with
  | none => rfl
  | some q => cases q <;> rfl
@[simp] theorem io_unk : Sl.isIo .unk = false := rfl
@[simp] theorem io_v (d : D) : Sl.isIo (.v d) = false := rfl
@[simp] theorem io_o (c : Ct) : Sl.isIo (.o c) = false := rfl
@[simp] theorem io_io (c : Ct) : Sl.isIo (.io c) = true := rfl
@[simp] theorem setM_ap (i : Nat) (s : Sl) (r : En) : setM i s r = (match setN i s r with
  | some r' => .ok .nx r'
  | none => .no) := rfl
@[simp] theorem slOf_v (d : D) : slOf (.v d) = .v d := rfl
@[simp] theorem slOf_o (d : Ct) : slOf (.o d) = .o d := rfl
@[simp] theorem sSet_ap (i : Nat) (m : M D) (r : En) : sSet i m r = (m r).bind fun d r => setM i (.v d) r := rfl
@[simp] theorem sSetO_ap (i : Nat) (m : M RV) (r : En) : sSetO i m r = (m r).bind fun d r => setM i (slOf d) r := rfl
@[simp] theorem sNil_ap (r : En) : sNil r = .ok .nx r := rfl
theorem sSeq_ap (m n : M Fl) (r : En) : sSeq m n r = (m r).bind fun fl r => (match fl with
  | .nx => n r
  | f => .ok f r) := by
  show (m r).bind (fun fl => (match fl with
  | .nx => n
  | f => M.ret f)) = _
  congr 1
  funext fl r
  cases fl <;> rfl
theorem qo_seq {kk : Fl → En → Prop} (m n : M Fl) (r : En) : Po X (sSeq m n r) kk = Po X (m r) fun fl r => (match fl with
  | .nx => Po X (n r) kk
  | f => kk f r) := by
  rw [sSeq_ap, qo_bind]
  congr 1
  funext fl r
  cases fl <;> rfl
@[simp] theorem sIf_ap (t : M Bool) (a b : M Fl) (r : En) : sIf t a b r = (t r).bind fun x r => if x = true then a r else b r := by
  show (t r).bind (fun x => if x = true then a else b) = _
  congr 1
  funext x r
  cases x <;> rfl
@[simp] theorem qo_ite (p : Prop) [Decidable p] (x y : Re α) : Po X (if p then x else y) k = if p then Po X x k else Po X y k := by split <;> rfl
@[simp] theorem sRet_ap (m : M RV) (r : En) : sRet m r = (m r).bind fun d r => .ok (.rt d) r := rfl
@[simp] theorem sDrop_ap (m : M D) (r : En) : sDrop m r = (m r).bind fun _ r => .ok .nx r := rfl
@[simp] theorem sDropO_ap (m : M RV) (r : En) : sDropO m r = (m r).bind fun _ r => .ok .nx r := rfl
@[simp] theorem frzE_ap (i : Nat) (r : En) : frzE i r = (match r[i]? with
  | some (.o (.l ds)) => r.set i (.v (.list ds))
  | some (.o (.n t)) => (match t.data with
    | some d => r.set i (.v d)
    | none => r)
  | _ => r) := rfl
@[simp] theorem frz_ap (i : Nat) (m : M α) (r : En) : frz i m r = m (frzE i r) := rfl
@[simp] theorem takeS_ap (i : Nat) (r : En) : takeS i r = (match r[i]? with
  | some (.v d) => .ok (.v d) r
  | some (.o ct) => .ok (.o ct) (r.set i .unk)
  | _ => .no) := rfl
@[simp] theorem gN_ap (i : Nat) (d : D) (r : En) : gN i d r = setN i (.v d) r := rfl
@[simp] theorem gT_ap (t : Tgs) (ds : List D) (r : En) : gT t (.tuple ds) r = t ds r := rfl
@[simp] theorem gT_l (t : Tgs) (ds : List D) (r : En) : gT t (.list ds) r = t ds r := rfl
@[simp] theorem gNl_ap (r : En) : gNl [] r = some r := rfl
@[simp] theorem gCn_ap (t : Tg) (ts : Tgs) (d : D) (ds : List D) (r : En) : gCn t ts (d :: ds) r = (t d r).bind fun r' => ts ds r' := rfl
@[simp] theorem sAsg_ap (t : Tg) (m : M D) (r : En) : sAsg t m r = (m r).bind fun d r => (match t d r with
  | some r' => .ok .nx r'
  | none => .no) := rfl
@[simp] theorem sPar_ap (i j : Nat) (m : M (List D)) (r : En) : sPar i j m r = (m r).bind fun ds r => (match ds with
  | [a, b] => (match (setN i (.v a) r).bind (setN j (.v b)) with
    | some r' => .ok .nx r'
    | none => .no)
  | _ => .no) := by
  unfold sPar
  show (m r).bind _ = _
  congr 1
  funext ds r
  rcases ds with _ | ⟨a, _ | ⟨b, _ | ⟨c, ds⟩⟩⟩ <;> rfl
@[simp] theorem iSeq_ap (m : M D) (r : En) : iSeq m r = (m r).bind fun d r => M.opt (seqOf d) r := rfl
@[simp] theorem seqOf_l (ds : List D) : seqOf (.list ds) = some ds := rfl
@[simp] theorem seqOf_t (ds : List D) : seqOf (.tuple ds) = some ds := rfl
@[simp] theorem iBy_ap (g : List D → Option (List D)) (m : M (List D)) (r : En) : iBy g m r = (m r).bind fun ds r => M.opt (g ds) r := rfl
theorem rng1_iff (j : Int) (xs : List D) : (rng1 [.int j] = some xs) = ((-(2 ^ 62) ≤ j ∧ j < 2 ^ 62) ∧ rngD 0 j.toNat = xs) := by
  show (cI (-(2 ^ 62) ≤ j ∧ j < 2 ^ 62) (some (rngD 0 j.toNat)) none = some xs) = _
  rw [cI_eq]
  exact ite_some _ _ _
theorem rng2_iff (i j : Int) (xs : List D) : (rng2 [.int i, .int j] = some xs) = (((-(2 ^ 62) ≤ i ∧ i < 2 ^ 62) ∧ (-(2 ^ 62) ≤ j ∧ j < 2 ^ 62)) ∧ rngD i (j - i).toNat = xs) := by
  show (cI ((-(2 ^ 62) ≤ i ∧ i < 2 ^ 62) ∧ (-(2 ^ 62) ≤ j ∧ j < 2 ^ 62)) (some (rngD i (j - i).toNat)) none = some xs) = _
  rw [cI_eq]
  exact ite_some _ _ _
theorem enF_zip {γ : Type} (g : γ → D) : ∀ (k : Nat) (xs : List γ), enF k (xs.map g) = (xs.zipIdx k).map fun p => .tuple [.int (p.2 : Nat), g p.1]
  | _, [] => rfl
  | k, x :: xs => by
    rw [List.map_cons, List.zipIdx_cons, List.map_cons, ← enF_zip g (k + 1) xs]
    rfl
@[simp] theorem enOf_l {γ : Type} (g : γ → D) (xs : List γ) : enOf [.list (xs.map g)] = some ((xs.zipIdx 0).map fun p => .tuple [.int (p.2 : Nat), g p.1]) := by
  rw [← enF_zip]
  rfl
@[simp] theorem enOf_t {γ : Type} (g : γ → D) (xs : List γ) : enOf [.tuple (xs.map g)] = some ((xs.zipIdx 0).map fun p => .tuple [.int (p.2 : Nat), g p.1]) := by
  rw [← enF_zip]
  rfl
theorem rng_map (lo : Int) (n : Nat) : rngD lo n = (List.range n).map fun k : Nat => PyData.int (lo + (k : Int)) := rfl
@[simp] theorem pNone_ap (r : En) : pNone r = .ok none r := rfl
@[simp] theorem pSome_ap (m : M D) (r : En) : pSome m r = (m r).bind fun d r => M.opt (match d with
  | .int i => some (some i)
  | _ => none) r := rfl
@[simp] theorem eSl_ap (m : M D) (l u : M (Option Int)) (r : En) : eSl m l u r = (m r).bind fun d r => (l r).bind fun a r => (u r).bind fun b r => M.opt (slD d a b) r := rfl
@[simp] theorem slD_l (ds : List D) (a b : Option Int) : slD (.list ds) a b = some (.list (cutL ds a b)) := rfl
@[simp] theorem slD_t (ds : List D) (a b : Option Int) : slD (.tuple ds) a b = some (.tuple (cutL ds a b)) := rfl
@[simp] theorem revD_l (ds : List D) : revD (.list ds) = some (.list ds.reverse) := rfl
@[simp] theorem revD_t (ds : List D) : revD (.tuple ds) = some (.tuple ds.reverse) := rfl
@[simp] theorem sAppend_ap (i : Nat) (m : M D) (r : En) : sAppend i m r = (match getC i r with
  | some (.l _) => (m r).bind fun d r => (match getC i r with
    | some (.l ds) => if ds.length < 16777216 then .ok .nx (putC i (.l (ds ++ [d])) r) else .no
    | _ => .no)
  | _ => .no) := rfl
@[simp] theorem sExtend_ap (i : Nat) (m : M RV) (r : En) : sExtend i m r = (match getC i r with
  | some (.l _) => (m r).bind fun rv r => (match rv, getC i r with
    | .o (.l es), some (.l ds) => if ds.length + es.length ≤ 16777216 then .ok .nx (putC i (.l (ds ++ es)) r) else .no
    | _, _ => .no)
  | _ => .no) := rfl
@[simp] theorem getC_ap (i : Nat) (r : En) : getC i r = (r[i]?).bind Sl.own := rfl
@[simp] theorem putC_ap (i : Nat) (ct : Ct) (r : En) : putC i ct r = (match r[i]? with
  | some s => r.set i (s.put ct)
  | none => r) := rfl
@[simp] theorem own_o (c : Ct) : Sl.own (.o c) = some c := rfl
@[simp] theorem own_io (c : Ct) : Sl.own (.io c) = some c := rfl
@[simp] theorem own_v (d : D) : Sl.own (.v d) = none := rfl
@[simp] theorem own_unk : Sl.own .unk = none := rfl
@[simp] theorem put_o (c c' : Ct) : Sl.put c (.o c') = .o c := rfl
@[simp] theorem put_io (c c' : Ct) : Sl.put c (.io c') = .io c := rfl
@[simp] theorem eIxS_ap (i : Nat) (mk : M D) (r : En) : eIxS i mk r = (match getC i r with
  | some (.l _) => (mk r).bind fun k r => (match getC i r with
    | some (.l ds) => M.opt (ixL ds k) r
    | _ => .no)
  | some (.d _) => (mk r).bind fun k r => (match getC i r with
    | some (.d kvs) => M.opt ((keyD k).bind (vK kvs)) r
    | _ => .no)
  | some (.t _) => .no
  | some (.n _) => .no
  | none => bin ixD (getS i) mk r) := rfl
@[simp] theorem sPut_ap (i : Nat) (mk m : M D) (r : En) : sPut' i mk m r = (m r).bind fun d r => (match getC i r with
  | none => .no
  | some _ => (mk r).bind fun k r => (match getC i r with
    | some (.l ds) => (match k with
      | .int n => (match ixN ds.length n with
        | some j => .ok .nx (putC i (.l (ds.set j d)) r)
        | none => .no)
      | _ => .no)
    | some (.d kvs) => (match keyD k with
      | some y => if kvs.length < 16777216 then .ok .nx (putC i (.d (pK kvs y d)) r) else .no
      | none => .no)
    | some (.t kvs) => (match tkeyD k with
      | some y => if kvs.length < 16777216 then .ok .nx (putC i (.t (pK kvs y d)) r) else .no
      | none => .no)
    | some (.n _) => .no
    | none => .no)) := rfl
@[simp] theorem ixL_ap (ds : List D) (n : Int) : ixL ds (.int n) = atI ds n := rfl
@[simp] theorem ixD_l (ds : List D) (k : D) : ixD (.list ds) k = ixL ds k := rfl
@[simp] theorem ixD_t (ds : List D) (k : D) : ixD (.tuple ds) k = ixL ds k := rfl
@[simp] theorem lenD_l (ds : List D) : lenD (.list ds) = some (.int (ds.length : Nat)) := rfl
@[simp] theorem lenD_t (ds : List D) : lenD (.tuple ds) = some (.int (ds.length : Nat)) := rfl
@[simp] theorem one_ap (g : D → Option D) (d : D) : one g [d] = g d := rfl
@[simp] theorem two_ap (g : D → D → Option D) (d e : D) : two g [d, e] = g d e := rfl
@[simp] theorem eLenS_ap (i : Nat) (r : En) : eLenS i r = (match getC i r with
  | some (.l ds) => .ok (.int (ds.length : Nat)) r
  | some (.d kvs) => .ok (.int (kvs.length : Nat)) r
  | some (.t _) => .no
  | some (.n _) => .no
  | none => nry (one lenD) (aCons (getS i) aNil) r) := rfl
@[simp] theorem addD_i (i j : Int) : addD (.int i) (.int j) = some (.int (i + j)) := rfl
@[simp] theorem addD_l (xs ys : List D) : addD (.list xs) (.list ys) = szC (xs.length + ys.length) (.list (xs ++ ys)) := rfl
@[simp] theorem addD_t (xs ys : List D) : addD (.tuple xs) (.tuple ys) = szC (xs.length + ys.length) (.tuple (xs ++ ys)) := rfl
@[simp] theorem subD_i (i j : Int) : subD (.int i) (.int j) = some (.int (i - j)) := rfl
theorem mulD_iff (i j : Int) (d : D) : (mulD (.int i) (.int j) = some d) = (mulOk i j ∧ .int (i * j) = d) := by
  show (cI (mulOk i j) (some (PyData.int (i * j))) none = some d) = _
  rw [cI_eq]
  exact ite_some _ _ _
theorem fdivD_iff (i j : Int) (d : D) : (fdivD (.int i) (.int j) = some d) = ((j ≠ 0 ∧ j.natAbs.log2 < 9000) ∧ .int (i.fdiv j) = d) := by
  show (cI (j ≠ 0 ∧ j.natAbs.log2 < 9000) (some (PyData.int (i.fdiv j))) none = some d) = _
  rw [cI_eq]
  exact ite_some _ _ _
theorem modD_iff (i j : Int) (d : D) : (modD (.int i) (.int j) = some d) = (j ≠ 0 ∧ .int (i.fmod j) = d) := by
  show (cI (j ≠ 0) (some (PyData.int (i.fmod j))) none = some d) = _
  rw [cI_eq]
  exact ite_some _ _ _
theorem powD_iff (i j : Int) (d : D) : (powD (.int i) (.int j) = some d) = ((0 ≤ j ∧ j ≤ 1000000 ∧ i.natAbs < 2 ^ 64) ∧ .int (i ^ j.toNat) = d) := by
  show (cI (0 ≤ j ∧ j ≤ 1000000 ∧ i.natAbs < 2 ^ 64) (some (PyData.int (i ^ j.toNat))) none = some d) = _
  rw [cI_eq]
  exact ite_some _ _ _
@[simp] theorem negD_i (i : Int) : negD (.int i) = some (.int (-i)) := rfl
@[simp] theorem ltD_i (i j : Int) : ltD (.int i) (.int j) = some (.bool (decide (i < j))) := congrArg (fun b => some (PyData.bool b)) (cd_eq _)
@[simp] theorem leD_i (i j : Int) : leD (.int i) (.int j) = some (.bool (decide (i ≤ j))) := congrArg (fun b => some (PyData.bool b)) (cd_eq _)
@[simp] theorem gtD_i (i j : Int) : gtD (.int i) (.int j) = some (.bool (decide (j < i))) := congrArg (fun b => some (PyData.bool b)) (cd_eq _)
@[simp] theorem geD_i (i j : Int) : geD (.int i) (.int j) = some (.bool (decide (j ≤ i))) := congrArg (fun b => some (PyData.bool b)) (cd_eq _)
@[simp] theorem eqD_i (i j : Int) : eqD (.int i) (.int j) = some (.bool (decide (i = j))) := by
  show some (PyData.bool (i == j)) = _
  congr 2
@[simp] theorem neD_i (i j : Int) : neD (.int i) (.int j) = some (.bool (!decide (i = j))) := by
  show some (PyData.bool (!(i == j))) = _
  congr 2
@[simp] theorem eqD_s (i j : Str) : eqD (.str i) (.str j) = some (.bool (decide (i = j))) := rfl
@[simp] theorem neD_s (i j : Str) : neD (.str i) (.str j) = some (.bool (!decide (i = j))) := rfl
theorem eqD_ll {xs ys : List D} (h1 : SeqAt.shaped (.list xs) = true) (h2 : SeqAt.shaped (.list ys) = true) : eqD (.list xs) (.list ys) = some (.bool (PyData.eqvAll xs ys)) := if_pos ⟨h1, h2⟩
theorem neD_ll {xs ys : List D} (h1 : SeqAt.shaped (.list xs) = true) (h2 : SeqAt.shaped (.list ys) = true) : neD (.list xs) (.list ys) = some (.bool (!PyData.eqvAll xs ys)) := if_pos ⟨h1, h2⟩
theorem eqD_tt {xs ys : List D} (h1 : SeqAt.shaped (.tuple xs) = true) (h2 : SeqAt.shaped (.tuple ys) = true) : eqD (.tuple xs) (.tuple ys) = some (.bool (PyData.eqvAll xs ys)) := if_pos ⟨h1, h2⟩
theorem neD_tt {xs ys : List D} (h1 : SeqAt.shaped (.tuple xs) = true) (h2 : SeqAt.shaped (.tuple ys) = true) : neD (.tuple xs) (.tuple ys) = some (.bool (!PyData.eqvAll xs ys)) := if_pos ⟨h1, h2⟩
/-! plain data: whole numbers, yes and no, None, rows of such -/
mutual
def pln : D → Bool
  | .none => true
  | .bool _ => true
  | .int i => decide (i.natAbs < 2 ^ 1900)
  | .str x => (PyData.str x).showable && ((PyData.str x).canLay0 && (PyData.str x).leavesShort 1901)
  | .list xs => plnAll xs
  | .tuple xs => plnAll xs
  | .dict _ => false
def plnAll : List D → Bool
  | [] => true
  | x :: xs => pln x && plnAll xs
end
theorem int_len {i : Int} (h : i.natAbs < 2 ^ 1900) : (PyData.shown (.int i)).length ≤ 1901 := by
  show (Str.ofString (toString i)).length ≤ 1901
  rw [ofString_length]
  exact int_text_length_le (k := 1900) (by decide) (PySem.Flt.log2_lt_of (by decide) h)
mutual
theorem pln_ok : ∀ d : D, pln d = true → d.showable = true ∧ d.canLay0 = true ∧ d.leavesShort 1901 = true
  | .none, _ => ⟨rfl, rfl, rfl⟩
  | .bool _, _ => ⟨rfl, rfl, rfl⟩
  | .int i, h => by
    have h : i.natAbs < 2 ^ 1900 := of_decide_eq_true h
    refine ⟨?_, rfl, ?_⟩
    · exact decide_eq_true (by
        have : i.natAbs.log2 < 1900 := PySem.Flt.log2_lt_of (by decide) h
        omega)
    · exact decide_eq_true (int_len h)
  | .str x, h => by
    have h : ((PyData.str x).showable && ((PyData.str x).canLay0 && (PyData.str x).leavesShort 1901)) = true := h -- pln_str
    rw [Bool.and_eq_true, Bool.and_eq_true] at h
    exact ⟨h.1, h.2.1, h.2.2⟩
  | .list xs, h => plnAll_ok xs h
  | .tuple xs, h => plnAll_ok xs h
  | .dict _, h => by cases h
theorem plnAll_ok : ∀ xs : List D, plnAll xs = true → PyData.showableAll xs = true ∧ PyData.canLayAll0 xs = true ∧ PyData.leavesShortAll 1901 xs = true
  | [], _ => ⟨rfl, rfl, rfl⟩
  | x :: xs, h => by
    have h : (pln x && plnAll xs) = true := h
    obtain ⟨h1, h2⟩ := Bool.and_eq_true_iff.mp h
    obtain ⟨a1, a2, a3⟩ := pln_ok x h1
    obtain ⟨b1, b2, b3⟩ := plnAll_ok xs h2
    exact ⟨Bool.and_eq_true_iff.mpr ⟨a1, b1⟩, Bool.and_eq_true_iff.mpr ⟨a2, b2⟩, Bool.and_eq_true_iff.mpr ⟨a3, b3⟩⟩
end
theorem pln_shaped {d : D} (h : pln d = true) (hd : d.depth ≤ 64) : SeqAt.shaped d = true := Bool.and_eq_true_iff.mpr ⟨(pln_ok d h).2.1, decide_eq_true hd⟩
theorem plnAll_map {γ : Type} (f : γ → D) : ∀ xs : List γ, (∀ x ∈ xs, pln (f x) = true) → plnAll (xs.map f) = true
  | [], _ => rfl
  | x :: xs, h => Bool.and_eq_true_iff.mpr ⟨h x (List.mem_cons_self ..), plnAll_map f xs fun y hy => h y (List.mem_cons_of_mem _ hy)⟩
theorem depthAll_map {γ : Type} (f : γ → D) (k : Nat) : ∀ xs : List γ, (∀ x ∈ xs, (f x).depth ≤ k) → PyData.depthAll (xs.map f) ≤ k
  | [], _ => Nat.zero_le _
  | x :: xs, h => by
    have h1 := h x (List.mem_cons_self ..)
    have h2 := depthAll_map f k xs fun y hy => h y (List.mem_cons_of_mem _ hy)
    simp only [List.map_cons, PyData.depthAll]
    omega
theorem bulkAll_map {γ : Type} (f : γ → D) (k : Nat) : ∀ xs : List γ, (∀ x ∈ xs, (f x).bulk ≤ k) → PyData.bulkAll (xs.map f) ≤ (k + 1) * xs.length
  | [], _ => Nat.zero_le _
  | x :: xs, h => by
    have h1 := h x (List.mem_cons_self ..)
    have h2 := bulkAll_map f k xs fun y hy => h y (List.mem_cons_of_mem _ hy)
    simp only [List.map_cons, PyData.bulkAll, List.length_cons, Nat.mul_add, Nat.mul_one]
    omega
theorem lay_ints : ∀ xs : List Int, PyData.canLayAll0 (xs.map .int) = true
  | [] => rfl
  | _ :: xs => lay_ints xs
theorem shaped_t (xs : List Int) : SeqAt.shaped (.tuple (xs.map .int)) = true := Bool.and_eq_true_iff.mpr ⟨lay_ints xs, decide_eq_true (by
  have := depthAll_map PyData.int 1 xs fun x _ => by simp [PyData.depth]
  simp only [PyData.depth]
  omega)⟩
theorem shaped_l (xs : List Int) : SeqAt.shaped (.list (xs.map .int)) = true := Bool.and_eq_true_iff.mpr ⟨lay_ints xs, decide_eq_true (by
  have := depthAll_map PyData.int 1 xs fun x _ => by simp [PyData.depth]
  simp only [PyData.depth]
  omega)⟩
theorem eqv_ints : ∀ xs ys : List Int, PyData.eqvAll (xs.map .int) (ys.map .int) = decide (xs = ys)
  | [], [] => rfl
  | [], _ :: _ => rfl
  | _ :: _, [] => rfl
  | x :: xs, y :: ys => by
    show ((x == y) && PyData.eqvAll (xs.map .int) (ys.map .int)) = _
    rw [eqv_ints xs ys]
    by_cases h1 : x = y
    · by_cases h2 : xs = ys
      · simp [h1, h2]
      · simp [h1, h2]
    · simp [h1]
@[simp] theorem eqD_T (xs ys : List Int) : eqD (.tuple (xs.map .int)) (.tuple (ys.map .int)) = some (.bool (decide (xs = ys))) := by
  rw [eqD_tt (shaped_t _) (shaped_t _), eqv_ints]
@[simp] theorem neD_T (xs ys : List Int) : neD (.tuple (xs.map .int)) (.tuple (ys.map .int)) = some (.bool (!decide (xs = ys))) := by
  rw [neD_tt (shaped_t _) (shaped_t _), eqv_ints]
@[simp] theorem eqD_L (xs ys : List Int) : eqD (.list (xs.map .int)) (.list (ys.map .int)) = some (.bool (decide (xs = ys))) := by
  rw [eqD_ll (shaped_l _) (shaped_l _), eqv_ints]
@[simp] theorem neD_L (xs ys : List Int) : neD (.list (xs.map .int)) (.list (ys.map .int)) = some (.bool (!decide (xs = ys))) := by
  rw [neD_ll (shaped_l _) (shaped_l _), eqv_ints]
@[simp] theorem neD_b (i j : Bool) : neD (.bool i) (.bool j) = some (.bool (!decide (i = j))) := by
  show some (PyData.bool (!(i == j))) = _
  congr 2
@[simp] theorem eqD_b (i j : Bool) : eqD (.bool i) (.bool j) = some (.bool (decide (i = j))) := by
  show some (PyData.bool (i == j)) = _
  congr 2
@[simp] theorem tru_b (b : Bool) : tru (.bool b) = some b := rfl
@[simp] theorem tru_i (i : Int) : tru (.int i) = some (i != 0) := rfl
@[simp] theorem tru_l (ds : List D) : tru (.list ds) = some (!ds.isEmpty) := rfl
@[simp] theorem tru_t (ds : List D) : tru (.tuple ds) = some (!ds.isEmpty) := rfl
@[simp] theorem absD_i (i : Int) : absD (.int i) = some (.int (if i < 0 then -i else i)) := rfl
@[simp] theorem tupD_l (ds : List D) : tupD (.list ds) = some (.tuple ds) := rfl
@[simp] theorem tupD_t (ds : List D) : tupD (.tuple ds) = some (.tuple ds) := rfl
@[simp] theorem isi_ii (i : Int) : isiD "int" (.int i) = some (.bool true) := by kernel_rfl
@[simp] theorem isi_ib (i : Int) : isiD "bool" (.int i) = some (.bool false) := by kernel_rfl
@[simp] theorem isi_it (i : Int) : isiD "tuple" (.int i) = some (.bool false) := by kernel_rfl
@[simp] theorem isi_tt (ds : List D) : isiD "tuple" (.tuple ds) = some (.bool true) := by kernel_rfl
@[simp] theorem isi_ll (ds : List D) : isiD "list" (.list ds) = some (.bool true) := by kernel_rfl
@[simp] theorem eqS_ap (i : Nat) (mb : M D) (r : En) : eqS i mb r = (match getC i r with
  | some (.l _) => (mb r).bind fun d r => (match getC i r with
    | some (.l ds) => M.opt (eqD0 (.list ds) d) r
    | _ => .no)
  | some (.d _) => .no
  | some (.t _) => .no
  | some (.n _) => .no
  | none => bin eqD (getS i) mb r) := rfl
@[simp] theorem neS_ap (i : Nat) (mb : M D) (r : En) : neS i mb r = (match getC i r with
  | some (.l _) => (mb r).bind fun d r => (match getC i r with
    | some (.l ds) => M.opt (neD (.list ds) d) r
    | _ => .no)
  | some (.d _) => .no
  | some (.t _) => .no
  | some (.n _) => .no
  | none => bin neD (getS i) mb r) := rfl
@[simp] theorem cCall0_ap (f : List Sl → Re RV) (r : En) : cCall0 f r = cCall f aNil r := rfl
@[simp] theorem binO_ap (g : D → D → Option RV) (a b : M D) (r : En) : binO g a b r = (a r).bind fun x r => (b r).bind fun y r => M.opt (g x y) r := rfl
@[simp] theorem addO_l (xs ys : List D) : addO (.list xs) (.list ys) = szC (xs.length + ys.length) (.o (.l (xs ++ ys))) := rfl
@[simp] theorem addO_t (xs ys : List D) : addO (.tuple xs) (.tuple ys) = (szC (xs.length + ys.length) (PyData.tuple (xs ++ ys))).map .v := rfl
@[simp] theorem listD_t (xs : List D) : listD [.tuple xs] = some xs := rfl
@[simp] theorem listD_l (xs : List D) : listD [.list xs] = some xs := rfl
@[simp] theorem addO_i (i j : Int) : addO (.int i) (.int j) = some (.v (.int (i + j))) := rfl
@[simp] theorem mulO_iff (xs : List D) (k : Int) (d : RV) : (mulO (.list xs) (.int k) = some d) = (((-(2 ^ 63) ≤ k ∧ k < 2 ^ 63) ∧ xs.length * k.toNat ≤ 16777216) ∧ .o (.l (List.replicate k.toNat xs).flatten) = d) := by
  show (cI ((-(2 ^ 63) ≤ k ∧ k < 2 ^ 63) ∧ xs.length * k.toNat ≤ 16777216) (some (RV.o (.l (List.replicate k.toNat xs).flatten))) none = some d) = _
  rw [cI_eq]
  exact ite_some _ _ _
@[simp] theorem sAppX_ap (m : M RV) (r : En) : sAppX m r = (m r).bind fun rv r => (match rv with
  | .o (.l ds) => if ds.length < 16777216 then .ok .nx r else .no
  | _ => .no) := by
  show (m r).bind _ = _
  congr 1
  funext rv r
  rcases rv with d | ct
  · rfl
  · cases ct with
    | l ds =>
      simp only
      split <;> rfl
    | d kvs => rfl
    | t kvs => rfl
    | n t => rfl
/-! an answer with a condition -/
@[simp] theorem qo_szM {γ : Type} (n : Nat) (a : γ) (f : γ → α) (r : En) : Po X (M.opt ((szC n a).map f) r) k = (n ≤ 16777216 ∧ k (f a) r) := by
  unfold szC
  by_cases h : n ≤ 16777216
  · rw [if_pos h]
    simp [h]
  · rw [if_neg h]
    simp [h]
@[simp] theorem qo_szC (n : Nat) (a : α) (r : En) : Po X (M.opt (szC n a) r) k = (n ≤ 16777216 ∧ k a r) := by
  rw [qo_opt]
  simp only [szC_iff]
  exact propext ⟨fun ⟨_, ⟨h, e⟩, q⟩ => ⟨h, by rw [e]; exact q⟩, fun ⟨h, q⟩ => ⟨a, ⟨h, rfl⟩, q⟩⟩
section
variable {kd : D → En → Prop} {kl : List D → En → Prop}
@[simp] theorem qo_rng1 (j : Int) (r : En) : Po X (M.opt (rng1 [.int j]) r) kl = ((-(2 ^ 62) ≤ j ∧ j < 2 ^ 62) ∧ kl (rngD 0 j.toNat) r) := by
  rw [qo_opt]
  simp only [rng1_iff]
  exact propext ⟨fun ⟨_, ⟨h, e⟩, q⟩ => ⟨h, by rw [e]; exact q⟩, fun ⟨h, q⟩ => ⟨_, ⟨h, rfl⟩, q⟩⟩
@[simp] theorem qo_rng2 (i j : Int) (r : En) : Po X (M.opt (rng2 [.int i, .int j]) r) kl = (((-(2 ^ 62) ≤ i ∧ i < 2 ^ 62) ∧ (-(2 ^ 62) ≤ j ∧ j < 2 ^ 62)) ∧ kl (rngD i (j - i).toNat) r) := by
  rw [qo_opt]
  simp only [rng2_iff]
  exact propext ⟨fun ⟨_, ⟨h, e⟩, q⟩ => ⟨h, by rw [e]; exact q⟩, fun ⟨h, q⟩ => ⟨_, ⟨h, rfl⟩, q⟩⟩
@[simp] theorem qo_mul (i j : Int) (r : En) : Po X (M.opt (mulD (.int i) (.int j)) r) kd = (mulOk i j ∧ kd (.int (i * j)) r) := by
  rw [qo_opt]
  simp only [mulD_iff]
  exact propext ⟨fun ⟨_, ⟨h, e⟩, q⟩ => ⟨h, by rw [e]; exact q⟩, fun ⟨h, q⟩ => ⟨_, ⟨h, rfl⟩, q⟩⟩
@[simp] theorem qo_fdiv (i j : Int) (r : En) : Po X (M.opt (fdivD (.int i) (.int j)) r) kd = ((j ≠ 0 ∧ j.natAbs.log2 < 9000) ∧ kd (.int (i.fdiv j)) r) := by
  rw [qo_opt]
  simp only [fdivD_iff]
  exact propext ⟨fun ⟨_, ⟨h, e⟩, q⟩ => ⟨h, by rw [e]; exact q⟩, fun ⟨h, q⟩ => ⟨_, ⟨h, rfl⟩, q⟩⟩
@[simp] theorem qo_mod (i j : Int) (r : En) : Po X (M.opt (modD (.int i) (.int j)) r) kd = (j ≠ 0 ∧ kd (.int (i.fmod j)) r) := by
  rw [qo_opt]
  simp only [modD_iff]
  exact propext ⟨fun ⟨_, ⟨h, e⟩, q⟩ => ⟨h, by rw [e]; exact q⟩, fun ⟨h, q⟩ => ⟨_, ⟨h, rfl⟩, q⟩⟩
@[simp] theorem qo_pow (i j : Int) (r : En) : Po X (M.opt (powD (.int i) (.int j)) r) kd = ((0 ≤ j ∧ j ≤ 1000000 ∧ i.natAbs < 2 ^ 64) ∧ kd (.int (i ^ j.toNat)) r) := by
  rw [qo_opt]
  simp only [powD_iff]
  exact propext ⟨fun ⟨_, ⟨h, e⟩, q⟩ => ⟨h, by rw [e]; exact q⟩, fun ⟨h, q⟩ => ⟨_, ⟨h, rfl⟩, q⟩⟩
@[simp] theorem qo_mulO {kr : RV → En → Prop} (xs : List D) (j : Int) (r : En) : Po X (M.opt (mulO (.list xs) (.int j)) r) kr = (((-(2 ^ 63) ≤ j ∧ j < 2 ^ 63) ∧ xs.length * j.toNat ≤ 16777216) ∧ kr (.o (.l (List.replicate j.toNat xs).flatten)) r) := by
  rw [qo_opt]
  simp only [mulO_iff]
  exact propext ⟨fun ⟨_, ⟨h, e⟩, q⟩ => ⟨h, by rw [e]; exact q⟩, fun ⟨h, q⟩ => ⟨_, ⟨h, rfl⟩, q⟩⟩
@[simp] theorem qo_mulL (xs : List D) (k : Int) (r : En) : Po X (M.opt (mulD (.list xs) (.int k)) r) kd = (((-(2 ^ 63) ≤ k ∧ k < 2 ^ 63) ∧ xs.length * k.toNat ≤ 16777216) ∧ kd (.list (List.replicate k.toNat xs).flatten) r) := by
  rw [qo_opt]
  show (∃ a, cI ((-(2 ^ 63) ≤ k ∧ k < 2 ^ 63) ∧ xs.length * k.toNat ≤ 16777216) (some (PyData.list (List.replicate k.toNat xs).flatten)) none = some a ∧ kd a r) = _
  rw [cI_eq]
  simp only [ite_some]
  exact propext ⟨fun ⟨_, ⟨h, e⟩, q⟩ => ⟨h, by rw [e]; exact q⟩, fun ⟨h, q⟩ => ⟨_, ⟨h, rfl⟩, q⟩⟩
@[simp] theorem qo_mulT (xs : List D) (k : Int) (r : En) : Po X (M.opt (mulD (.tuple xs) (.int k)) r) kd = ((-1000 ≤ k ∧ k ≤ 1000 ∧ xs.length ≤ 1000) ∧ kd (.tuple (List.replicate k.toNat xs).flatten) r) := by
  rw [qo_opt]
  show (∃ a, cI (-1000 ≤ k ∧ k ≤ 1000 ∧ xs.length ≤ 1000) (some (PyData.tuple (List.replicate k.toNat xs).flatten)) none = some a ∧ kd a r) = _
  rw [cI_eq]
  simp only [ite_some]
  exact propext ⟨fun ⟨_, ⟨h, e⟩, q⟩ => ⟨h, by rw [e]; exact q⟩, fun ⟨h, q⟩ => ⟨_, ⟨h, rfl⟩, q⟩⟩
@[simp] theorem qo_at (xs : List D) (n : Int) (r : En) : Po X (M.opt (atI xs n) r) kd = ∃ d, atI xs n = some d ∧ kd d r := qo_opt _ _
@[simp] theorem atI_nat {α : Type} (xs : List α) (i : Nat) : atI xs (i : Int) = xs[i]? := by
  unfold atI ixN
  rw [if_pos (by omega)]
  by_cases h : i < xs.length
  · rw [if_pos (by omega)]
    simp
  · rw [if_neg (by omega), List.getElem?_eq_none (by omega)]
    rfl
theorem atI_map {α β : Type} (f : α → β) (xs : List α) (n : Int) : atI (xs.map f) n = (atI xs n).map f := by
  unfold atI
  rw [List.length_map]
  cases ixN xs.length n with
  | none => rfl
  | some j => simp
@[simp high] theorem qo_atI (xs : List Int) (n : Int) (r : En) : Po X (M.opt (atI (xs.map .int) n) r) kd = ∃ c, atI xs n = some c ∧ kd (.int c) r := by
  rw [qo_opt, atI_map]
  cases atI xs n with
  | none => simp
  | some c => simp
end
/-! calls -/
@[simp] theorem qo_call {kk : RV → En → Prop} (f : List Sl → Re RV) (ms : M (List D)) (r : En) : Po X (cCall f ms r) kk = Po X (ms r) fun ds r => Po (fun e _ => X e r) (f (ds.map .v)) fun rv _ => kk rv r := by
  show Po X ((ms r).bind _) kk = _
  rw [qo_bind]
  congr 1
  funext ds r
  cases f (ds.map .v) <;> rfl
def InIo (P : Ct → Prop) : List Sl → Prop
  | .io c :: _ => P c
  | _ => False
@[simp] theorem inIo (P : Ct → Prop) (c : Ct) (t : List Sl) : InIo P (.io c :: t) = P c := rfl
@[simp] theorem qo_callI {kk : RV → En → Prop} (f : List Sl → Re RV) (ms : M (List D)) (i : Nat) (r : En) : Po X (cCallI i f ms r) kk = (match getC i r with
  | none => False
  | some _ => Po X (ms r) fun ds r1 => (match getC i r1 with
    | none => False
    | some ct => Po (fun e z => InIo (fun c => X e (putC i c r1)) z) (f (.io ct :: ds.map .v)) fun rv z => InIo (fun c => kk rv (putC i c r1)) z)) := by
  unfold cCallI
  cases getC i r with
  | none => rfl
  | some c0 =>
    show Po X ((ms r).bind _) kk = _
    rw [qo_bind]
    simp only
    congr 1
    funext ds r1
    cases getC i r1 with
    | none => rfl
    | some ct =>
      simp only
      cases f (.io ct :: ds.map .v) with
      | no => rfl
      | ok rv z => rcases z with _ | ⟨q, z⟩ <;> first | rfl | (cases q <;> rfl)
      | ex rv z => rcases z with _ | ⟨q, z⟩ <;> first | rfl | (cases q <;> rfl)
theorem qo_fn {kk : RV → List Sl → Prop} {n : Nat} {m : M Fl} {rs : List Sl} (h : Po (fun e r => ∃ z, backA rs r = some z ∧ X e z) (m (rs ++ List.replicate (n - rs.length) .unk)) fun fl r => ∃ rv z, backA rs r = some z ∧ (fl = .rt rv ∨ (fl = .nx ∧ rv = .v .none)) ∧ kk rv z) : Po X (fnOf n m rs) kk := by
  unfold fnOf backR flRv
  cases hm : m (rs ++ List.replicate (n - rs.length) .unk) with
  | ok fl r =>
    rw [hm] at h
    obtain ⟨rv, z, hz, hfl, hk⟩ := h
    rcases hfl with rfl | ⟨rfl, rfl⟩
    · simp only [hz]
      exact hk
    · simp only [hz]
      exact hk
  | ex e r =>
    rw [hm] at h
    obtain ⟨z, hz, hk⟩ := h
    simp only [hz]
    exact hk
  | no =>
    rw [hm] at h
    exact h.elim
@[simp] theorem backA_nil (r : En) : backA [] r = some [] := rfl
@[simp] theorem backA_io (c c' : Ct) (s : List Sl) (r : En) : backA (.io c :: s) (.io c' :: r) = (backA s r).map fun z => .io c' :: z := rfl
@[simp] theorem backA_v (d : D) (s : List Sl) (q : Sl) (r : En) : backA (.v d :: s) (q :: r) = (backA s r).map fun z => .v d :: z := rfl
/-! loops -/
theorem qo_for {kk : Fl → En → Prop} {tg : Tg} {b : M Fl} (I : List D → List D → En → Prop) : ∀ (xs done : List D) (r : En), I done xs r →
    (∀ done x xs r, I done (x :: xs) r → ∃ r1, tg x r = some r1 ∧ Po X (b r1) fun fl r2 => (match fl with
      | .nx => I (done ++ [x]) xs r2
      | .ct => I (done ++ [x]) xs r2
      | .bk => kk .nx r2
      | .rt v => kk (.rt v) r2)) → (∀ done r, I done [] r → kk .nx r) → Po X (forL tg b xs r) kk
  | [], done, r, h0, hs, he => he done r h0
  | x :: xs, done, r, h0, hs, he => by
    obtain ⟨r1, h1, h2⟩ := hs done x xs r h0
    unfold forL
    rw [h1]
    simp only
    cases hb : b r1 with
    | no =>
      rw [hb] at h2
      exact h2.elim
    | ex e r2 =>
      rw [hb] at h2
      exact h2
    | ok fl r2 =>
      rw [hb] at h2
      cases fl with
      | nx => exact qo_for I xs (done ++ [x]) r2 h2 hs he
      | ct => exact qo_for I xs (done ++ [x]) r2 h2 hs he
      | bk => exact h2
      | rt v => exact h2
/-- over a list of things told as data -/
theorem qo_forM {γ : Type} {kk : Fl → En → Prop} {tg : Tg} {b : M Fl} {f : γ → D} (I : List γ → En → Prop) (xs : List γ) (r : En) (h0 : I [] r)
    (hs : ∀ done x rest r, xs = done ++ x :: rest → I done r → ∃ r1, tg (f x) r = some r1 ∧ Po X (b r1) fun fl r2 => (match fl with
      | .nx => I (done ++ [x]) r2
      | .ct => I (done ++ [x]) r2
      | .bk => kk .nx r2
      | .rt v => kk (.rt v) r2)) (he : ∀ r, I xs r → kk .nx r) : Po X (forL tg b (xs.map f) r) kk := by
  refine qo_for (fun d1 rest r => ∃ done xs2, xs = done ++ xs2 ∧ rest = xs2.map f ∧ I done r) _ [] r ⟨[], xs, rfl, rfl, h0⟩ ?_ ?_
  · rintro d1 x rest r ⟨done, xs2, e1, e2, hI⟩
    cases xs2 with
    | nil => cases e2
    | cons y ys =>
      cases e2
      obtain ⟨r1, h1, h2⟩ := hs done y ys r e1 hI
      refine ⟨r1, h1, qo_mono h2 fun fl r2 q => ?_⟩
      have e3 : xs = (done ++ [y]) ++ ys := by rw [e1]; simp
      cases fl with
      | nx => exact ⟨_, ys, e3, rfl, q⟩
      | ct => exact ⟨_, ys, e3, rfl, q⟩
      | bk => exact q
      | rt v => exact q
  · rintro d1 r ⟨done, xs2, e1, e2, hI⟩
    cases xs2 with
    | nil =>
      rw [List.append_nil] at e1
      subst e1
      exact he r hI
    | cons y ys => cases e2
/-- range(n): the invariant by the number of turns -/
theorem qo_rng {kk : Fl → En → Prop} {tg : Tg} {b : M Fl} {lo : Int} (I : Nat → En → Prop) (n : Nat) (r : En) (h0 : I 0 r)
    (hs : ∀ i r, i < n → I i r → ∃ r1, tg (.int (lo + (i : Nat))) r = some r1 ∧ Po X (b r1) fun fl r2 => (match fl with
      | .nx => I (i + 1) r2
      | .ct => I (i + 1) r2
      | .bk => kk .nx r2
      | .rt v => kk (.rt v) r2)) (he : ∀ r, I n r → kk .nx r) : Po X (forL tg b (rngD lo n) r) kk := by
  refine qo_forM (f := fun k : Nat => PyData.int (lo + (k : Nat))) (fun done r => I done.length r) (List.range n) r h0 ?_ ?_
  · intro done x rest r e hI
    have hl : (List.range n).length = (done ++ x :: rest).length := by rw [e]
    rw [List.length_range, List.length_append, List.length_cons] at hl
    have hx : x = done.length := by
      have h1 : (List.range n)[done.length]? = some x := by rw [e]; simp
      rw [List.getElem?_range (by omega)] at h1
      cases h1
      rfl
    subst hx
    obtain ⟨r1, h1, h2⟩ := hs done.length r (by omega) hI
    refine ⟨r1, h1, qo_mono h2 fun fl r2 q => ?_⟩
    rw [List.length_append, List.length_singleton]
    exact q
  · intro r h
    rw [List.length_range] at h
    exact he r h
@[simp] theorem sFor_ap (src : M (List D)) (tg : Tg) (b : M Fl) (r : En) : sFor src tg b r = (src r).bind fun xs r => forL tg b xs r := rfl
theorem qo_while {kk : Fl → En → Prop} {t : M Bool} {b : M Fl} (I : Nat → En → Prop)
    (hs : ∀ n r, I n r → Po X (t r) fun x r1 => if x = true then Po X (b r1) fun fl r2 => (match fl with
      | .nx => ∃ m, m < n ∧ I m r2
      | .ct => ∃ m, m < n ∧ I m r2
      | .bk => kk .nx r2
      | .rt v => kk (.rt v) r2) else kk .nx r1) (n : Nat) (r : En) (h0 : I n r) : Po X (sWhile t b r) kk := by
  have key : ∀ n r, I n r → ∃ f, Po X (wloop t b f r) kk := by
    intro n
    induction n using Nat.strongRecOn with
    | ind n ih =>
      intro r h
      have h1 := hs n r h
      cases ht : t r with
      | no =>
        rw [ht] at h1
        exact h1.elim
      | ex e r1 =>
        rw [ht] at h1
        refine ⟨1, ?_⟩
        unfold wloop
        rw [ht]
        exact h1
      | ok x r1 =>
        rw [ht] at h1
        cases x with
        | false =>
          refine ⟨1, ?_⟩
          unfold wloop
          rw [ht]
          exact h1
        | true =>
          have h2 : Po X (b r1) fun fl r2 => (match fl with
            | .nx => ∃ m, m < n ∧ I m r2
            | .ct => ∃ m, m < n ∧ I m r2
            | .bk => kk .nx r2
            | .rt v => kk (.rt v) r2) := h1
          cases hb : b r1 with
          | no =>
            rw [hb] at h2
            exact h2.elim
          | ex e r2 =>
            rw [hb] at h2
            refine ⟨1, ?_⟩
            unfold wloop
            rw [ht]
            simp only [hb]
            exact h2
          | ok fl r2 =>
            rw [hb] at h2
            cases fl with
            | nx =>
              obtain ⟨m, hm, h3⟩ := h2
              obtain ⟨f, hf⟩ := ih m hm r2 h3
              refine ⟨f + 1, ?_⟩
              unfold wloop
              rw [ht]
              simp only [hb]
              exact hf
            | ct =>
              obtain ⟨m, hm, h3⟩ := h2
              obtain ⟨f, hf⟩ := ih m hm r2 h3
              refine ⟨f + 1, ?_⟩
              unfold wloop
              rw [ht]
              simp only [hb]
              exact hf
            | bk =>
              refine ⟨1, ?_⟩
              unfold wloop
              rw [ht]
              simp only [hb]
              exact h2
            | rt v =>
              refine ⟨1, ?_⟩
              unfold wloop
              rw [ht]
              simp only [hb]
              exact h2
  obtain ⟨f, hf⟩ := key n r h0
  have hn : wloop t b f r ≠ .no := fun z => by
    rw [z] at hf
    exact hf
  rw [sWhile_of (n := f) rfl hn]
  exact hf
/-! the same, with what comes behind hidden -/
theorem qo_step {kk : Fl → En → Prop} {m n : M Fl} {r : En} (h : ∀ K : Fl → En → Prop, (∀ r', Po X (n r') kk → K .nx r') → (∀ v r', kk (.rt v) r' → K (.rt v) r') → (∀ r', kk .bk r' → K .bk r') → (∀ r', kk .ct r' → K .ct r') → Po X (m r) K) : Po X (sSeq m n r) kk := by
  rw [qo_seq]
  exact h _ (fun _ q => q) (fun _ _ q => q) (fun _ q => q) fun _ q => q
theorem qo_fnK {kk : RV → List Sl → Prop} {n : Nat} {m : M Fl} {rs : List Sl} (h : ∀ (Y : Exn → En → Prop) (K : Fl → En → Prop), (∀ e r z, backA rs r = some z → X e z → Y e r) → (∀ v r z, backA rs r = some z → kk v z → K (.rt v) r) → (∀ r z, backA rs r = some z → kk (.v .none) z → K .nx r) → Po Y (m (rs ++ List.replicate (n - rs.length) .unk)) K) : Po X (fnOf n m rs) kk :=
  qo_fn (h _ _ (fun _ _ z hz q => ⟨z, hz, q⟩) (fun v _ z hz q => ⟨v, z, hz, .inl rfl, q⟩) fun _ z hz q => ⟨_, z, hz, .inr ⟨rfl, rfl⟩, q⟩)
theorem qo_forK {γ : Type} {kk : Fl → En → Prop} {tg : Tg} {b : M Fl} {f : γ → D} (I : List γ → En → Prop) (xs : List γ) (r : En) (h0 : I [] r)
    (hs : ∀ done x rest r, xs = done ++ x :: rest → I done r → ∃ r1, tg (f x) r = some r1 ∧ ∀ K : Fl → En → Prop, (∀ r2, I (done ++ [x]) r2 → K .nx r2) → (∀ v r2, kk (.rt v) r2 → K (.rt v) r2) → (∀ r2, I (done ++ [x]) r2 → K .ct r2) → (∀ r2, kk .nx r2 → K .bk r2) → Po X (b r1) K) (he : ∀ r, I xs r → kk .nx r) : Po X (forL tg b (xs.map f) r) kk :=
  qo_forM I xs r h0 (fun done x rest r e h => by
    obtain ⟨r1, h1, h2⟩ := hs done x rest r e h
    exact ⟨r1, h1, h2 _ (fun _ q => q) (fun _ _ q => q) (fun _ q => q) fun _ q => q⟩) he
theorem qo_rngK {kk : Fl → En → Prop} {tg : Tg} {b : M Fl} {lo : Int} (I : Nat → En → Prop) (n : Nat) (r : En) (h0 : I 0 r)
    (hs : ∀ i r, i < n → I i r → ∃ r1, tg (.int (lo + (i : Nat))) r = some r1 ∧ ∀ K : Fl → En → Prop, (∀ r2, I (i + 1) r2 → K .nx r2) → (∀ v r2, kk (.rt v) r2 → K (.rt v) r2) → (∀ r2, I (i + 1) r2 → K .ct r2) → (∀ r2, kk .nx r2 → K .bk r2) → Po X (b r1) K) (he : ∀ r, I n r → kk .nx r) : Po X (forL tg b (rngD lo n) r) kk :=
  qo_rng I n r h0 (fun i r hi h => by
    obtain ⟨r1, h1, h2⟩ := hs i r hi h
    exact ⟨r1, h1, h2 _ (fun _ q => q) (fun _ _ q => q) (fun _ q => q) fun _ q => q⟩) he
@[simp] theorem oDict0_ap (r : En) : oDict0 r = .ok (.o (.d [])) r := rfl
@[simp] theorem zipOf_T (a b : List Int) : zipOf [.tuple (a.map .int), .tuple (b.map .int)] = some ((List.zip a b).map fun p => .tuple [.int p.1, .int p.2]) := by
  show some (zipD (a.map .int) (b.map .int)) = _
  unfold zipD
  rw [List.zipWith_map, List.map_zip_eq_zipWith]
  rfl
@[simp] theorem isD_bb (a b : Bool) : isD (.bool a) (.bool b) = some (.bool (decide (a = b))) := rfl
@[simp] theorem isntD_bb (a b : Bool) : isntD (.bool a) (.bool b) = some (.bool (!decide (a = b))) := rfl
@[simp] theorem boolD_i (i : Int) : boolD (.int i) = some (.bool (i != 0)) := rfl
@[simp] theorem boolD_b (b : Bool) : boolD (.bool b) = some (.bool b) := rfl
theorem inD_l (d : D) (ds : List D) (h : SeqAt.shaped d = true ∧ SeqAt.shaped (.list ds) = true) : inD d (.list ds) = some (.bool (ds.any fun z => PyData.eqv z d)) := by
  show cI (SeqAt.shaped d = true ∧ SeqAt.shaped (.list ds) = true) (some (PyData.bool (ds.any fun z => PyData.eqv z d))) none = _
  rw [cI_eq, if_pos h]
theorem ninD_l (d : D) (ds : List D) (h : SeqAt.shaped d = true ∧ SeqAt.shaped (.list ds) = true) : ninD d (.list ds) = some (.bool (!ds.any fun z => PyData.eqv z d)) := by
  show cI (SeqAt.shaped d = true ∧ SeqAt.shaped (.list ds) = true) (some (PyData.bool (!ds.any fun z => PyData.eqv z d))) none = _
  rw [cI_eq, if_pos h]
@[simp] theorem eIndex_ap (mo me : M D) (r : En) : eIndex mo me r = (mo r).bind fun d r => (match d with
  | .list ds => (me r).bind fun b r => M.opt (indexD (.list ds) b) r
  | _ => .no) := by
  show (mo r).bind (fun d => (match d with
  | .list ds => me.bind fun b => M.opt (indexD (.list ds) b)
  | _ => M.no)) = _
  congr 1
  funext d r
  cases d <;> rfl
@[simp] theorem ePop_ap (i : Nat) (m : M D) (r : En) : ePop i m r = (match getC i r with
  | some (.l _) => (m r).bind fun d r => match getC i r with
    | some (.l ds) => (match popD ds d with
      | some p => .ok p.1 (putC i (.l p.2) r)
      | none => .no)
    | _ => .no
  | _ => .no) := rfl
@[simp] theorem isi_bi (b : Bool) : isiD "int" (.bool b) = some (.bool true) := by kernel_rfl
@[simp] theorem isi_bb (b : Bool) : isiD "bool" (.bool b) = some (.bool true) := by kernel_rfl
@[simp] theorem isi_bt (b : Bool) : isiD "tuple" (.bool b) = some (.bool false) := by kernel_rfl
@[simp] theorem isi_bs (b : Bool) : isiD "str" (.bool b) = some (.bool false) := by kernel_rfl
@[simp] theorem isi_ni : isiD "int" .none = some (.bool false) := by kernel_rfl
@[simp] theorem isi_nb : isiD "bool" .none = some (.bool false) := by kernel_rfl
@[simp] theorem isi_nt : isiD "tuple" .none = some (.bool false) := by kernel_rfl
@[simp] theorem isi_ns : isiD "str" .none = some (.bool false) := by kernel_rfl
@[simp] theorem isi_nl : isiD "list" .none = some (.bool false) := by kernel_rfl
@[simp] theorem isi_si (x : Str) : isiD "int" (.str x) = some (.bool false) := by kernel_rfl
@[simp] theorem isi_sb (x : Str) : isiD "bool" (.str x) = some (.bool false) := by kernel_rfl
@[simp] theorem isi_st (x : Str) : isiD "tuple" (.str x) = some (.bool false) := by kernel_rfl
@[simp] theorem isi_ss (x : Str) : isiD "str" (.str x) = some (.bool true) := by kernel_rfl
@[simp] theorem isi_sl (x : Str) : isiD "list" (.str x) = some (.bool false) := by kernel_rfl
@[simp] theorem isi_is (i : Int) : isiD "str" (.int i) = some (.bool false) := by kernel_rfl
@[simp] theorem isi_il (i : Int) : isiD "list" (.int i) = some (.bool false) := by kernel_rfl
@[simp] theorem isi_li (ds : List D) : isiD "int" (.list ds) = some (.bool false) := by kernel_rfl
@[simp] theorem isi_lb (ds : List D) : isiD "bool" (.list ds) = some (.bool false) := by kernel_rfl
@[simp] theorem isi_lt (ds : List D) : isiD "tuple" (.list ds) = some (.bool false) := by kernel_rfl
@[simp] theorem isi_ls (ds : List D) : isiD "str" (.list ds) = some (.bool false) := by kernel_rfl
@[simp] theorem isi_ti (ds : List D) : isiD "int" (.tuple ds) = some (.bool false) := by kernel_rfl
@[simp] theorem isi_tb (ds : List D) : isiD "bool" (.tuple ds) = some (.bool false) := by kernel_rfl
@[simp] theorem isi_ts (ds : List D) : isiD "str" (.tuple ds) = some (.bool false) := by kernel_rfl
@[simp] theorem isi_tl (ds : List D) : isiD "list" (.tuple ds) = some (.bool false) := by kernel_rfl
theorem isi_dicts {T : String} (hT : T ∈ basicT) (hk : kitB "dict" T = some false) (ds : List (D × D)) : isiD T (.dict ds) = some (.bool false) := by
  cases ds with
  | nil =>
    show (kitB "dict" T).map PyData.bool = _
    rw [hk]
    rfl
  | cons x r =>
    obtain ⟨k, e⟩ := x
    cases k with
    | str x =>
      show (if T ∈ basicT then some (PyData.bool false) else none) = _
      rw [if_pos hT]
    | _ =>
      show (kitB "dict" T).map PyData.bool = _
      rw [hk]
      rfl
@[simp] theorem isi_di (ds : List (D × D)) : isiD "int" (.dict ds) = some (.bool false) := isi_dicts (by decide) (by kernel_rfl) ds
@[simp] theorem isi_db (ds : List (D × D)) : isiD "bool" (.dict ds) = some (.bool false) := isi_dicts (by decide) (by kernel_rfl) ds
@[simp] theorem isi_dt (ds : List (D × D)) : isiD "tuple" (.dict ds) = some (.bool false) := isi_dicts (by decide) (by kernel_rfl) ds
@[simp] theorem isi_ds (ds : List (D × D)) : isiD "str" (.dict ds) = some (.bool false) := isi_dicts (by decide) (by kernel_rfl) ds
@[simp] theorem isi_dl (ds : List (D × D)) : isiD "list" (.dict ds) = some (.bool false) := isi_dicts (by decide) (by kernel_rfl) ds
/-! comprehensions -/
@[simp] theorem qo_comp {kk : RV → En → Prop} (src : M (List D)) (is : List Nat) (tg : Tg) (tt : M Bool) (te : M D) (r : En) : Po X (oComp src is tg tt te r) kk = Po X (src r) fun xs r => noOwn r is = true ∧ Po (fun _ _ => False) (compL is tg tt te xs [] r) fun ys q => kk (.o (.l ys)) (backE r (wipeE q is) is) := by
  show Po X ((src r).bind _) kk = _
  rw [qo_bind]
  congr 1
  funext xs r
  by_cases h : noOwn r is = true
  · rw [if_pos h]
    cases compL is tg tt te xs [] r with
    | ok ys q => simp [h]
    | ex e q => simp
    | no => simp
  · rw [if_neg h]
    simp [h]
@[simp] theorem compL_nil (is : List Nat) (tg : Tg) (tt : M Bool) (te : M D) (acc : List D) (r : En) : compL is tg tt te [] acc r = .ok acc r := rfl
theorem qo_compL {kl : List D → En → Prop} (is : List Nat) (tg : Tg) (tt : M Bool) (te : M D) (x : D) (xs acc : List D) (r : En) : Po (fun _ _ => False) (compL is tg tt te (x :: xs) acc r) kl = (match tg x (wipeE r is) with
  | none => False
  | some r1 => Po (fun _ _ => False) (tt r1) fun b r2 => if b = true then Po (fun _ _ => False) (te r2) fun y r3 => acc.length < 16777216 ∧ Po (fun _ _ => False) (compL is tg tt te xs (acc ++ [y]) r3) kl else Po (fun _ _ => False) (compL is tg tt te xs acc r2) kl) := by
  show Po _ (match tg x (wipeE r is) with
    | none => .no
    | some r1 => match tt r1 with
      | .ok true r2 => (match te r2 with
        | .ok y r3 => if acc.length < 16777216 then compL is tg tt te xs (acc ++ [y]) r3 else .no
        | _ => .no)
      | .ok false r2 => compL is tg tt te xs acc r2
      | _ => .no) kl = _
  cases tg x (wipeE r is) with
  | none => rfl
  | some r1 =>
    simp only
    cases tt r1 with
    | no => rfl
    | ex e r2 => rfl
    | ok b r2 =>
      cases b with
      | false => rfl
      | true =>
        simp only [qo_ok, if_true]
        cases te r2 with
        | no => rfl
        | ex e r3 => rfl
        | ok y r3 =>
          simp only [qo_ok]
          by_cases h : acc.length < 16777216
          · rw [if_pos h]
            simp [h]
          · rw [if_neg h]
            simp [h]
@[simp] theorem yes_ap (r : En) : yes r = .ok true r := rfl
/-- each thing to one datum, nothing else changed -/
theorem qo_compM {γ : Type} {kl : List D → En → Prop} {is : List Nat} {tg : Tg} {te : M D} {f : γ → D} {g : γ → D} (J : En → Prop) : ∀ (xs : List γ) (acc : List D) (r : En), J r → acc.length + xs.length ≤ 16777216 →
    (∀ x ∈ xs, ∀ r, J r → ∃ r1, tg (f x) (wipeE r is) = some r1 ∧ Po (fun _ _ => False) (te r1) fun y r3 => y = g x ∧ J r3) → (∀ r, J r → kl (acc ++ xs.map g) r) → Po (fun _ _ => False) (compL is tg yes te (xs.map f) acc r) kl
  | [], acc, r, hJ, _, _, he => by
    have := he r hJ
    rw [List.map_nil, List.append_nil] at this
    exact this
  | x :: xs, acc, r, hJ, hl, hs, he => by
    rw [List.map_cons, qo_compL]
    obtain ⟨r1, h1, h2⟩ := hs x (List.mem_cons_self ..) r hJ
    rw [h1]
    simp only [yes_ap, qo_ok, if_true]
    refine qo_mono h2 ?_
    rintro y r3 ⟨rfl, hJ3⟩
    rw [List.length_cons] at hl
    refine ⟨by omega, qo_compM J xs (acc ++ [g x]) r3 hJ3 (by rw [List.length_append, List.length_singleton]; omega) (fun z hz => hs z (List.mem_cons_of_mem _ hz)) fun r hr => ?_⟩
    have := he r hr
    rw [List.map_cons] at this
    rw [List.append_assoc]
    exact this
/-- .. gathered so far as many as are gone through -/
theorem qo_compC {γ : Type} {kl : List D → En → Prop} {is : List Nat} {tg : Tg} {te : M D} {f : γ → D} (J : List D → En → Prop) (xs : List γ) (r : En) (hJ : J [] r) (hl : xs.length ≤ 16777216)
    (hs : ∀ x acc r, xs[acc.length]? = some x → J acc r → ∃ r1, tg (f x) (wipeE r is) = some r1 ∧ ∀ K : D → En → Prop, (∀ y r3, J (acc ++ [y]) r3 → K y r3) → Po (fun _ _ => False) (te r1) K) (he : ∀ acc r, acc.length = xs.length → J acc r → kl acc r) : Po (fun _ _ => False) (compL is tg yes te (xs.map f) [] r) kl := by
  have key : ∀ (rest done : List γ) (acc : List D) (r : En), xs = done ++ rest → acc.length = done.length → J acc r → Po (fun _ _ => False) (compL is tg yes te (rest.map f) acc r) kl := by
    intro rest
    induction rest with
    | nil =>
      intro done acc r e hl h
      rw [List.append_nil] at e
      exact he acc r (by rw [hl, e]) h
    | cons x rest ih =>
      intro done acc r e hl2 h
      rw [List.map_cons, qo_compL]
      obtain ⟨r1, h1, h2⟩ := hs x acc r (by rw [e, hl2]; simp) h
      rw [h1]
      simp only [yes_ap, qo_ok, if_true]
      refine h2 _ ?_
      intro y r3 hJ3
      have hlen : xs.length = done.length + (rest.length + 1) := by rw [e, List.length_append, List.length_cons]
      exact ⟨by omega, ih (done ++ [x]) (acc ++ [y]) r3 (by rw [e]; simp) (by simp [hl2]) hJ3⟩
  exact key xs [] [] r rfl rfl hJ
/-- with a test -/
theorem qo_compF {γ : Type} {kl : List D → En → Prop} {is : List Nat} {tg : Tg} {tt : M Bool} {te : M D} {f : γ → D} {g : γ → D} {p : γ → Bool} (J : En → Prop) : ∀ (xs : List γ) (acc : List D) (r : En), J r → acc.length + xs.length ≤ 16777216 →
    (∀ x ∈ xs, ∀ r, J r → ∃ r1, tg (f x) (wipeE r is) = some r1 ∧ Po (fun _ _ => False) (tt r1) fun b r2 => b = p x ∧ (p x = false → J r2) ∧ (p x = true → Po (fun _ _ => False) (te r2) fun y r3 => y = g x ∧ J r3)) → (∀ r, J r → kl (acc ++ (xs.filter p).map g) r) → Po (fun _ _ => False) (compL is tg tt te (xs.map f) acc r) kl
  | [], acc, r, hJ, _, _, he => by
    have := he r hJ
    rw [List.filter_nil, List.map_nil, List.append_nil] at this
    exact this
  | x :: xs, acc, r, hJ, hl, hs, he => by
    rw [List.map_cons, qo_compL]
    obtain ⟨r1, h1, h2⟩ := hs x (List.mem_cons_self ..) r hJ
    rw [h1]
    simp only
    rw [List.length_cons] at hl
    refine qo_mono h2 ?_
    rintro b r2 ⟨rfl, h3, h4⟩
    cases hp : p x with
    | false =>
      rw [if_neg Bool.false_ne_true]
      refine qo_compF J xs acc r2 (h3 hp) (by omega) (fun z hz => hs z (List.mem_cons_of_mem _ hz)) fun r hr => ?_
      have := he r hr
      rw [List.filter_cons_of_neg (by rw [hp]; exact Bool.false_ne_true)] at this
      exact this
    | true =>
      rw [if_pos rfl]
      refine qo_mono (h4 hp) ?_
      rintro y r3 ⟨rfl, hJ3⟩
      refine ⟨by omega, qo_compF J xs (acc ++ [g x]) r3 hJ3 (by rw [List.length_append, List.length_singleton]; omega) (fun z hz => hs z (List.mem_cons_of_mem _ hz)) fun r hr => ?_⟩
      have := he r hr
      rw [List.filter_cons_of_pos hp, List.map_cons] at this
      rw [List.append_assoc]
      exact this
theorem qo_compMD {kl : List D → En → Prop} {is : List Nat} {tg : Tg} {te : M D} {g : D → D} (J : En → Prop) (xs : List D) (r : En) (hJ : J r) (hl : xs.length ≤ 16777216) (hs : ∀ x ∈ xs, ∀ r, J r → ∃ r1, tg x (wipeE r is) = some r1 ∧ Po (fun _ _ => False) (te r1) fun y r3 => y = g x ∧ J r3) (he : ∀ r, J r → kl (xs.map g) r) : Po (fun _ _ => False) (compL is tg yes te xs [] r) kl := by
  have h := qo_compM (kl := kl) (is := is) (tg := tg) (te := te) (f := fun d : D => d) (g := g) J xs [] r hJ (by simpa using hl) hs (by simpa using he)
  rwa [List.map_id''] at h
  exact fun _ => rfl
@[simp] theorem wipe_nil (r : En) : wipeE r [] = r := rfl
@[simp] theorem wipe_cons (r : En) (i : Nat) (is : List Nat) : wipeE r (i :: is) = (wipeE r is).set i .unk := rfl
@[simp] theorem back_nil (r q : En) : backE r q [] = q := rfl
@[simp] theorem back_cons (r q : En) (i : Nat) (is : List Nat) : backE r q (i :: is) = (backE r q is).set i (r.getD i .unk) := rfl
@[simp] theorem noOwn_nil (r : En) : noOwn r [] = true := rfl
@[simp] theorem noOwn_cons (r : En) (i : Nat) (is : List Nat) : noOwn r (i :: is) = ((match r[i]? with
  | some s => s.own.isNone
  | none => false) && noOwn r is) := rfl
@[simp] theorem allD_b (ds : List D) : allD (.list ds) = (boolsOf ds).map fun bs => .bool (bs.all id) := rfl
@[simp] theorem anyD_b (ds : List D) : anyD (.list ds) = (boolsOf ds).map fun bs => .bool (bs.any id) := rfl
@[simp] theorem boolsOf_nil : boolsOf [] = some [] := rfl
@[simp] theorem boolsOf_cons (b : Bool) (ds : List D) : boolsOf (.bool b :: ds) = (boolsOf ds).map (b :: ·) := rfl
@[simp] theorem boolsOf_map {γ : Type} (f : γ → Bool) : ∀ xs : List γ, boolsOf (xs.map fun x => .bool (f x)) = some (xs.map f)
  | [] => rfl
  | x :: xs => by
    rw [List.map_cons, boolsOf_cons, boolsOf_map f xs]
    rfl
/-! numbers -/
theorem mulOk_l {i j : Int} (h : -(2 ^ 63) < i ∧ i < 2 ^ 63) : mulOk i j := .inl (by omega)
theorem mulOk_r {i j : Int} (h : -(2 ^ 63) < j ∧ j < 2 ^ 63) : mulOk i j := .inr (.inl (by omega))
theorem log2_64 {n : Int} (h : -(2 ^ 63) < n ∧ n < 2 ^ 63) : n.natAbs.log2 < 9000 := by
  have : n.natAbs.log2 < 64 := PySem.Flt.log2_lt_of (by decide) (by omega)
  omega
theorem fmod_pos (a : Int) {n : Int} (h : 0 < n) : 0 ≤ a.fmod n ∧ a.fmod n < n := by
  rw [Int.fmod_eq_emod_of_nonneg _ (by omega)]
  exact ⟨Int.emod_nonneg _ (by omega), Int.emod_lt_of_pos _ h⟩
theorem fdiv_nn {a n : Int} (ha : 0 ≤ a) (h : 0 < n) : 0 ≤ a.fdiv n := by
  rw [Int.fdiv_eq_ediv_of_nonneg _ (by omega)]
  exact Int.ediv_nonneg ha (by omega)
theorem atI_all {α : Type} {P : α → Prop} {xs : List α} {n : Int} (h0 : 0 ≤ n) (h1 : n < xs.length) (h : ∀ x ∈ xs, P x) : ∃ c, atI xs n = some c ∧ P c := by
  unfold atI ixN
  rw [if_pos h0, if_pos h1]
  exact ⟨xs[n.toNat]'(by omega), by simp, h _ (List.getElem_mem _)⟩
theorem atI_nn {α : Type} {xs : List α} {n : Int} (h0 : 0 ≤ n) (h1 : n < xs.length) : ∃ c, atI xs n = some c ∧ xs[n.toNat]? = some c := by
  unfold atI ixN
  rw [if_pos h0, if_pos h1]
  exact ⟨xs[n.toNat]'(by omega), by simp, by simp⟩
@[simp] theorem mulOk_sl (i j : Int) (h1 : -(2 ^ 63) < i) (h2 : i < 2 ^ 63) : mulOk i j := mulOk_l ⟨h1, h2⟩
@[simp] theorem mulOk_sr (i j : Int) (h1 : -(2 ^ 63) < j) (h2 : j < 2 ^ 63) : mulOk i j := mulOk_r ⟨h1, h2⟩
@[simp] theorem mulOk_ml (x m j : Int) (h0 : 0 < m) (h1 : m < 2 ^ 63) : mulOk (x % m) j := by
  have a1 := Int.emod_nonneg x (show m ≠ 0 by omega)
  have a2 := Int.emod_lt_of_pos x h0
  exact mulOk_l ⟨by omega, by omega⟩
@[simp] theorem mulOk_mr (x m i : Int) (h0 : 0 < m) (h1 : m < 2 ^ 63) : mulOk i (x % m) := by
  have a1 := Int.emod_nonneg x (show m ≠ 0 by omega)
  have a2 := Int.emod_lt_of_pos x h0
  exact mulOk_r ⟨by omega, by omega⟩
@[simp] theorem log2_s (n : Nat) (h : n < 2 ^ 64) : n.log2 < 9000 := by
  have : n.log2 < 64 := PySem.Flt.log2_lt_of (by decide) h
  omega
@[simp] theorem abs_nn (c : Int) : 0 ≤ (if c < 0 then -c else c) := by split <;> omega
@[simp] theorem sInsert_ap (i : Nat) (mk m : M D) (r : En) : sInsert i mk m r = (match getC i r with
  | some (.l _) => (mk r).bind fun k r => (m r).bind fun d r => (match k, getC i r with
    | .int n, some (.l ds) => cI (ds.length < 16777216 ∧ 0 ≤ n ∧ n < 2 ^ 63) (.ok .nx (putC i (.l (ds.take n.toNat ++ [d] ++ ds.drop n.toNat)) r)) .no
    | _, _ => .no)
  | _ => .no) := rfl
@[simp] theorem qo_cI (p : Prop) (x : Re α) : Po X (cI p x .no) k = (p ∧ Po X x k) := by
  by_cases h : p
  · have : cI p x .no = x := by unfold cI; exact if_pos h
    rw [this]
    simp [h]
  · have : cI p x .no = .no := by unfold cI; exact if_neg h
    rw [this]
    simp [h]
theorem zip3D_map {γ δ ε : Type} (f : γ → D) (g : δ → D) (h : ε → D) : ∀ (xs : List γ) (ys : List δ) (zs : List ε), zip3D (xs.map f) (ys.map g) (zs.map h) = (List.zip xs (List.zip ys zs)).map fun p => .tuple [f p.1, g p.2.1, h p.2.2]
  | [], _, _ => rfl
  | _ :: _, [], _ => rfl
  | _ :: _, _ :: _, [] => rfl
  | x :: xs, y :: ys, z :: zs => by
    simp only [List.map_cons, zip3D, zip3D_map f g h xs ys zs, List.zip_cons_cons]
@[simp] theorem zip3Of_T (a b c : List Int) : zip3Of [.tuple (a.map .int), .tuple (b.map .int), .tuple (c.map .int)] = some ((List.zip a (List.zip b c)).map fun p => .tuple [.int p.1, .int p.2.1, .int p.2.2]) := congrArg some (zip3D_map _ _ _ a b c)
/-! exceptions -/
@[simp] theorem sRaiseF_ap (nm : Str) (fs : List Str) (ms : M (List D)) (r : En) : sRaiseF nm fs ms r = (ms r).bind fun ds r => if ds.length = fs.length then .ex ⟨nm, (fs.zip ds).reverse⟩ r else .no := rfl
@[simp] theorem sRaise_ap (nm : Str) (r : En) : sRaise nm r = .ex ⟨nm, []⟩ r := rfl
@[simp] theorem exOf_ap (nm : Str) : exOf ⟨nm, []⟩ = .dict [(.str nm, .none)] := rfl
@[simp] theorem isED_ap (ns : List Str) (y nm : Str) (kv : List (D × D)) : isED ns y (.dict ((.str nm, .none) :: kv)) = if nm ∈ ns then some (.bool (isB nm y)) else none := rfl
@[simp] theorem isEV_ap (ns : List Str) (nm : Str) (kv : List (D × D)) : isEV ns (.dict ((.str nm, .none) :: kv)) = if nm ∈ ns then some (.bool true) else none := rfl
@[simp] theorem isET_ap (ns ys : List Str) (nm : Str) (kv : List (D × D)) : isET ns ys (.dict ((.str nm, .none) :: kv)) = if nm ∈ ns then some (.bool (ys.any fun y => isB nm y)) else none := rfl
@[simp] theorem isntD_d (kv : List (D × D)) : isntD (.dict kv) .none = some (.bool true) := rfl
@[simp] theorem isD_d (kv : List (D × D)) : isD (.dict kv) .none = some (.bool false) := rfl
@[simp] theorem lamRes_rt (r r2 : En) (rv : RV) : lamRes r (.ok (.rt rv) r2) = .ok rv r := rfl
@[simp] theorem lamRes_nx (r r2 : En) : lamRes r (.ok .nx r2) = .ok (.v .none) r := rfl
@[simp] theorem hide_v (d : D) : hideS (.v d) = .v d := rfl
@[simp] theorem hide_u : hideS .unk = .unk := rfl
@[simp] theorem hide_o (c : Ct) : hideS (.o c) = .unk := rfl
@[simp] theorem hide_io (c : Ct) : hideS (.io c) = .unk := rfl
@[simp] theorem qo_lamR {kk : RV → En → Prop} (r : En) (m : Re Fl) : Po X (lamRes r m) kk = Po (fun _ _ => False) m fun fl _ => (match fl with
  | .rt rv => kk rv r
  | .nx => kk (.v .none) r
  | _ => False) := by
  cases m with
  | no => rfl
  | ex e r1 => rfl
  | ok fl r1 => cases fl <;> rfl
@[simp] theorem qo_lam {kk : RV → En → Prop} (ns : List Str) (n i : Nat) (br : M Fl) (th : M D) (r : En) : Po X (cLam ns n i br th r) kk = Po (fun e _ => e.name ∈ ns ∧ Po X (lamRes r (br ((List.replicate n Sl.unk).set i (.v (exOf e))))) kk) (th (r.map hideS)) fun _ _ => Po X (lamRes r (br ((List.replicate n Sl.unk).set i (.v .none)))) kk := by
  unfold cLam
  cases th (r.map hideS) with
  | ok fl r1 => rfl
  | no => rfl
  | ex e r1 =>
    show Po X (if e.name ∈ ns then _ else _) kk = (e.name ∈ ns ∧ _)
    by_cases h : e.name ∈ ns
    · rw [if_pos h]
      simp only [h, true_and]
    · rw [if_neg h]
      simp only [h, false_and]
      rfl
@[simp] theorem qo_try {kk : Fl → En → Prop} (ns : List Str) (j i : Nat) (mb : M Fl) (r : En) : Po X (sTry ns j i mb r) kk = Po (fun e r1 => e.name ∈ ns ∧ (match (setN j (.v (exOf e)) r1).bind (setN i (.v (exOf e))) with
  | some r2 => kk .nx (r2.set j .unk)
  | none => False)) (mb r) kk := by
  unfold sTry
  cases mb r with
  | ok fl r1 => rfl
  | no => rfl
  | ex e r1 =>
    show Po X (if e.name ∈ ns then _ else _) kk = (e.name ∈ ns ∧ _)
    by_cases h : e.name ∈ ns
    · rw [if_pos h]
      simp only [h, true_and]
      cases (setN j (.v (exOf e)) r1).bind (setN i (.v (exOf e))) <;> rfl
    · rw [if_neg h]
      simp [h]
/-! the pen -/
def pen (cs : List Int) (a l : Int) : Ct := .d [(.inr "cells", .list (cs.map .int)), (.inr "at", .int a), (.inr "left", .int l)]
def penL (cs : List Int) (a l : Int) : List (Key × D) := [(.inr "cells", .list (cs.map .int)), (.inr "at", .int a), (.inr "left", .int l)]
theorem pen_eq (cs : List Int) (a l : Int) : pen cs a l = .d (penL cs a l) := rfl
@[simp] theorem pen_c (cs : List Int) (a l : Int) : vK (penL cs a l) (.inr "cells") = some (.list (cs.map .int)) := rfl
@[simp] theorem pen_a (cs : List Int) (a l : Int) : vK (penL cs a l) (.inr "at") = some (.int a) := rfl
@[simp] theorem pen_l (cs : List Int) (a l : Int) : vK (penL cs a l) (.inr "left") = some (.int l) := rfl
@[simp] theorem pen_pa (cs : List Int) (a l b : Int) : pK (penL cs a l) (.inr "at") (.int b) = penL cs b l := rfl
@[simp] theorem pen_pl (cs : List Int) (a l b : Int) : pK (penL cs a l) (.inr "left") (.int b) = penL cs a b := rfl
@[simp] theorem pen_len (cs : List Int) (a l : Int) : (penL cs a l).length = 3 := rfl
@[simp] theorem keyD_s (x : Str) : keyD (.str x) = some (.inr x) := rfl
@[simp] theorem keyD_i (x : Int) : keyD (.int x) = some (.inl x) := rfl
def cutG {γ : Type} (xs : List γ) (lo hi : Option Int) : List γ := (xs.drop (HT.sIx xs.length 0 lo)).take (HT.sIx xs.length xs.length hi - HT.sIx xs.length 0 lo)
theorem cutL_map {γ : Type} (f : γ → D) (xs : List γ) (lo hi : Option Int) : cutL (xs.map f) lo hi = (cutG xs lo hi).map f := by
  unfold cutL cutG
  rw [List.length_map, List.map_take, List.map_drop]
theorem pen_new (cs : List Int) (a l : Int) : Ct.d (pK (pK (pK [] (.inr "cells") (.list (cs.map .int))) (.inr "at") (.int a)) (.inr "left") (.int l)) = pen cs a l := rfl
/-- a pen over the cells cs, fit to be drawn from -/
def PenOk (cs : List Int) (c : Ct) : Prop := ∃ a l, c = pen cs a l ∧ 0 ≤ a ∧ 0 ≤ l
theorem PenOk.mk {cs : List Int} {a l : Int} (ha : 0 ≤ a) (hl : 0 ≤ l) : PenOk cs (.d (penL cs a l)) := ⟨a, l, rfl, ha, hl⟩
/-- .. with at most n draws from it -/
def PenB (cs : List Int) (n : Nat) (c : Ct) : Prop := ∃ a l, c = pen cs a l ∧ 0 ≤ a ∧ a ≤ n ∧ 0 ≤ l
theorem PenB.mk {cs : List Int} {n : Nat} {a l : Int} (ha : 0 ≤ a) (hn : a ≤ n) (hl : 0 ≤ l) : PenB cs n (.d (penL cs a l)) := ⟨a, l, rfl, ha, hn, hl⟩
theorem PenB.le {cs : List Int} {n m : Nat} {c : Ct} (h : PenB cs n c) (hm : n ≤ m) : PenB cs m c := by
  obtain ⟨a, l, h1, h2, h3, h4⟩ := h
  exact ⟨a, l, h1, h2, by omega, h4⟩
/-- what a draw says -/
def Dr (cs : List Int) (n : Int) (rv : RV) (z : List Sl) : Prop := ∃ k c t, rv = .v (.int k) ∧ 0 ≤ k ∧ k < n ∧ z = .io c :: t ∧ PenOk cs c
theorem cutL_take (xs : List D) (k : Nat) : cutL xs none (some (k : Int)) = xs.take k := by
  unfold cutL
  rw [HT.sIx_none, HT.sIx_nat, List.drop_zero]
  rw [Nat.sub_zero]
  by_cases h : k ≤ xs.length
  · rw [Nat.min_eq_left h]
  · rw [Nat.min_eq_right (by omega), List.take_length, List.take_of_length_le (by omega)]
theorem intsOf_mp : ∀ ns : List Int, intsOf (ns.map .int) = some ns
  | [] => rfl
  | k :: ks => by
    show (intsOf (ks.map .int)).map (k :: ·) = some (k :: ks)
    rw [intsOf_mp ks]
    rfl
/-! ### the same, shut to the elaborator's own reckoning -/
section
variable {α β : Type} {X : Exn → En → Prop} {k : α → En → Prop}
@[irreducible] def Wp {α : Type} (X : Exn → En → Prop) (x : Re α) (k : α → En → Prop) : Prop := Po X x k
theorem wp_eq {α : Type} {X : Exn → En → Prop} {x : Re α} {k : α → En → Prop} : Wp X x k = Po X x k := by
  unfold Wp
  rfl
variable {kd : D → En → Prop} {kl : List D → En → Prop}
@[simp] theorem po_ok (a : α) (r : En) : Wp X (.ok a r) k = k a r := by
  rw [wp_eq]
  rfl
@[simp] theorem po_ex (e : Exn) (r : En) : Wp X (.ex e r) k = X e r := by
  rw [wp_eq]
  rfl
@[simp] theorem po_no : Wp X (.no : Re α) k = False := by
  rw [wp_eq]
  rfl
@[simp] theorem po_bind (x : Re β) (f : β → M α) : Wp X (x.bind f) k = Wp X x fun a r => Wp X (f a r) k := by
  simp only [wp_eq, qo_bind]
theorem po_mono {x : Re α} {k' : α → En → Prop} (h : Wp X x k') (i : ∀ a r, k' a r → k a r) : Wp X x k := by
  simp only [wp_eq] at *
  exact qo_mono h i
theorem po_true {f : Re RV} (h : Wp (fun _ _ => False) f fun rv _ => rv = .v (.bool true)) : ∃ r, f = .ok (.v (.bool true)) r := by
  simp only [wp_eq] at *
  exact qo_true h
theorem po_seq {kk : Fl → En → Prop} (m n : M Fl) (r : En) : Wp X (sSeq m n r) kk = Wp X (m r) fun fl r => (match fl with
  | .nx => Wp X (n r) kk
  | f => kk f r) := by
  simp only [wp_eq, qo_seq]
@[simp] theorem po_ite (p : Prop) [Decidable p] (x y : Re α) : Wp X (if p then x else y) k = if p then Wp X x k else Wp X y k := by
  simp only [wp_eq, qo_ite]
@[simp] theorem po_szM {γ : Type} (n : Nat) (a : γ) (f : γ → α) (r : En) : Wp X (M.opt ((szC n a).map f) r) k = (n ≤ 16777216 ∧ k (f a) r) := by
  simp only [wp_eq, qo_szM]
@[simp] theorem po_szC (n : Nat) (a : α) (r : En) : Wp X (M.opt (szC n a) r) k = (n ≤ 16777216 ∧ k a r) := by
  simp only [wp_eq, qo_szC]
@[simp] theorem po_rng1 (j : Int) (r : En) : Wp X (M.opt (rng1 [.int j]) r) kl = ((-(2 ^ 62) ≤ j ∧ j < 2 ^ 62) ∧ kl (rngD 0 j.toNat) r) := by
  simp only [wp_eq, qo_rng1]
@[simp] theorem po_rng2 (i j : Int) (r : En) : Wp X (M.opt (rng2 [.int i, .int j]) r) kl = (((-(2 ^ 62) ≤ i ∧ i < 2 ^ 62) ∧ (-(2 ^ 62) ≤ j ∧ j < 2 ^ 62)) ∧ kl (rngD i (j - i).toNat) r) := by
  simp only [wp_eq, qo_rng2]
@[simp] theorem po_mul (i j : Int) (r : En) : Wp X (M.opt (mulD (.int i) (.int j)) r) kd = (mulOk i j ∧ kd (.int (i * j)) r) := by
  simp only [wp_eq, qo_mul]
@[simp] theorem po_fdiv (i j : Int) (r : En) : Wp X (M.opt (fdivD (.int i) (.int j)) r) kd = ((j ≠ 0 ∧ j.natAbs.log2 < 9000) ∧ kd (.int (i.fdiv j)) r) := by
  simp only [wp_eq, qo_fdiv]
@[simp] theorem po_mod (i j : Int) (r : En) : Wp X (M.opt (modD (.int i) (.int j)) r) kd = (j ≠ 0 ∧ kd (.int (i.fmod j)) r) := by
  simp only [wp_eq, qo_mod]
@[simp] theorem po_pow (i j : Int) (r : En) : Wp X (M.opt (powD (.int i) (.int j)) r) kd = ((0 ≤ j ∧ j ≤ 1000000 ∧ i.natAbs < 2 ^ 64) ∧ kd (.int (i ^ j.toNat)) r) := by
  simp only [wp_eq, qo_pow]
@[simp] theorem po_mulO {kr : RV → En → Prop} (xs : List D) (j : Int) (r : En) : Wp X (M.opt (mulO (.list xs) (.int j)) r) kr = (((-(2 ^ 63) ≤ j ∧ j < 2 ^ 63) ∧ xs.length * j.toNat ≤ 16777216) ∧ kr (.o (.l (List.replicate j.toNat xs).flatten)) r) := by
  simp only [wp_eq, qo_mulO]
@[simp] theorem po_mulL (xs : List D) (k : Int) (r : En) : Wp X (M.opt (mulD (.list xs) (.int k)) r) kd = (((-(2 ^ 63) ≤ k ∧ k < 2 ^ 63) ∧ xs.length * k.toNat ≤ 16777216) ∧ kd (.list (List.replicate k.toNat xs).flatten) r) := by
  simp only [wp_eq, qo_mulL]
@[simp] theorem po_mulT (xs : List D) (k : Int) (r : En) : Wp X (M.opt (mulD (.tuple xs) (.int k)) r) kd = ((-1000 ≤ k ∧ k ≤ 1000 ∧ xs.length ≤ 1000) ∧ kd (.tuple (List.replicate k.toNat xs).flatten) r) := by
  simp only [wp_eq, qo_mulT]
@[simp] theorem po_at (xs : List D) (n : Int) (r : En) : Wp X (M.opt (atI xs n) r) kd = ∃ d, atI xs n = some d ∧ kd d r := by
  simp only [wp_eq, qo_at]
@[simp high] theorem po_atI (xs : List Int) (n : Int) (r : En) : Wp X (M.opt (atI (xs.map .int) n) r) kd = ∃ c, atI xs n = some c ∧ kd (.int c) r := by
  simp only [wp_eq, qo_atI]
@[simp] theorem po_call {kk : RV → En → Prop} (f : List Sl → Re RV) (ms : M (List D)) (r : En) : Wp X (cCall f ms r) kk = Wp X (ms r) fun ds r => Wp (fun e _ => X e r) (f (ds.map .v)) fun rv _ => kk rv r := by
  simp only [wp_eq, qo_call]
@[simp] theorem po_callI {kk : RV → En → Prop} (f : List Sl → Re RV) (ms : M (List D)) (i : Nat) (r : En) : Wp X (cCallI i f ms r) kk = (match getC i r with
  | none => False
  | some _ => Wp X (ms r) fun ds r1 => (match getC i r1 with
    | none => False
    | some ct => Wp (fun e z => InIo (fun c => X e (putC i c r1)) z) (f (.io ct :: ds.map .v)) fun rv z => InIo (fun c => kk rv (putC i c r1)) z)) := by
  simp only [wp_eq, qo_callI]
theorem po_fn {kk : RV → List Sl → Prop} {n : Nat} {m : M Fl} {rs : List Sl} (h : Wp (fun e r => ∃ z, backA rs r = some z ∧ X e z) (m (rs ++ List.replicate (n - rs.length) .unk)) fun fl r => ∃ rv z, backA rs r = some z ∧ (fl = .rt rv ∨ (fl = .nx ∧ rv = .v .none)) ∧ kk rv z) : Wp X (fnOf n m rs) kk := by
  simp only [wp_eq] at *
  exact qo_fn h
theorem po_while {kk : Fl → En → Prop} {t : M Bool} {b : M Fl} (I : Nat → En → Prop)
    (hs : ∀ n r, I n r → Wp X (t r) fun x r1 => if x = true then Wp X (b r1) fun fl r2 => (match fl with
      | .nx => ∃ m, m < n ∧ I m r2
      | .ct => ∃ m, m < n ∧ I m r2
      | .bk => kk .nx r2
      | .rt v => kk (.rt v) r2) else kk .nx r1) (n : Nat) (r : En) (h0 : I n r) : Wp X (sWhile t b r) kk := by
  simp only [wp_eq] at *
  exact qo_while I hs n r h0
theorem po_step {kk : Fl → En → Prop} {m n : M Fl} {r : En} (h : ∀ K : Fl → En → Prop, (∀ r', Wp X (n r') kk → K .nx r') → (∀ v r', kk (.rt v) r' → K (.rt v) r') → (∀ r', kk .bk r' → K .bk r') → (∀ r', kk .ct r' → K .ct r') → Wp X (m r) K) : Wp X (sSeq m n r) kk := by
  simp only [wp_eq] at *
  exact qo_step h
theorem po_fnK {kk : RV → List Sl → Prop} {n : Nat} {m : M Fl} {rs : List Sl} (h : ∀ (Y : Exn → En → Prop) (K : Fl → En → Prop), (∀ e r z, backA rs r = some z → X e z → Y e r) → (∀ v r z, backA rs r = some z → kk v z → K (.rt v) r) → (∀ r z, backA rs r = some z → kk (.v .none) z → K .nx r) → Wp Y (m (rs ++ List.replicate (n - rs.length) .unk)) K) : Wp X (fnOf n m rs) kk := by
  simp only [wp_eq] at *
  exact qo_fnK h
theorem po_forK {γ : Type} {kk : Fl → En → Prop} {tg : Tg} {b : M Fl} {f : γ → D} (I : List γ → En → Prop) (xs : List γ) (r : En) (h0 : I [] r)
    (hs : ∀ done x rest r, xs = done ++ x :: rest → I done r → ∃ r1, tg (f x) r = some r1 ∧ ∀ K : Fl → En → Prop, (∀ r2, I (done ++ [x]) r2 → K .nx r2) → (∀ v r2, kk (.rt v) r2 → K (.rt v) r2) → (∀ r2, I (done ++ [x]) r2 → K .ct r2) → (∀ r2, kk .nx r2 → K .bk r2) → Wp X (b r1) K) (he : ∀ r, I xs r → kk .nx r) : Wp X (forL tg b (xs.map f) r) kk := by
  simp only [wp_eq] at *
  exact qo_forK I xs r h0 hs he
theorem po_rngK {kk : Fl → En → Prop} {tg : Tg} {b : M Fl} {lo : Int} (I : Nat → En → Prop) (n : Nat) (r : En) (h0 : I 0 r)
    (hs : ∀ i r, i < n → I i r → ∃ r1, tg (.int (lo + (i : Nat))) r = some r1 ∧ ∀ K : Fl → En → Prop, (∀ r2, I (i + 1) r2 → K .nx r2) → (∀ v r2, kk (.rt v) r2 → K (.rt v) r2) → (∀ r2, I (i + 1) r2 → K .ct r2) → (∀ r2, kk .nx r2 → K .bk r2) → Wp X (b r1) K) (he : ∀ r, I n r → kk .nx r) : Wp X (forL tg b (rngD lo n) r) kk := by
  simp only [wp_eq] at *
  exact qo_rngK I n r h0 hs he
@[simp] theorem po_comp {kk : RV → En → Prop} (src : M (List D)) (is : List Nat) (tg : Tg) (tt : M Bool) (te : M D) (r : En) : Wp X (oComp src is tg tt te r) kk = Wp X (src r) fun xs r => noOwn r is = true ∧ Wp (fun _ _ => False) (compL is tg tt te xs [] r) fun ys q => kk (.o (.l ys)) (backE r (wipeE q is) is) := by
  simp only [wp_eq, qo_comp]
theorem po_compM {γ : Type} {kl : List D → En → Prop} {is : List Nat} {tg : Tg} {te : M D} {f : γ → D} {g : γ → D} (J : En → Prop) : ∀ (xs : List γ) (acc : List D) (r : En), J r → acc.length + xs.length ≤ 16777216 →
    (∀ x ∈ xs, ∀ r, J r → ∃ r1, tg (f x) (wipeE r is) = some r1 ∧ Wp (fun _ _ => False) (te r1) fun y r3 => y = g x ∧ J r3) → (∀ r, J r → kl (acc ++ xs.map g) r) → Wp (fun _ _ => False) (compL is tg yes te (xs.map f) acc r) kl := by
  intro xs acc r hJ hl hs he
  simp only [wp_eq] at *
  exact qo_compM J xs acc r hJ hl hs he
theorem po_compC {γ : Type} {kl : List D → En → Prop} {is : List Nat} {tg : Tg} {te : M D} {f : γ → D} (J : List D → En → Prop) (xs : List γ) (r : En) (hJ : J [] r) (hl : xs.length ≤ 16777216)
    (hs : ∀ x acc r, xs[acc.length]? = some x → J acc r → ∃ r1, tg (f x) (wipeE r is) = some r1 ∧ ∀ K : D → En → Prop, (∀ y r3, J (acc ++ [y]) r3 → K y r3) → Wp (fun _ _ => False) (te r1) K) (he : ∀ acc r, acc.length = xs.length → J acc r → kl acc r) : Wp (fun _ _ => False) (compL is tg yes te (xs.map f) [] r) kl := by
  simp only [wp_eq] at *
  exact qo_compC J xs r hJ hl hs he
theorem po_compF {γ : Type} {kl : List D → En → Prop} {is : List Nat} {tg : Tg} {tt : M Bool} {te : M D} {f : γ → D} {g : γ → D} {p : γ → Bool} (J : En → Prop) : ∀ (xs : List γ) (acc : List D) (r : En), J r → acc.length + xs.length ≤ 16777216 →
    (∀ x ∈ xs, ∀ r, J r → ∃ r1, tg (f x) (wipeE r is) = some r1 ∧ Wp (fun _ _ => False) (tt r1) fun b r2 => b = p x ∧ (p x = false → J r2) ∧ (p x = true → Wp (fun _ _ => False) (te r2) fun y r3 => y = g x ∧ J r3)) → (∀ r, J r → kl (acc ++ (xs.filter p).map g) r) → Wp (fun _ _ => False) (compL is tg tt te (xs.map f) acc r) kl := by
  intro xs acc r hJ hl hs he
  simp only [wp_eq] at *
  exact qo_compF J xs acc r hJ hl hs he
theorem po_compMD {kl : List D → En → Prop} {is : List Nat} {tg : Tg} {te : M D} {g : D → D} (J : En → Prop) (xs : List D) (r : En) (hJ : J r) (hl : xs.length ≤ 16777216) (hs : ∀ x ∈ xs, ∀ r, J r → ∃ r1, tg x (wipeE r is) = some r1 ∧ Wp (fun _ _ => False) (te r1) fun y r3 => y = g x ∧ J r3) (he : ∀ r, J r → kl (xs.map g) r) : Wp (fun _ _ => False) (compL is tg yes te xs [] r) kl := by
  simp only [wp_eq] at *
  exact qo_compMD J xs r hJ hl hs he
@[simp] theorem po_cI (p : Prop) (x : Re α) : Wp X (cI p x .no) k = (p ∧ Wp X x k) := by
  simp only [wp_eq, qo_cI]
@[simp] theorem po_lamR {kk : RV → En → Prop} (r : En) (m : Re Fl) : Wp X (lamRes r m) kk = Wp (fun _ _ => False) m fun fl _ => (match fl with
  | .rt rv => kk rv r
  | .nx => kk (.v .none) r
  | _ => False) := by
  simp only [wp_eq, qo_lamR]
@[simp] theorem po_lam {kk : RV → En → Prop} (ns : List Str) (n i : Nat) (br : M Fl) (th : M D) (r : En) : Wp X (cLam ns n i br th r) kk = Wp (fun e _ => e.name ∈ ns ∧ Wp X (lamRes r (br ((List.replicate n Sl.unk).set i (.v (exOf e))))) kk) (th (r.map hideS)) fun _ _ => Wp X (lamRes r (br ((List.replicate n Sl.unk).set i (.v .none)))) kk := by
  simp only [wp_eq, qo_lam]
@[simp] theorem po_try {kk : Fl → En → Prop} (ns : List Str) (j i : Nat) (mb : M Fl) (r : En) : Wp X (sTry ns j i mb r) kk = Wp (fun e r1 => e.name ∈ ns ∧ (match (setN j (.v (exOf e)) r1).bind (setN i (.v (exOf e))) with
  | some r2 => kk .nx (r2.set j .unk)
  | none => False)) (mb r) kk := by
  simp only [wp_eq, qo_try]
end
end Pu
namespace Pu
open PySem L2
variable [TabT]
/-! ### comprehensions of pure members, by the surroundings themselves -/
theorem set_back (r : En) (i : Nat) (s t : Sl) (hi : i < r.length) : ((r.set i s).set i t).set i (r.getD i .unk) = r := by
  rw [List.set_set, List.set_set]
  apply List.ext_getElem?
  intro k
  rw [List.getElem?_set]
  by_cases h : i = k
  · subst h
    rw [if_pos rfl, if_pos hi, List.getD_eq_getElem?_getD, List.getElem?_eq_getElem hi]
    rfl
  · rw [if_neg h]
theorem own_lt {r : En} {i : Nat} {is : List Nat} (h : noOwn r (i :: is) = true) : i < r.length ∧ noOwn r is = true := by
  rw [noOwn_cons, Bool.and_eq_true] at h
  refine ⟨?_, h.2⟩
  have h1 := h.1
  cases hr : r[i]? with
  | none =>
    rw [hr] at h1
    cases h1
  | some s => exact (List.getElem?_eq_some_iff.mp hr).1
theorem po_LC1 {γ : Type} {X : Exn → En → Prop} {kk : RV → En → Prop} {src : M (List D)} {i : Nat} {te : M D} {r : En} (f g : γ → D) (xs : List γ) (hsrc : Wp X (src r) fun ds r' => ds = xs.map f ∧ r' = r) (ho : noOwn r [i] = true) (hl : xs.length ≤ 16777216) (hb : ∀ x ∈ xs, Wp (fun _ _ => False) (te (r.set i (.v (f x)))) fun y r3 => y = g x ∧ r3 = r.set i (.v (f x))) (hk : kk (.o (.l (xs.map g))) r) : Wp X (oComp src [i] (gN i) yes te r) kk := by
  rw [po_comp]
  refine po_mono hsrc ?_
  rintro _ _ ⟨rfl, rfl⟩
  refine ⟨ho, ?_⟩
  have hi := (own_lt ho).1
  rename_i q
  refine po_compM (f := f) (g := g) (fun r => ∃ s, r = q.set i s) xs [] q ⟨q[i], by rw [List.set_getElem_self]⟩ (by simpa using hl) ?_ ?_
  · rintro x hx _ ⟨s, rfl⟩
    refine ⟨q.set i (.v (f x)), ?_, po_mono (hb x hx) ?_⟩
    · simp [hi]
    · rintro y r3 ⟨h1, h2⟩
      exact ⟨h1, _, h2⟩
  · rintro _ ⟨s, rfl⟩
    rw [List.nil_append]
    simp only [wipe_cons, wipe_nil, back_cons, back_nil]
    rw [set_back _ _ _ _ hi]
    exact hk
theorem set_back2 (r : En) (i j : Nat) (s t s2 t2 : Sl) (hi : i < r.length) (hj : j < r.length) : (((((r.set i s).set j t).set j s2).set i t2).set j (r.getD j .unk)).set i (r.getD i .unk) = r := by
  apply List.ext_getElem?
  intro k
  simp only [List.getElem?_set, List.length_set]
  by_cases h : i = k
  · subst h
    simp [hi, List.getD_eq_getElem?_getD]
  · by_cases h2 : j = k
    · subst h2
      simp [h, hj, List.getD_eq_getElem?_getD]
    · simp [h, h2]
theorem po_LC2 {γ : Type} {X : Exn → En → Prop} {kk : RV → En → Prop} {src : M (List D)} {i j : Nat} {te : M D} {r : En} (f1 f2 g : γ → D) (xs : List γ) (hsrc : Wp X (src r) fun ds r' => (ds = xs.map fun x => .tuple [f1 x, f2 x]) ∧ r' = r) (ho : noOwn r [i, j] = true) (hij : i ≠ j) (hl : xs.length ≤ 16777216) (hb : ∀ x ∈ xs, Wp (fun _ _ => False) (te ((r.set i (.v (f1 x))).set j (.v (f2 x)))) fun y r3 => y = g x ∧ r3 = (r.set i (.v (f1 x))).set j (.v (f2 x))) (hk : kk (.o (.l (xs.map g))) r) : Wp X (oComp src [i, j] (gT (gCn (gN i) (gCn (gN j) gNl))) yes te r) kk := by
  rw [po_comp]
  refine po_mono hsrc ?_
  rintro _ _ ⟨rfl, rfl⟩
  refine ⟨ho, ?_⟩
  have hi := (own_lt ho).1
  have hj := (own_lt (own_lt ho).2).1
  rename_i q
  refine po_compM (f := fun x => .tuple [f1 x, f2 x]) (g := g) (fun r => ∃ s t, r = (q.set i s).set j t) xs [] q ⟨q[i], q[j], by rw [List.set_getElem_self, List.set_getElem_self]⟩ (by simpa using hl) ?_ ?_
  · rintro x hx _ ⟨s, t, rfl⟩
    refine ⟨(q.set i (.v (f1 x))).set j (.v (f2 x)), ?_, po_mono (hb x hx) ?_⟩
    · simp only [wipe_cons, wipe_nil]
      have e : (((q.set i s).set j t).set j Sl.unk).set i Sl.unk = (q.set j Sl.unk).set i Sl.unk := by
        rw [List.set_set, List.set_comm _ _ (Ne.symm hij), List.set_set, List.set_comm _ _ hij]
      rw [e]
      simp only [gT_ap, gCn_ap, gN_ap, gNl_ap, setN_ap]
      have e1 : ((q.set j Sl.unk).set i Sl.unk)[i]? = some .unk := by simp [hi]
      rw [e1]
      simp only [io_unk, Bool.false_eq_true, if_false, Option.bind_some]
      have e2 : (((q.set j Sl.unk).set i Sl.unk).set i (.v (f1 x)))[j]? = some .unk := by
        rw [List.set_set, List.getElem?_set_ne hij]
        simp [hj]
      rw [e2]
      simp only [io_unk, Bool.false_eq_true, if_false, Option.bind_some]
      congr 1
      rw [List.set_set, List.set_comm _ _ hij, List.set_set]
      exact List.set_comm _ _ (Ne.symm hij)
    · rintro y r3 ⟨h1, h2⟩
      exact ⟨h1, _, _, h2⟩
  · rintro _ ⟨s, t, rfl⟩
    rw [List.nil_append]
    simp only [wipe_cons, wipe_nil, back_cons, back_nil]
    rw [set_back2 _ _ _ _ _ _ _ hi hj]
    exact hk
/-! ### what can be told as a text -/
def Rq (dp bk : Nat) (d : D) : Prop := pln d = true ∧ d.depth ≤ dp ∧ d.bulk ≤ bk
theorem Rq.int {i : Int} (h : i.natAbs < 2 ^ 1900) : Rq 1 0 (.int i) := ⟨decide_eq_true h, by simp [PyData.depth], by simp [PyData.bulk]⟩
theorem Rq.mono {a b a' b' : Nat} {d : D} (h : Rq a b d) (h1 : a ≤ a') (h2 : b ≤ b') : Rq a' b' d := ⟨h.1, Nat.le_trans h.2.1 h1, Nat.le_trans h.2.2 h2⟩
theorem Rq.all {dp bk n : Nat} {ds : List D} (hl : ds.length ≤ n) (h : ∀ d ∈ ds, Rq dp bk d) : plnAll ds = true ∧ PyData.depthAll ds ≤ dp ∧ PyData.bulkAll ds ≤ (bk + 1) * n := by
  have e : ds.map (fun d : D => d) = ds := by simp
  have h1 := plnAll_map (fun d : D => d) ds fun d hd => (h d hd).1
  have h2 := depthAll_map (fun d : D => d) dp ds fun d hd => (h d hd).2.1
  have h3 := bulkAll_map (fun d : D => d) bk ds fun d hd => (h d hd).2.2
  rw [e] at h1 h2 h3
  exact ⟨h1, h2, Nat.le_trans h3 (Nat.mul_le_mul_left _ hl)⟩
theorem Rq.tup {dp bk n : Nat} {ds : List D} (hl : ds.length ≤ n) (h : ∀ d ∈ ds, Rq dp bk d) : Rq (dp + 1) ((bk + 1) * n) (.tuple ds) := by
  obtain ⟨h1, h2, h3⟩ := Rq.all hl h
  exact ⟨h1, by simp only [PyData.depth]; omega, by simp only [PyData.bulk]; exact h3⟩
theorem Rq.lst {dp bk n : Nat} {ds : List D} (hl : ds.length ≤ n) (h : ∀ d ∈ ds, Rq dp bk d) : Rq (dp + 1) ((bk + 1) * n) (.list ds) := by
  obtain ⟨h1, h2, h3⟩ := Rq.all hl h
  exact ⟨h1, by simp only [PyData.depth]; omega, by simp only [PyData.bulk]; exact h3⟩
@[simp] theorem eRemove_ap (i : Nat) (m : M D) (r : En) : eRemove i m r = (match getC i r with
  | some (.l _) => (m r).bind fun d r => match getC i r with
    | some (.l ds) => cI (SeqAt.shaped d = true ∧ SeqAt.shaped (.list ds) = true ∧ (SeqAt.dataPlace ds d).isSome = true) (.ok .none (putC i (.l (ds.eraseIdx ((SeqAt.dataPlace ds d).getD 0))) r)) .no
    | _ => .no
  | _ => .no) := rfl
@[simp] theorem eCount_ap (mo me : M D) (r : En) : eCount mo me r = (mo r).bind fun d r => (match d with
  | .list ds => (me r).bind fun b r => M.opt (countD (.list ds) b) r
  | _ => .no) := by
  show (mo r).bind (fun d => (match d with
  | .list ds => me.bind fun b => M.opt (countD (.list ds) b)
  | _ => M.no)) = _
  congr 1
  funext d r
  cases d <;> rfl
@[simp] theorem eGet_ap (i : Nat) (mk mx : M D) (r : En) : eGet i mk mx r = (match getC i r with
  | some (.d _) => (mk r).bind fun k r => (mx r).bind fun x r => (match getC i r with
    | some (.d kvs) => (match keyD k with
      | some y => .ok ((vK kvs y).getD x) r
      | none => .no)
    | _ => .no)
  | _ => .no) := rfl
@[simp] theorem eClear_ap (i : Nat) (r : En) : eClear i r = (match getC i r with
  | some (.l _) => .ok .none (putC i (.l []) r)
  | _ => .no) := rfl
@[simp] theorem zipW_tl (a b : List D) : zipW [.tuple a, .list b] = some (zipD a b) := rfl
@[simp] theorem zipW_ll (a b : List D) : zipW [.list a, .list b] = some (zipD a b) := rfl
@[simp] theorem eReprS_ap (i : Nat) (r : En) : eReprS i r = (match getC i r with
  | some (.l ds) => M.opt (reprD (.list ds)) r
  | some (.d _) => .no
  | some (.t _) => .no
  | some (.n (.l its)) => M.opt (reprD (.list (its.map Im.data))) r
  | some (.n _) => .no
  | none => nry (one reprD) (aCons (getS i) aNil) r) := rfl
@[simp] theorem eIsiS_ap (T : String) (i : Nat) (r : En) : eIsiS T i r = (match getC i r with
  | some (.l ds) => M.opt ((kitB "list" T).map PyData.bool) r
  | some (.d _) => M.opt ((kitB "dict" T).map PyData.bool) r
  | some (.t _) => .no
  | some (.n (.l _)) => M.opt ((kitB "list" T).map PyData.bool) r
  | some (.n _) => .no
  | none => una (isiD T) (getS i) r) := rfl
@[simp] theorem eTupS_ap (i : Nat) (r : En) : eTupS i r = (match getC i r with
  | some (.l ds) => .ok (.tuple ds) r
  | some (.d _) => .no
  | some (.t _) => .no
  | some (.n _) => .no
  | none => nry (one tupD) (aCons (getS i) aNil) r) := rfl
@[simp] theorem kit_ll : kitB "list" "list" = some true := by kernel_rfl
@[simp] theorem kit_lt : kitB "list" "tuple" = some false := by kernel_rfl
@[simp] theorem oListK_ap (i : Nat) (r : En) : oListK i r = (match getC i r with
  | some (.d kvs) => .ok (.o (.l (kvs.map fun kv => kD kv.1))) r
  | some (.l _) => .no
  | some (.t _) => .no
  | some (.n _) => .no
  | none => nryO listD (aCons (getS i) aNil) r) := rfl
@[simp] theorem oSortK_ap (i : Nat) (r : En) : oSortK i r = (match getC i r with
  | some (.d kvs) => (match intKs (kvs.map (·.1)) with
    | some is => cI (is.length < 64) (.ok (.o (.l ((isort is).map .int))) r) .no
    | none => .no)
  | some (.l _) => .no
  | some (.t _) => .no
  | some (.n _) => .no
  | none => nryO sortD (aCons (getS i) aNil) r) := rfl
@[simp] theorem maxdD_l (ns : List Int) (d : Int) : maxdD (.list (ns.map .int)) (.int d) = some (.int (maxI d ns)) := by
  show (intsOf (ns.map PyData.int)).map (fun ns => PyData.int (maxI d ns)) = _
  rw [intsOf_mp]
  rfl
@[simp] theorem noL_i (i : Int) : noL (.int i) = true := rfl
@[simp] theorem noL_t (ds : List D) : noL (.tuple ds) = noLAll ds := rfl
@[simp] theorem noL_nil : noLAll [] = true := rfl
@[simp] theorem kD_l (i : Int) : kD (.inl i) = .int i := rfl
/-! ### what can be told as a text, of short numbers, much of it -/
def Rs (dp bk : Nat) (d : D) : Prop := (pln d = true ∧ d.leavesShort 60 = true) ∧ d.depth ≤ dp ∧ d.bulk ≤ bk
theorem leaves_all {k : Nat} : ∀ {ds : List D}, (∀ d ∈ ds, d.leavesShort k = true) → PyData.leavesShortAll k ds = true
  | [], _ => rfl
  | d :: ds, h => Bool.and_eq_true_iff.mpr ⟨h d (List.mem_cons_self ..), leaves_all fun x hx => h x (List.mem_cons_of_mem _ hx)⟩
theorem Rs.int {i : Int} (h : i.natAbs < 2 ^ 50) : Rs 1 0 (.int i) := ⟨⟨decide_eq_true (Nat.lt_of_lt_of_le h (Nat.pow_le_pow_right (by decide) (by decide))), decide_eq_true (by
  show (Str.ofString (toString i)).length ≤ 60
  rw [ofString_length]
  have := int_text_length_le (k := 50) (by decide) (PySem.Flt.log2_lt_of (by decide) h)
  omega)⟩, by simp [PyData.depth], by simp [PyData.bulk]⟩
theorem Rs.mono {a b a' b' : Nat} {d : D} (h : Rs a b d) (h1 : a ≤ a') (h2 : b ≤ b') : Rs a' b' d := ⟨h.1, Nat.le_trans h.2.1 h1, Nat.le_trans h.2.2 h2⟩
theorem Rs.all {dp bk n : Nat} {ds : List D} (hl : ds.length ≤ n) (h : ∀ d ∈ ds, Rs dp bk d) : plnAll ds = true ∧ PyData.leavesShortAll 60 ds = true ∧ PyData.depthAll ds ≤ dp ∧ PyData.bulkAll ds ≤ (bk + 1) * n := by
  have e : ds.map (fun d : D => d) = ds := by simp
  have h1 := plnAll_map (fun d : D => d) ds fun d hd => (h d hd).1.1
  have h2 := depthAll_map (fun d : D => d) dp ds fun d hd => (h d hd).2.1
  have h3 := bulkAll_map (fun d : D => d) bk ds fun d hd => (h d hd).2.2
  rw [e] at h1 h2 h3
  exact ⟨h1, leaves_all fun d hd => (h d hd).1.2, h2, Nat.le_trans h3 (Nat.mul_le_mul_left _ hl)⟩
theorem Rs.tup {dp bk n : Nat} {ds : List D} (hl : ds.length ≤ n) (h : ∀ d ∈ ds, Rs dp bk d) : Rs (dp + 1) ((bk + 1) * n) (.tuple ds) := by
  obtain ⟨h1, h4, h2, h3⟩ := Rs.all hl h
  exact ⟨⟨h1, h4⟩, by simp only [PyData.depth]; omega, by simp only [PyData.bulk]; exact h3⟩
theorem Rs.lst {dp bk n : Nat} {ds : List D} (hl : ds.length ≤ n) (h : ∀ d ∈ ds, Rs dp bk d) : Rs (dp + 1) ((bk + 1) * n) (.list ds) := by
  obtain ⟨h1, h4, h2, h3⟩ := Rs.all hl h
  exact ⟨⟨h1, h4⟩, by simp only [PyData.depth]; omega, by simp only [PyData.bulk]; exact h3⟩
theorem Rs.shaped {dp bk : Nat} {d : D} (h : Rs dp bk d) (h1 : dp ≤ 64) : SeqAt.shaped d = true := pln_shaped h.1.1 (Nat.le_trans h.2.1 h1)
theorem Rq.shaped {dp bk : Nat} {d : D} (h : Rq dp bk d) (h1 : dp ≤ 64) : SeqAt.shaped d = true := pln_shaped h.1 (Nat.le_trans h.2.1 h1)
theorem fdivLD_iff (i j : Int) (d : D) : (fdivLD (.int i) (.int j) = some d) = (j ≠ 0 ∧ .int (i.fdiv j) = d) := by
  show (cI (j ≠ 0) (some (PyData.int (i.fdiv j))) none = some d) = _
  rw [cI_eq]
  exact ite_some _ _ _
@[simp] theorem po_fdivL {X : Exn → En → Prop} {kd : D → En → Prop} (i j : Int) (r : En) : Wp X (M.opt (fdivLD (.int i) (.int j)) r) kd = (j ≠ 0 ∧ kd (.int (i.fdiv j)) r) := by
  simp only [wp_eq]
  rw [qo_opt]
  simp only [fdivLD_iff]
  exact propext ⟨fun ⟨_, ⟨h, e⟩, q⟩ => ⟨h, by rw [e]; exact q⟩, fun ⟨h, q⟩ => ⟨_, ⟨h, rfl⟩, q⟩⟩
end Pu
namespace Pu
open PySem PySem.Spec PyProof.Rows L2
/-! ### a comprehension whose member may raise -/
end Pu
namespace Pu
open PySem PySem.Spec PyProof.Rows L2
variable [TabT]
def keepV : Sl → Sl
  | .v d => .v d
  | _ => .unk
def compLE (is : List Nat) (tg : Tg) (te : M D) : List D → List D → M (List D)
  | [], acc, r => .ok acc r
  | x :: xs, acc, r => match tg x (wipeE r is) with
    | none => .no
    | some r1 => match te r1 with
      | .ok y r3 => if acc.length < 16777216 then compLE is tg te xs (acc ++ [y]) r3 else .no
      | .ex e r3 => .ex e r3
      | .no => .no
def oCompE (src : M (List D)) (is : List Nat) (tg : Tg) (te : M D) : M RV := src.bind fun xs r => if noOwn r is = true then (match compLE is tg te xs [] r with
  | .ok ys q => .ok (.o (.l ys)) (backE r (wipeE q is) is)
  | .ex e _ => .ex e (r.map keepV)
  | .no => .no) else .no
/-! the plain side -/
section
variable {X : Exn → En → Prop}
@[simp] theorem po_compE {kk : RV → En → Prop} (src : M (List D)) (is : List Nat) (tg : Tg) (te : M D) (r : En) : Wp X (oCompE src is tg te r) kk = Wp X (src r) fun xs r => noOwn r is = true ∧ Wp (fun e _ => X e (r.map keepV)) (compLE is tg te xs [] r) fun ys q => kk (.o (.l ys)) (backE r (wipeE q is) is) := by
  simp only [wp_eq]
  show Po X ((src r).bind _) kk = _
  cases src r with
  | no => rfl
  | ex e q => rfl
  | ok xs r =>
    show Po X (if noOwn r is = true then _ else _) kk = (noOwn r is = true ∧ _)
    by_cases h : noOwn r is = true
    · rw [if_pos h]
      cases compLE is tg te xs [] r with
      | ok ys q => exact propext ⟨fun z => ⟨h, z⟩, fun z => z.2⟩
      | ex e q => exact propext ⟨fun z => ⟨h, z⟩, fun z => z.2⟩
      | no => exact propext ⟨fun z => z.elim, fun z => z.2.elim⟩
    · rw [if_neg h]
      exact propext ⟨fun z => z.elim, fun z => absurd z.1 h⟩
end
end Pu
namespace St
/-! ### vectors, spans, stairs -/
abbrev Ve := Nat → Int
inductive Sp (S : Ve → Prop) : Ve → Prop
  | zero : Sp S (fun _ => 0)
  | step {x r : Ve} (k : Int) : S r → Sp S x → Sp S (fun i => x i + k * r i)
theorem Sp.cong {S : Ve → Prop} {x y : Ve} (h : Sp S x) (e : ∀ i, x i = y i) : Sp S y := by
  have : x = y := funext e
  exact this ▸ h
theorem Sp.of {S : Ve → Prop} {r : Ve} (h : S r) : Sp S r := (Sp.step 1 h .zero).cong fun i => by show (0:Int) + 1 * r i = r i; omega
theorem Sp.add {S : Ve → Prop} {x y : Ve} (hx : Sp S x) (hy : Sp S y) : Sp S (fun i => x i + y i) := by
  induction hy with
  | zero => exact hx.cong fun i => by simp
  | step k hr _ ih => exact (ih.step k hr).cong fun i => by simp [Int.add_assoc]
theorem Sp.smul {S : Ve → Prop} {x : Ve} (c : Int) (hx : Sp S x) : Sp S (fun i => c * x i) := by
  induction hx with
  | zero => exact Sp.zero.cong fun i => by simp
  | step k hr _ ih => exact (ih.step (c * k) hr).cong fun i => by simp [Int.mul_add, Int.mul_assoc]
theorem Sp.subm {S : Ve → Prop} {x y : Ve} (c : Int) (hx : Sp S x) (hy : Sp S y) : Sp S (fun i => x i - c * y i) :=
  (hx.add (hy.smul (-c))).cong fun i => by rw [Int.neg_mul]; rfl
theorem Sp.le {S T : Ve → Prop} (h : ∀ r, S r → Sp T r) {x : Ve} (hx : Sp S x) : Sp T x := by
  induction hx with
  | zero => exact .zero
  | step k hr _ ih => exact ih.add ((h _ hr).smul k)
theorem Sp.mono {S T : Ve → Prop} (h : ∀ r, S r → T r) {x : Ve} (hx : Sp S x) : Sp T x := hx.le fun r hr => .of (h r hr)
theorem Sp.at0 {S : Ve → Prop} {i : Nat} (h : ∀ r, S r → r i = 0) {x : Ve} (hx : Sp S x) : x i = 0 := by
  induction hx with
  | zero => rfl
  | step k hr _ ih => simp [ih, h _ hr]
theorem Sp.dvd {S : Ve → Prop} {i : Nat} {d : Int} (h : ∀ r, S r → d ∣ r i) {x : Ve} (hx : Sp S x) : d ∣ x i := by
  induction hx with
  | zero => exact Int.dvd_zero d
  | step k hr _ ih => exact Int.dvd_add ih (Int.dvd_trans (h _ hr) ⟨k, by rw [Int.mul_comm]⟩)
/-- the span of a list -/
abbrev Sl (l : List Ve) (x : Ve) : Prop := Sp (fun r => r ∈ l) x
theorem sl_nil {x : Ve} : Sl [] x ↔ ∀ i, x i = 0 := by
  constructor
  · intro h i
    exact Sp.at0 (fun r hr => absurd hr (by simp)) h
  · intro h
    exact Sp.zero.cong fun i => (h i).symm
theorem sl_cons {a : Ve} {t : List Ve} {x : Ve} : Sl (a :: t) x ↔ ∃ c : Int, Sl t (fun i => x i - c * a i) := by
  constructor
  · intro h
    induction h with
    | zero => exact ⟨0, Sp.zero.cong fun i => by simp⟩
    | step k hr _ ih =>
      obtain ⟨c, hc⟩ := ih
      rcases List.mem_cons.mp hr with rfl | hr
      · exact ⟨c + k, hc.cong fun i => by simp only [Int.add_mul]; omega⟩
      · exact ⟨c, (hc.step k hr).cong fun i => by simp only []; omega⟩
  · rintro ⟨c, h⟩
    have h1 : Sl (a :: t) (fun i => x i - c * a i) := Sp.mono (fun r hr => List.mem_cons_of_mem _ hr) h
    exact (h1.step c (List.mem_cons_self ..)).cong fun i => by show x i - c * a i + c * a i = x i; omega
/-- the foot of a vector -/
def Ft (r : Ve) (k : Nat) : Prop := (∀ i, i < k → r i = 0) ∧ 0 < r k
theorem Ft.uniq {r : Ve} {j k : Nat} (a : Ft r j) (b : Ft r k) : j = k := by
  rcases Nat.lt_trichotomy j k with h | h | h
  · have := b.1 j h
    have := a.2
    omega
  · exact h
  · have := a.1 k h
    have := b.2
    omega
/-- a stair -/
inductive Stair : List Ve → Prop
  | nil : Stair []
  | cons {a : Ve} {t : List Ve} {k : Nat} : Ft a k → (∀ r ∈ t, ∀ i, i ≤ k → r i = 0) → (∀ r ∈ t, ∀ j, Ft r j → 0 ≤ a j ∧ a j < r j) → Stair t → Stair (a :: t)
theorem Stair.ft {l : List Ve} (h : Stair l) : ∀ r ∈ l, ∃ k, Ft r k := by
  induction h with
  | nil => intro r hr; cases hr
  | cons hk _ _ _ ih =>
    intro r hr
    rcases List.mem_cons.mp hr with rfl | hr
    · exact ⟨_, hk⟩
    · exact ih r hr
/-- what is reached, seen from the first row -/
theorem Stair.red {a : Ve} {t : List Ve} {k : Nat} {x : Ve} (hk : Ft a k) (hz : ∀ r ∈ t, ∀ i, i ≤ k → r i = 0) : Sl (a :: t) x ↔ (a k ∣ x k ∧ Sl t (fun i => x i - (x k).fdiv (a k) * a i)) := by
  rw [sl_cons]
  constructor
  · rintro ⟨c, h⟩
    have h0 : x k - c * a k = 0 := Sp.at0 (fun r hr => hz r hr k (Nat.le_refl _)) h
    have e : x k = a k * c := by rw [Int.mul_comm]; omega
    refine ⟨⟨c, e⟩, ?_⟩
    have q : (x k).fdiv (a k) = c := by rw [e]; exact Int.mul_fdiv_cancel_left _ (by have := hk.2; omega)
    rw [q]
    exact h
  · rintro ⟨_, h⟩
    exact ⟨_, h⟩
/-- a vector of the span that is small at all feet is nought -/
theorem Stair.small {l : List Ve} (h : Stair l) : ∀ {x : Ve}, Sl l x → (∀ r ∈ l, ∀ k, Ft r k → -(r k) < x k ∧ x k < r k) → ∀ i, x i = 0 := by
  induction h with
  | nil => intro x hx _; exact sl_nil.mp hx
  | @cons a t k hk hz hr _ ih =>
    intro x hx hs
    obtain ⟨⟨c, hc⟩, h2⟩ := (Stair.red hk hz).mp hx
    have hb := hs a (List.mem_cons_self ..) k hk
    have hp := hk.2
    have c0 : c = 0 := by
      rcases Int.lt_trichotomy c 0 with h | h | h
      · have h3 : a k * c ≤ a k * (-1) := Int.mul_le_mul_of_nonneg_left (by omega) (by omega)
        omega
      · exact h
      · have h3 : a k * 1 ≤ a k * c := Int.mul_le_mul_of_nonneg_left (by omega) (by omega)
        omega
    rw [c0, Int.mul_zero] at hc
    rw [hc, Int.zero_fdiv] at h2
    exact ih (h2.cong fun i => by simp) fun r hr => hs r (List.mem_cons_of_mem _ hr)
/-- the span of the rest: what is 0 at the first foot -/
theorem Stair.rest {a : Ve} {t : List Ve} {k : Nat} {x : Ve} (hk : Ft a k) (hz : ∀ r ∈ t, ∀ i, i ≤ k → r i = 0) : Sl t x ↔ (Sl (a :: t) x ∧ x k = 0) := by
  constructor
  · intro h
    exact ⟨Sp.mono (fun r hr => List.mem_cons_of_mem _ hr) h, Sp.at0 (fun r hr => hz r hr k (Nat.le_refl _)) h⟩
  · rintro ⟨h, h0⟩
    have := ((Stair.red hk hz).mp h).2
    rw [h0, Int.zero_fdiv] at this
    exact this.cong fun i => by simp
theorem dvd_pos_eq {a b : Int} (ha : 0 < a) (hb : 0 < b) (h1 : a ∣ b) (h2 : b ∣ a) : a = b := Int.le_antisymm (Int.le_of_dvd hb h1) (Int.le_of_dvd ha h2)
theorem Stair.uniq : ∀ {l m : List Ve}, Stair l → Stair m → (∀ x, Sl l x ↔ Sl m x) → l = m := by
  intro l m hl
  induction hl generalizing m with
  | nil =>
    intro hm h
    cases hm with
    | nil => rfl
    | @cons b s j hj _ _ _ =>
      have := (h b).mpr (.of (List.mem_cons_self ..))
      have := sl_nil.mp this j
      have := hj.2
      omega
  | @cons a t k hk hz hr ht ih =>
    intro hm h
    cases hm with
    | nil =>
      have := (h a).mp (.of (List.mem_cons_self ..))
      have := sl_nil.mp this k
      have := hk.2
      omega
    | @cons b s j hj hzj hrj hs =>
      have ha : Sl (b :: s) a := (h a).mp (.of (List.mem_cons_self ..))
      have hb : Sl (a :: t) b := (h b).mpr (.of (List.mem_cons_self ..))
      have e : k = j := by
        have z1 : ∀ i, i < j → a i = 0 := fun i hi => Sp.at0 (fun r hr => by
          rcases List.mem_cons.mp hr with rfl | hr
          · exact hj.1 i hi
          · exact hzj r hr i (by omega)) ha
        have z2 : ∀ i, i < k → b i = 0 := fun i hi => Sp.at0 (fun r hr => by
          rcases List.mem_cons.mp hr with rfl | hr
          · exact hk.1 i hi
          · exact hz r hr i (by omega)) hb
        rcases Nat.lt_trichotomy k j with q | q | q
        · have := z1 k q
          have := hk.2
          omega
        · exact q
        · have := z2 j q
          have := hj.2
          omega
      subst e
      have eq : a k = b k := dvd_pos_eq hk.2 hj.2 ((Stair.red hk hz).mp hb).1 ((Stair.red hj hzj).mp ha).1
      have hts : ∀ x, Sl t x ↔ Sl s x := fun x => by rw [Stair.rest hk hz, Stair.rest hj hzj, h x]
      have ets : t = s := ih hs hts
      subst ets
      have hd : Sl (a :: t) (fun i => a i - 1 * b i) := (Sp.of (List.mem_cons_self ..)).subm 1 hb
      have hd2 : Sl t (fun i => a i - 1 * b i) := (Stair.rest hk hz).mpr ⟨hd, by simp [eq]⟩
      have hzero := ht.small hd2 fun r hr2 q hq => by
        have h1 := hr r hr2 q hq
        have h2 := hrj r hr2 q hq
        constructor <;> omega
      have eab : a = b := funext fun i => by
        have := hzero i
        omega
      rw [eab]
/-! ### pairs of a row and its mixing -/
abbrev P2 := List Int × List Int
def vec (l : List Int) : Ve := fun i => l.getD i 0
def lsl (a b : List Int) (m : Int) : List Int := List.zipWith (fun x y => x - m * y) a b
def less (p q : P2) (m : Int) : P2 := (lsl p.1 q.1 m, lsl p.2 q.2 m)
theorem vec_nil (i : Nat) : vec [] i = 0 := rfl
theorem vec_out {l : List Int} {i : Nat} (h : l.length ≤ i) : vec l i = 0 := by
  unfold vec
  rw [List.getD_eq_getElem?_getD, List.getElem?_eq_none h]
  rfl
theorem vec_get {l : List Int} {i : Nat} (h : i < l.length) : vec l i = l[i] := by
  unfold vec
  rw [List.getD_eq_getElem?_getD, List.getElem?_eq_getElem h]
  rfl
theorem vec_mem {l : List Int} {i : Nat} (h : i < l.length) : vec l i ∈ l := by
  rw [vec_get h]
  exact List.getElem_mem h
theorem len_lsl {a b : List Int} {m : Int} (h : a.length = b.length) : (lsl a b m).length = a.length := by simp [lsl, h]
theorem vec_lsl : ∀ {a b : List Int} {m : Int}, a.length = b.length → ∀ i, vec (lsl a b m) i = vec a i - m * vec b i
  | [], [], m, _, i => by simp [lsl, vec_nil]
  | x :: a, y :: b, m, h, 0 => rfl
  | x :: a, y :: b, m, h, i + 1 => by
    show vec (lsl a b m) i = vec a i - m * vec b i
    exact vec_lsl (by simpa using h) i
  | [], _ :: _, _, h, _ => by simp at h
  | _ :: _, [], _, h, _ => by simp at h
theorem mem_lsl : ∀ {a b : List Int} {m e : Int}, e ∈ lsl a b m → ∃ x ∈ a, ∃ y ∈ b, e = x - m * y
  | [], _, m, e, h => by simp [lsl] at h
  | _ :: _, [], m, e, h => by simp [lsl] at h
  | x :: a, y :: b, m, e, h => by
    rcases List.mem_cons.mp (show e ∈ (x - m * y) :: lsl a b m from h) with rfl | h
    · exact ⟨x, List.mem_cons_self .., y, List.mem_cons_self .., rfl⟩
    · obtain ⟨x', hx, y', hy, e⟩ := mem_lsl h
      exact ⟨x', List.mem_cons_of_mem _ hx, y', List.mem_cons_of_mem _ hy, e⟩
/-- rows mixed by numbers -/
def dot : List Int → List (List Int) → Ve
  | c :: m, r :: rs => fun i => c * vec r i + dot m rs i
  | _, _ => fun _ => 0
theorem dot_lsl : ∀ {a b : List Int} {m : Int} {rs : List (List Int)}, a.length = b.length → ∀ i, dot (lsl a b m) rs i = dot a rs i - m * dot b rs i
  | [], [], m, rs, _, i => by simp [lsl, dot]
  | x :: a, y :: b, m, [], h, i => by simp [lsl, dot]
  | x :: a, y :: b, m, r :: rs, h, i => by
    show (x - m * y) * vec r i + dot (lsl a b m) rs i = (x * vec r i + dot a rs i) - m * (y * vec r i + dot b rs i)
    rw [dot_lsl (by simpa using h) i, Int.sub_mul, Int.mul_add, Int.mul_assoc]
    omega
  | [], _ :: _, _, _, h, _ => by simp at h
  | _ :: _, [], _, _, h, _ => by simp at h
/-! ### the numbers at a place -/
theorem fdiv_fmod (v f : Int) : v - v.fdiv f * f = v.fmod f := by
  have := Int.mul_fdiv_add_fmod v f
  rw [Int.mul_comm] at this
  omega
theorem fmod_sgn {v f : Int} (h : f ≠ 0) : (0 < f → 0 ≤ v.fmod f ∧ v.fmod f < f) ∧ (f < 0 → f < v.fmod f ∧ v.fmod f ≤ 0) := by
  constructor
  · intro hf
    exact ⟨Int.fmod_nonneg_of_pos _ hf, Int.fmod_lt_of_pos _ hf⟩
  · intro hf
    have e : v.fmod f = -((-v).fmod (-f)) := by
      rw [Int.neg_fmod_neg]
      omega
    have h1 := Int.fmod_nonneg_of_pos (-v) (show 0 < -f by omega)
    have h2 := Int.fmod_lt_of_pos (-v) (show 0 < -f by omega)
    omega
/-- |v // f| times |f| -/
theorem fdiv_abs {v f : Int} (h : f ≠ 0) : (v.fdiv f).natAbs * f.natAbs ≤ v.natAbs + f.natAbs := by
  rw [← Int.natAbs_mul]
  have e := fdiv_fmod v f
  have s := fmod_sgn (v := v) h
  rcases Int.lt_or_gt_of_ne h with hf | hf
  · have := s.2 hf
    omega
  · have := s.1 hf
    omega
theorem fdiv_abs1 {v f : Int} (h : f ≠ 0) : (v.fdiv f).natAbs ≤ v.natAbs + 1 := by
  have h1 := fdiv_abs (v := v) h
  have h2 : 1 ≤ f.natAbs := by omega
  rcases Nat.lt_or_ge (v.natAbs + 1) (v.fdiv f).natAbs with q | q
  · exfalso
    have h3 : (v.natAbs + 2) * f.natAbs ≤ (v.fdiv f).natAbs * f.natAbs := Nat.mul_le_mul_right _ q
    have h4 : v.natAbs * 1 ≤ v.natAbs * f.natAbs := Nat.mul_le_mul_left _ h2
    rw [Nat.add_mul] at h3
    omega
  · exact q
/-! ### gathering at a place -/
abbrev vt (p : P2) (k : Nat) : Int := vec p.1 k
structure GS (rs : List (List Int)) (w n k : Nat) (T : Ve → Prop) (l : List P2) : Prop where
  len : ∀ p ∈ l, p.1.length = w ∧ p.2.length = n
  mx : ∀ p ∈ l, ∀ i, vec p.1 i = dot p.2 rs i
  sp : ∀ x, Sl (l.map fun p => vec p.1) x ↔ T x
  z : ∀ p ∈ l, ∀ i, i < k → vec p.1 i = 0
/-- the members of l' are f, a keeping rest, and the others less so many times f -/
theorem GS.step {rs : List (List Int)} {w n k : Nat} {T : Ve → Prop} {l l' rest oth : List P2} {f : P2} {m : P2 → Int} (h : GS rs w n k T l) (e : ∀ p, p ∈ l ↔ p = f ∨ p ∈ rest ∨ p ∈ oth)
    (e' : ∀ p, p ∈ l' ↔ p = f ∨ p ∈ rest ∨ ∃ q ∈ oth, p = less q f (m q)) : GS rs w n k T l' := by
  have hf : f ∈ l := (e f).mpr (.inl rfl)
  have lf := h.len f hf
  have ln : ∀ q ∈ oth, q.1.length = f.1.length ∧ q.2.length = f.2.length := fun q hq => by
    have := h.len q ((e q).mpr (.inr (.inr hq)))
    omega
  refine ⟨fun p hp => ?_, fun p hp i => ?_, fun x => ?_, fun p hp i hi => ?_⟩
  · rcases (e' p).mp hp with rfl | hp | ⟨q, hq, rfl⟩
    · exact lf
    · exact h.len p ((e p).mpr (.inr (.inl hp)))
    · have l1 := ln q hq
      have l2 := h.len q ((e q).mpr (.inr (.inr hq)))
      exact ⟨(len_lsl l1.1).trans l2.1, (len_lsl l1.2).trans l2.2⟩
  · rcases (e' p).mp hp with rfl | hp | ⟨q, hq, rfl⟩
    · exact h.mx _ hf i
    · exact h.mx p ((e p).mpr (.inr (.inl hp))) i
    · have l1 := ln q hq
      show vec (lsl q.1 f.1 (m q)) i = dot (lsl q.2 f.2 (m q)) rs i
      rw [vec_lsl l1.1, dot_lsl l1.2, h.mx q ((e q).mpr (.inr (.inr hq))), h.mx f hf]
  · rw [← h.sp x]
    constructor
    · refine Sp.le fun r hr => ?_
      obtain ⟨p, hp, rfl⟩ := List.mem_map.mp hr
      have mem : ∀ p ∈ l, Sl (l.map fun p => vec p.1) (vec p.1) := fun p hp => .of (List.mem_map.mpr ⟨p, hp, rfl⟩)
      rcases (e' p).mp hp with rfl | hp | ⟨q, hq, rfl⟩
      · exact mem _ hf
      · exact mem p ((e p).mpr (.inr (.inl hp)))
      · exact ((mem q ((e q).mpr (.inr (.inr hq)))).subm (m q) (mem f hf)).cong fun i => (vec_lsl (ln q hq).1 i).symm
    · refine Sp.le fun r hr => ?_
      obtain ⟨p, hp, rfl⟩ := List.mem_map.mp hr
      have mem : ∀ p ∈ l', Sl (l'.map fun p => vec p.1) (vec p.1) := fun p hp => .of (List.mem_map.mpr ⟨p, hp, rfl⟩)
      have mf := mem f ((e' f).mpr (.inl rfl))
      rcases (e p).mp hp with rfl | hp | hp
      · exact mf
      · exact mem p ((e' p).mpr (.inr (.inl hp)))
      · exact ((mem _ ((e' _).mpr (.inr (.inr ⟨p, hp, rfl⟩)))).subm (-(m p)) mf).cong fun i => by
          show vec (lsl p.1 f.1 (m p)) i - -(m p) * vec f.1 i = vec p.1 i
          rw [vec_lsl (ln p hp).1, Int.neg_mul]
          omega
  · rcases (e' p).mp hp with rfl | hp | ⟨q, hq, rfl⟩
    · exact h.z _ hf i hi
    · exact h.z p ((e p).mpr (.inr (.inl hp))) i hi
    · show vec (lsl q.1 f.1 (m q)) i = 0
      rw [vec_lsl (ln q hq).1, h.z q ((e q).mpr (.inr (.inr hq))) i hi, h.z f hf i hi]
      simp
/-! ### how great the numbers grow -/
abbrev Ent (p : P2) (e : Int) : Prop := e ∈ p.1 ∨ e ∈ p.2
theorem ent_less {p f : P2} {m e : Int} (h : Ent (less p f m) e) : ∃ x y, Ent p x ∧ Ent f y ∧ e = x - m * y := by
  rcases h with h | h
  · obtain ⟨x, hx, y, hy, e⟩ := mem_lsl h
    exact ⟨x, y, .inl hx, .inl hy, e⟩
  · obtain ⟨x, hx, y, hy, e⟩ := mem_lsl h
    exact ⟨x, y, .inr hx, .inr hy, e⟩
theorem abs_sub_mul (x m y : Int) : (x - m * y).natAbs ≤ x.natAbs + m.natAbs * y.natAbs := by
  rw [← Int.natAbs_mul]
  omega
/-- all numbers are at most M; or: same signs s, values at most P, f one of the values -/
def Phase (M : Nat) (k : Nat) (some : List P2) : Prop :=
  (∀ p ∈ some, ∀ e, Ent p e → e.natAbs ≤ M) ∨
  ∃ (s : Int) (P f : Nat), (s = 1 ∨ s = -1) ∧ (∀ p ∈ some, ∃ v : Nat, 0 < v ∧ v ≤ P ∧ vt p k = s * v) ∧ (∃ p ∈ some, vt p k = s * f) ∧ ∀ p ∈ some, ∀ e, Ent p e → e.natAbs ^ 2 * P ^ 2 * f ≤ 9 * M ^ 5
theorem sq_le {a b : Nat} (h : a ≤ b) : a ^ 2 ≤ b ^ 2 := Nat.pow_le_pow_left h 2
theorem exists_min {α : Type} (f : α → Nat) : ∀ (l : List α), l ≠ [] → ∃ a ∈ l, ∀ b ∈ l, f a ≤ f b
  | [], h => absurd rfl h
  | [a], _ => ⟨a, List.mem_cons_self .., fun b hb => by rw [List.mem_singleton.mp hb]; exact Nat.le_refl _⟩
  | a :: b :: t, _ => by
    obtain ⟨c, hc, h⟩ := exists_min f (b :: t) (by simp)
    by_cases q : f a ≤ f c
    · refine ⟨a, List.mem_cons_self .., fun d hd => ?_⟩
      rcases List.mem_cons.mp hd with rfl | hd
      · exact Nat.le_refl _
      · exact Nat.le_trans q (h d hd)
    · refine ⟨c, List.mem_cons_of_mem _ hc, fun d hd => ?_⟩
      rcases List.mem_cons.mp hd with rfl | hd
      · omega
      · exact h d hd
/-- (1 + q)^2 f r is at most (q f + r)^2 -/
theorem key_ineq {q f r : Nat} (hq : 1 ≤ q) (hr : r ≤ f) : (1 + q) ^ 2 * (f * r) ≤ (q * f + r) ^ 2 := by
  obtain ⟨d, rfl⟩ := Nat.exists_eq_add_of_le hr
  obtain ⟨c, rfl⟩ := Nat.exists_eq_add_of_le hq
  -- (1+q)^2 (r+d) r + d (q^2 (r+d) - r) = (q (r+d) + r)^2
  have e : (((1 + c) * (r + d) + r) ^ 2 : Int) = (1 + (1 + c)) ^ 2 * ((r + d) * r) + d * ((1 + c) ^ 2 * (r + d) - r) := by
    generalize (c : Int) = c
    generalize (r : Int) = r
    generalize (d : Int) = d
    simp only [Int.pow_succ, Int.pow_zero, Int.mul_add, Int.add_mul, Int.mul_sub, Int.sub_mul, Int.one_mul, Int.mul_one]
    have h1 : c * r = r * c := Int.mul_comm ..
    have h2 : d * r = r * d := Int.mul_comm ..
    have h3 : c * d = d * c := Int.mul_comm ..
    simp only [Int.mul_assoc, Int.mul_comm, Int.mul_left_comm]
    omega
  have nn : (0 : Int) ≤ (d : Int) * ((1 + (c : Int)) ^ 2 * ((r : Int) + d) - r) := by
    refine Int.mul_nonneg (Int.natCast_nonneg _) ?_
    have h1 : (1 : Int) ≤ (1 + (c : Int)) ^ 2 := by
      have : (1 : Int) ≤ 1 + c := by omega
      have := Int.mul_le_mul this this (by omega) (by omega)
      simpa [Int.pow_succ] using this
    have h2 : (1 : Int) * ((r : Int) + d) ≤ (1 + (c : Int)) ^ 2 * ((r : Int) + d) := Int.mul_le_mul_of_nonneg_right h1 (by omega)
    omega
  have fin : (((1 + (1 + c)) ^ 2 * ((r + d) * r) : Nat) : Int) ≤ (((1 + c) * (r + d) + r) ^ 2 : Nat) := by
    push_cast
    omega
  exact Int.ofNat_le.mp fin
theorem vt_less {q f : P2} {m : Int} (h : q.1.length = f.1.length) (k : Nat) : vt (less q f m) k = vt q k - m * vt f k := vec_lsl h k
theorem vt_ent {p : P2} {k : Nat} (h : vt p k ≠ 0) : Ent p (vt p k) := by
  refine .inl (vec_mem ?_)
  rcases Nat.lt_or_ge k p.1.length with q | q
  · exact q
  · exact absurd (vec_out q) h
theorem fdiv_s {s : Int} {v f : Nat} (hs : s = 1 ∨ s = -1) (hf : 0 < f) : (s * v).fdiv (s * f) = ((v / f : Nat) : Int) := by
  rcases hs with rfl | rfl
  · simp only [Int.one_mul]
    rw [Int.fdiv_eq_ediv_of_nonneg _ (by omega)]
    rfl
  · rw [Int.neg_mul, Int.one_mul, Int.neg_mul, Int.one_mul, Int.neg_fdiv_neg, Int.fdiv_eq_ediv_of_nonneg _ (by omega)]
    rfl
theorem abs_s {s : Int} {v : Nat} (hs : s = 1 ∨ s = -1) : (s * v).natAbs = v := by
  rcases hs with rfl | rfl <;> omega
theorem Phase.step {M k : Nat} {some oth some' : List P2} {f : P2} (hM : 1 ≤ M) (h : Phase M k some) (hf : f ∈ some) (hmin : ∀ p ∈ some, (vt f k).natAbs ≤ (vt p k).natAbs) (hnz : ∀ p ∈ some, vt p k ≠ 0) (ho : ∀ q ∈ oth, q ∈ some) (hl : ∀ q ∈ oth, q.1.length = f.1.length)
    (hs' : ∀ p, p ∈ some' ↔ p = f ∨ ∃ q ∈ oth, p = less q f ((vt q k).fdiv (vt f k)) ∧ vt p k ≠ 0) :
    Phase M k some' ∧ ∀ q ∈ oth, vt (less q f ((vt q k).fdiv (vt f k))) k = 0 → ∀ e, Ent (less q f ((vt q k).fdiv (vt f k))) e → e.natAbs ^ 2 ≤ 36 * M ^ 5 := by
  have f0 : vt f k ≠ 0 := hnz f hf
  have res : ∀ q ∈ oth, vt (less q f ((vt q k).fdiv (vt f k))) k = (vt q k).fmod (vt f k) := fun q hq => by rw [vt_less (hl q hq), fdiv_fmod]
  rcases h with h | ⟨s, P, g, hs, hv, ⟨p0, hp0, hg⟩, hb⟩
  · generalize hF : (vt f k).natAbs = F
    have F1 : 1 ≤ F := by omega
    have FM : F ≤ M := by
      rw [← hF]
      exact h f hf _ (vt_ent f0)
    obtain ⟨s, hs, hsf⟩ : ∃ s : Int, (s = 1 ∨ s = -1) ∧ vt f k = s * F := by
      rcases Int.lt_or_gt_of_ne f0 with q | q
      · exact ⟨-1, .inr rfl, by omega⟩
      · exact ⟨1, .inl rfl, by omega⟩
    have vM : ∀ q ∈ oth, (vt q k).natAbs ≤ M := fun q hq => h q (ho q hq) _ (vt_ent (hnz q (ho q hq)))
    constructor
    · refine .inr ⟨s, F, F, hs, fun p hp => ?_, ⟨f, (hs' f).mpr (.inl rfl), hsf⟩, fun p hp e he => ?_⟩
      · rcases (hs' p).mp hp with rfl | ⟨q, hq, rfl, h2⟩
        · exact ⟨F, F1, Nat.le_refl _, hsf⟩
        · rw [res q hq] at h2 ⊢
          have sg := fmod_sgn (v := vt q k) f0
          refine ⟨((vt q k).fmod (vt f k)).natAbs, by omega, ?_, ?_⟩
          · rcases Int.lt_or_gt_of_ne f0 with q | q
            · have := sg.2 q
              omega
            · have := sg.1 q
              omega
          · rcases hs with rfl | rfl
            · have := sg.1 (by omega)
              omega
            · have := sg.2 (by omega)
              omega
      · have key : e.natAbs * F ≤ 3 * M ^ 2 := by
          rcases (hs' p).mp hp with rfl | ⟨q, hq, rfl, h2⟩
          · have h1 : e.natAbs * F ≤ M * M := Nat.mul_le_mul (h _ hf e he) FM
            have : M ^ 2 = M * M := Nat.pow_two M
            omega
          · obtain ⟨x, y, hx, hy, rfl⟩ := ent_less he
            have b1 := h q (ho q hq) x hx
            have b2 := h f hf y hy
            have b3 := fdiv_abs (v := vt q k) f0
            rw [hF] at b3
            have b4 := abs_sub_mul x ((vt q k).fdiv (vt f k)) y
            have b5 := vM q hq
            generalize ((vt q k).fdiv (vt f k)).natAbs = m at b3 b4
            have c1 : (x - (vt q k).fdiv (vt f k) * y).natAbs * F ≤ (x.natAbs + m * y.natAbs) * F := Nat.mul_le_mul_right _ b4
            have c2 : x.natAbs * F ≤ M * M := Nat.mul_le_mul b1 FM
            have c3 : (m * F) * y.natAbs ≤ (M + M) * M := Nat.mul_le_mul (by omega) b2
            have c4 : (x.natAbs + m * y.natAbs) * F = x.natAbs * F + (m * F) * y.natAbs := by grind
            have c5 : (M + M) * M = 2 * (M * M) := by grind
            have c6 : M ^ 2 = M * M := Nat.pow_two M
            omega
        calc e.natAbs ^ 2 * F ^ 2 * F = (e.natAbs * F) ^ 2 * F := by grind
          _ ≤ (3 * M ^ 2) ^ 2 * M := Nat.mul_le_mul (sq_le key) FM
          _ = 9 * M ^ 5 := by grind
    · intro q hq h0 e he
      obtain ⟨x, y, hx, hy, rfl⟩ := ent_less he
      have b1 := h q (ho q hq) x hx
      have b2 := h f hf y hy
      have b4 := abs_sub_mul x ((vt q k).fdiv (vt f k)) y
      have b5 := vM q hq
      rw [vt_less (hl q hq)] at h0
      have e1 : vt q k = (vt q k).fdiv (vt f k) * vt f k := by omega
      have e2 : (vt q k).natAbs = ((vt q k).fdiv (vt f k)).natAbs * (vt f k).natAbs := by rw [← Int.natAbs_mul, ← e1]
      generalize ((vt q k).fdiv (vt f k)).natAbs = m at b4 e2
      rw [hF] at e2
      have b6 : m * 1 ≤ m * F := Nat.mul_le_mul_left _ F1
      have b7 : m * y.natAbs ≤ M * M := Nat.mul_le_mul (by omega) b2
      have b8 : M * 1 ≤ M * M := Nat.mul_le_mul_left _ hM
      have b9 : (x - (vt q k).fdiv (vt f k) * y).natAbs ≤ 2 * (M * M) := by omega
      refine Nat.le_trans (sq_le b9) ?_
      calc (2 * (M * M)) ^ 2 = 4 * M ^ 4 * 1 := by grind
        _ ≤ 4 * M ^ 4 * (9 * M) := Nat.mul_le_mul_left _ (by omega)
        _ = 36 * M ^ 5 := by grind
  · obtain ⟨F, F1, FP, hF⟩ := hv f hf
    have Fg : F ≤ g := by
      have := hmin p0 hp0
      rw [hF, hg, abs_s hs, abs_s hs] at this
      exact this
    have E : ∀ p ∈ some, ∀ x, Ent p x → ∀ q ∈ some, ∀ y, Ent q y → ∃ z : Nat, x.natAbs ≤ z ∧ y.natAbs ≤ z ∧ z ^ 2 * P ^ 2 * g ≤ 9 * M ^ 5 := fun p hp x hx q hq y hy => by
      rcases Nat.le_total x.natAbs y.natAbs with c | c
      · exact ⟨y.natAbs, c, Nat.le_refl _, hb q hq y hy⟩
      · exact ⟨x.natAbs, Nat.le_refl _, c, hb p hp x hx⟩
    have rd : ∀ q ∈ oth, ∃ v : Nat, vt q k = s * v ∧ F ≤ v ∧ v ≤ P ∧ (vt q k).fdiv (vt f k) = ((v / F : Nat) : Int) ∧ vt (less q f ((vt q k).fdiv (vt f k))) k = s * (v % F : Nat) := fun q hq => by
      obtain ⟨v, v1, v2, v3⟩ := hv q (ho q hq)
      have := hmin q (ho q hq)
      rw [hF, v3, abs_s hs, abs_s hs] at this
      have e : (vt q k).fdiv (vt f k) = ((v / F : Nat) : Int) := by rw [v3, hF, fdiv_s hs F1]
      refine ⟨v, v3, this, v2, e, ?_⟩
      rw [vt_less (hl q hq), e, v3, hF]
      have d : ((F * (v / F) + v % F : Nat) : Int) = (v : Int) := congrArg Int.ofNat (Nat.div_add_mod v F)
      rw [Int.natCast_add, Int.natCast_mul] at d
      rw [← d]
      have c1 : ((v / F : Nat) : Int) * (s * (F : Int)) = s * ((F : Int) * ((v / F : Nat) : Int)) := by grind
      rw [d, c1, ← d, Int.mul_add]
      have : ((F * (v / F) + v % F : Nat) : Int) = (F : Int) * ((v / F : Nat) : Int) + ((v % F : Nat) : Int) := by rw [Int.natCast_add, Int.natCast_mul]
      omega
    have bd : ∀ q ∈ oth, ∀ v : Nat, (vt q k).fdiv (vt f k) = ((v / F : Nat) : Int) → ∀ e, Ent (less q f ((vt q k).fdiv (vt f k))) e → ∃ z : Nat, e.natAbs ≤ (1 + v / F) * z ∧ z ^ 2 * P ^ 2 * g ≤ 9 * M ^ 5 := fun q hq v hd e he => by
      obtain ⟨x, y, hx, hy, rfl⟩ := ent_less he
      obtain ⟨z, z1, z2, z3⟩ := E q (ho q hq) x hx f hf y hy
      refine ⟨z, ?_, z3⟩
      have b4 := abs_sub_mul x ((vt q k).fdiv (vt f k)) y
      rw [hd] at b4 ⊢
      have b5 : (v / F) * y.natAbs ≤ (v / F) * z := Nat.mul_le_mul_left _ z2
      rw [Nat.add_mul, Nat.one_mul]
      simp only [Int.natAbs_natCast] at b4
      omega
    constructor
    · obtain ⟨p1, hp1, hm1⟩ := exists_min (fun p => (vt p k).natAbs) some' (fun z => by
        have := (hs' f).mpr (.inl rfl)
        rw [z] at this
        cases this)
      have sg : ∀ p ∈ some', ∃ v : Nat, 0 < v ∧ v ≤ F ∧ vt p k = s * v := fun p hp => by
        rcases (hs' p).mp hp with rfl | ⟨q, hq, rfl, h2⟩
        · exact ⟨F, F1, Nat.le_refl _, hF⟩
        · obtain ⟨v, _, _, _, _, r4⟩ := rd q hq
          rw [r4] at h2 ⊢
          refine ⟨v % F, ?_, Nat.le_of_lt (Nat.mod_lt _ F1), rfl⟩
          rcases Nat.eq_zero_or_pos (v % F) with c | c
          · rw [c] at h2
            simp at h2
          · exact c
      obtain ⟨g', g1, g2, g3⟩ := sg p1 hp1
      have gm : ∀ p ∈ some', ∀ v : Nat, vt p k = s * v → g' ≤ v := fun p hp v e => by
        have := hm1 p hp
        rw [g3, e, abs_s hs, abs_s hs] at this
        exact this
      refine .inr ⟨s, F, g', hs, sg, ⟨p1, hp1, g3⟩, fun p hp e he => ?_⟩
      rcases (hs' p).mp hp with rfl | ⟨q, hq, rfl, h2⟩
      · exact Nat.le_trans (Nat.mul_le_mul (Nat.mul_le_mul_left _ (sq_le FP)) (Nat.le_trans g2 Fg)) (hb _ hf e he)
      · obtain ⟨v, r1, r2, r3, r4, r5⟩ := rd q hq
        obtain ⟨z, z1, z2⟩ := bd q hq v r4 e he
        have r6 := gm _ hp _ r5
        have q1 : 1 ≤ v / F := Nat.div_pos r2 F1
        have ki := key_ineq (q := v / F) (f := F) (r := v % F) q1 (Nat.le_of_lt (Nat.mod_lt _ F1))
        have dv : v / F * F + v % F = v := by rw [Nat.mul_comm]; exact Nat.div_add_mod v F
        rw [dv] at ki
        calc e.natAbs ^ 2 * F ^ 2 * g' ≤ ((1 + v / F) * z) ^ 2 * F ^ 2 * (v % F) := Nat.mul_le_mul (Nat.mul_le_mul_right _ (sq_le z1)) r6
          _ = z ^ 2 * ((1 + v / F) ^ 2 * (F * (v % F))) * F := by grind
          _ ≤ z ^ 2 * P ^ 2 * g := Nat.mul_le_mul (Nat.mul_le_mul_left _ (Nat.le_trans ki (sq_le r3))) Fg
          _ ≤ 9 * M ^ 5 := z2
    · intro q hq h0 e he
      obtain ⟨v, r1, r2, r3, r4, r5⟩ := rd q hq
      obtain ⟨z, z1, z2⟩ := bd q hq v r4 e he
      rw [r5] at h0
      have m0 : v % F = 0 := by
        have := congrArg Int.natAbs h0
        rw [abs_s hs] at this
        simpa using this
      have q1 : 1 ≤ v / F := Nat.div_pos r2 F1
      have dv : v / F * F = v := by
        have := Nat.div_add_mod v F
        rw [Nat.mul_comm] at this
        omega
      have c1 : v / F * 1 ≤ v / F * F := Nat.mul_le_mul_left _ F1
      have c2 : 1 + v / F ≤ 2 * P := by omega
      have c3 : e.natAbs ≤ 2 * P * z := Nat.le_trans z1 (Nat.mul_le_mul_right _ c2)
      calc e.natAbs ^ 2 ≤ (2 * P * z) ^ 2 := sq_le c3
        _ = 4 * (z ^ 2 * P ^ 2 * 1) := by grind
        _ ≤ 4 * (z ^ 2 * P ^ 2 * g) := Nat.mul_le_mul_left _ (Nat.mul_le_mul_left _ (by omega))
        _ ≤ 4 * (9 * M ^ 5) := Nat.mul_le_mul_left _ z2
        _ = 36 * M ^ 5 := by omega
def Bd (b : Nat) (l : List P2) : Prop := ∀ p ∈ l, ∀ e, Ent p e → e.natAbs < 2 ^ b
abbrev up (b : Nat) : Nat := (5 * b + 7) / 2
theorem bd_sq {b e : Nat} (h : e ^ 2 ≤ 36 * (2 ^ b) ^ 5) : e < 2 ^ up b := by
  have h1 : 36 * (2 ^ b) ^ 5 < 2 ^ (5 * b + 6) := by
    rw [← Nat.pow_mul, Nat.pow_add, Nat.mul_comm b 5, Nat.mul_comm (2 ^ (5 * b))]
    exact Nat.mul_lt_mul_of_pos_right (by decide) (Nat.pow_pos (by decide))
  have h2 : 2 ^ (5 * b + 6) ≤ (2 ^ up b) ^ 2 := by
    rw [← Nat.pow_mul]
    exact Nat.pow_le_pow_right (by decide) (by unfold up; omega)
  rcases Nat.lt_or_ge e (2 ^ up b) with q | q
  · exact q
  · have := sq_le q
    omega
theorem Phase.sq {M k : Nat} {some : List P2} (hM : 1 ≤ M) (h : Phase M k some) : ∀ p ∈ some, ∀ e, Ent p e → e.natAbs ^ 2 ≤ 36 * M ^ 5 := by
  intro p hp e he
  rcases h with h | ⟨s, P, g, hs, hv, ⟨p0, hp0, hg⟩, hb⟩
  · have := sq_le (h p hp e he)
    have h3 : M ^ 2 * 1 ≤ M ^ 2 * (36 * M ^ 3) := Nat.mul_le_mul_left _ (by
      have := Nat.pow_pos (n := 3) hM
      omega)
    have h4 : M ^ 2 * (36 * M ^ 3) = 36 * M ^ 5 := by grind
    omega
  · have := hb p hp e he
    obtain ⟨v, v1, v2, _⟩ := hv p hp
    obtain ⟨v', v1', _, e2⟩ := hv p0 hp0
    have g1 : 1 ≤ g := by
      rcases hs with rfl | rfl <;> omega
    have p1 : 1 ≤ P ^ 2 * g := Nat.mul_pos (Nat.pow_pos (by omega)) g1
    have : e.natAbs ^ 2 * 1 ≤ e.natAbs ^ 2 * (P ^ 2 * g) := Nat.mul_le_mul_left _ p1
    have c : e.natAbs ^ 2 * (P ^ 2 * g) = e.natAbs ^ 2 * P ^ 2 * g := by grind
    omega
/-- under way: some with a number at k, rest with 0 there -/
structure GI (rs : List (List Int)) (w n k b : Nat) (T : Ve → Prop) (some rest : List P2) : Prop where
  gs : GS rs w n k T (some ++ rest)
  nz : ∀ p ∈ some, vt p k ≠ 0
  r0 : ∀ p ∈ rest, vt p k = 0
  ph : Phase (2 ^ b) k some
  br : ∀ p ∈ rest, ∀ e, Ent p e → e.natAbs ^ 2 ≤ 36 * (2 ^ b) ^ 5
theorem GI.bd {rs : List (List Int)} {w n k b : Nat} {T : Ve → Prop} {some rest : List P2} (h : GI rs w n k b T some rest) : Bd (up b) (some ++ rest) := fun p hp e he => by
  rcases List.mem_append.mp hp with hp | hp
  · exact bd_sq (h.ph.sq (Nat.pow_pos (by decide)) p hp e he)
  · exact bd_sq (h.br p hp e he)
abbrev lss (k : Nat) (f : P2) (q : P2) : P2 := less q f ((vt q k).fdiv (vt f k))
theorem GI.step {rs : List (List Int)} {w n k b : Nat} {T : Ve → Prop} {some rest oth : List P2} {f : P2} (h : GI rs w n k b T some rest) (hf : f ∈ some) (hmin : ∀ p ∈ some, (vt f k).natAbs ≤ (vt p k).natAbs) (ho : ∀ p, p ∈ some ↔ p = f ∨ p ∈ oth) :
    GI rs w n k b T (f :: (oth.map (lss k f)).filter fun p => decide (vt p k ≠ 0)) (rest ++ (oth.map (lss k f)).filter fun p => decide (vt p k = 0)) := by
  have hl : ∀ q ∈ oth, q.1.length = f.1.length := fun q hq => by
    have h1 := h.gs.len q (List.mem_append_left _ ((ho q).mpr (.inr hq)))
    have h2 := h.gs.len f (List.mem_append_left _ hf)
    omega
  have st := Phase.step (some' := f :: (oth.map (lss k f)).filter fun p => decide (vt p k ≠ 0)) (Nat.pow_pos (by decide)) h.ph hf hmin h.nz (fun q hq => (ho q).mpr (.inr hq)) hl fun p => by
    simp only [List.mem_cons, List.mem_filter, List.mem_map, decide_eq_true_eq]
    constructor
    · rintro (h | ⟨⟨q, h1, h2⟩, h3⟩)
      · exact .inl h
      · exact .inr ⟨q, h1, h2.symm, h3⟩
    · rintro (h | ⟨q, h1, h2, h3⟩)
      · exact .inl h
      · exact .inr ⟨⟨q, h1, h2.symm⟩, h3⟩
  refine ⟨h.gs.step (f := f) (rest := rest) (oth := oth) (m := fun q => (vt q k).fdiv (vt f k)) (fun p => ?_) (fun p => ?_), fun p hp => ?_, fun p hp => ?_, st.1, fun p hp e he => ?_⟩
  · rw [List.mem_append, ho]
    constructor
    · rintro ((h | h) | h)
      · exact .inl h
      · exact .inr (.inr h)
      · exact .inr (.inl h)
    · rintro (h | h | h)
      · exact .inl (.inl h)
      · exact .inr h
      · exact .inl (.inr h)
  · simp only [List.mem_append, List.mem_cons, List.mem_filter, List.mem_map, decide_eq_true_eq]
    constructor
    · rintro ((h | ⟨⟨q, h1, h2⟩, h3⟩) | (h | ⟨⟨q, h1, h2⟩, h3⟩))
      · exact .inl h
      · exact .inr (.inr ⟨q, h1, h2.symm⟩)
      · exact .inr (.inl h)
      · exact .inr (.inr ⟨q, h1, h2.symm⟩)
    · rintro (h | h | ⟨q, h1, h2⟩)
      · exact .inl (.inl h)
      · exact .inr (.inl h)
      · by_cases c : vt p k = 0
        · exact .inr (.inr ⟨⟨q, h1, h2.symm⟩, c⟩)
        · exact .inl (.inr ⟨⟨q, h1, h2.symm⟩, c⟩)
  · rcases List.mem_cons.mp hp with rfl | hp
    · exact h.nz _ hf
    · simpa using (List.mem_filter.mp hp).2
  · rcases List.mem_append.mp hp with hp | hp
    · exact h.r0 p hp
    · simpa using (List.mem_filter.mp hp).2
  · rcases List.mem_append.mp hp with hp | hp
    · exact h.br p hp e he
    · obtain ⟨h1, h2⟩ := List.mem_filter.mp hp
      obtain ⟨q, hq, rfl⟩ := List.mem_map.mp h1
      exact st.2 q hq (by simpa using h2) e he
/-- a stair, made small at the foot of a row put behind it -/
theorem Stair.snoc {k : Nat} {f : Ve} (hf : Ft f k) : ∀ {l : List Ve}, Stair l → (∀ r ∈ l, ∃ j, j < k ∧ Ft r j) → ∀ (g : Ve → Ve), (∀ r ∈ l, ∃ c : Int, ∀ i, g r i = r i - c * f i) → (∀ r ∈ l, 0 ≤ g r k ∧ g r k < f k) → Stair (l.map g ++ [f]) := by
  intro l hl
  induction hl with
  | nil =>
    intro _ g _ _
    exact .cons hf (fun r hr => by cases hr) (fun r hr => by cases hr) .nil
  | @cons a t j hj hz hsm ht ih =>
    intro hlt g hg hk
    have f0 : ∀ i, i < k → f i = 0 := hf.1
    obtain ⟨j', hj'1, hj'2⟩ := hlt a (List.mem_cons_self ..)
    obtain rfl := hj.uniq hj'2
    have same : ∀ r ∈ a :: t, ∀ i, i < k → g r i = r i := fun r hr i hi => by
      obtain ⟨c, hc⟩ := hg r hr
      rw [hc, f0 i hi]
      simp
    have ih2 := ih (fun r hr => hlt r (List.mem_cons_of_mem _ hr)) g (fun r hr => hg r (List.mem_cons_of_mem _ hr)) (fun r hr => hk r (List.mem_cons_of_mem _ hr))
    show Stair (g a :: (t.map g ++ [f]))
    have ha := same a (List.mem_cons_self ..)
    refine .cons (k := j) ⟨fun i hi => ?_, ?_⟩ (fun r hr i hi => ?_) (fun r hr q hq => ?_) ih2
    · rw [ha i (by omega)]
      exact hj.1 i hi
    · rw [ha j hj'1]
      exact hj.2
    · rcases List.mem_append.mp hr with hr | hr
      · obtain ⟨r', h1, rfl⟩ := List.mem_map.mp hr
        rw [same r' (List.mem_cons_of_mem _ h1) i (by omega)]
        exact hz r' h1 i hi
      · rw [List.mem_singleton.mp hr]
        exact f0 i (by omega)
    · rcases List.mem_append.mp hr with hr' | hr'
      · obtain ⟨r', h1, rfl⟩ := List.mem_map.mp hr'
        obtain ⟨q', h2, h3⟩ := hlt r' (List.mem_cons_of_mem _ h1)
        have sm := same r' (List.mem_cons_of_mem _ h1)
        have hq' : Ft (g r') q' := ⟨fun i hi => by rw [sm i (by omega)]; exact h3.1 i hi, by rw [sm q' h2]; exact h3.2⟩
        obtain rfl := hq.uniq hq'
        rw [ha q h2, sm q h2]
        exact hsm r' h1 q h3
      · rw [List.mem_singleton.mp hr'] at hq ⊢
        obtain rfl := hq.uniq hf
        exact hk a (List.mem_cons_self ..)
/-- the rows done, the pairs left, ahead of column k -/
structure DI (rs : List (List Int)) (w n k b c : Nat) (T : Ve → Prop) (done left : List P2) : Prop where
  len : ∀ p ∈ done ++ left, p.1.length = w ∧ p.2.length = n
  mx : ∀ p ∈ done ++ left, ∀ i, vec p.1 i = dot p.2 rs i
  sp : ∀ x, Sl ((done ++ left).map fun p => vec p.1) x ↔ T x
  zl : ∀ p ∈ left, ∀ i, i < k → vec p.1 i = 0
  bl : Bd b left
  bd : Bd c done
  st : Stair (done.map fun p => vec p.1)
  ft : ∀ p ∈ done, ∃ j, j < k ∧ Ft (vec p.1) j
theorem DI.gs {rs : List (List Int)} {w n k b c : Nat} {T : Ve → Prop} {done left : List P2} (h : DI rs w n k b c T done left) : GS rs w n k (Sl (left.map fun p => vec p.1)) left where
  len := fun p hp => h.len p (List.mem_append_right _ hp)
  mx := fun p hp => h.mx p (List.mem_append_right _ hp)
  sp := fun x => Iff.rfl
  z := h.zl
theorem sl_app {a b b' : List Ve} (h : ∀ x, Sl b x ↔ Sl b' x) (x : Ve) : Sl (a ++ b) x ↔ Sl (a ++ b') x := by
  have key : ∀ b b' : List Ve, (∀ x, Sl b x ↔ Sl b' x) → ∀ x, Sl (a ++ b) x → Sl (a ++ b') x := fun b b' h x => Sp.le fun r hr => by
    rcases List.mem_append.mp hr with hr | hr
    · exact .of (List.mem_append_left _ hr)
    · exact Sp.mono (fun r hr => List.mem_append_right _ hr) ((h r).mp (.of hr))
  exact ⟨key b b' h x, key b' b (fun x => (h x).symm) x⟩
theorem DI.none {rs : List (List Int)} {w n k b c : Nat} {T : Ve → Prop} {done left rest : List P2} (h : DI rs w n k b c T done left) (g : GI rs w n k b (Sl (left.map fun p => vec p.1)) [] rest) : DI rs w n (k + 1) (up b) c T done rest where
  len := fun p hp => by
    rcases List.mem_append.mp hp with hp | hp
    · exact h.len p (List.mem_append_left _ hp)
    · exact g.gs.len p hp
  mx := fun p hp => by
    rcases List.mem_append.mp hp with hp | hp
    · exact h.mx p (List.mem_append_left _ hp)
    · exact g.gs.mx p hp
  sp := fun x => by
    rw [← h.sp x, List.map_append, List.map_append]
    exact sl_app (fun x => g.gs.sp x) x
  zl := fun p hp i hi => by
    rcases Nat.lt_or_ge i k with q | q
    · exact g.gs.z p hp i q
    · have : i = k := by omega
      rw [this]
      exact g.r0 p hp
  bl := g.bd
  bd := h.bd
  st := h.st
  ft := fun p hp => by
    obtain ⟨j, h1, h2⟩ := h.ft p hp
    exact ⟨j, by omega, h2⟩
/-- with a row for column k: f's number there is above 0 -/
theorem DI.some {rs : List (List Int)} {w n k b c : Nat} {T : Ve → Prop} {done left rest : List P2} {f0 f : P2} (h : DI rs w n k b c T done left) (g : GI rs w n k b (Sl (left.map fun p => vec p.1)) [f0] rest)
    (hf : f = f0 ∧ 0 < vt f0 k ∨ f = less f0 f0 2 ∧ vt f0 k < 0) : DI rs w n (k + 1) (up b) (c + up b + 1) T (done.map (lss k f) ++ [f]) rest := by
  have lf0 := g.gs.len f0 (List.mem_append_left _ (List.mem_singleton_self _))
  have mf0 := g.gs.mx f0 (List.mem_append_left _ (List.mem_singleton_self _))
  have zf0 := g.gs.z f0 (List.mem_append_left _ (List.mem_singleton_self _))
  have bf0 := g.bd f0 (List.mem_append_left _ (List.mem_singleton_self _))
  have key : (f.1.length = w ∧ f.2.length = n) ∧ (∀ i, vec f.1 i = dot f.2 rs i) ∧ (∀ i, i < k → vec f.1 i = 0) ∧ (∀ e, Ent f e → e.natAbs < 2 ^ up b) ∧ 0 < vt f k ∧ ∃ s : Int, (s = 1 ∨ s = -1) ∧ ∀ i, vec f.1 i = s * vec f0.1 i := by
    rcases hf with ⟨rfl, hp⟩ | ⟨rfl, hp⟩
    · exact ⟨lf0, mf0, zf0, bf0, hp, 1, .inl rfl, fun i => by omega⟩
    · have v : ∀ i, vec (less f0 f0 2).1 i = -1 * vec f0.1 i := fun i => by
        show vec (lsl f0.1 f0.1 2) i = _
        rw [vec_lsl rfl]
        omega
      refine ⟨⟨(len_lsl rfl).trans lf0.1, (len_lsl rfl).trans lf0.2⟩, fun i => ?_, fun i hi => by rw [v, zf0 i hi]; rfl, fun e he => ?_, by show 0 < vec (less f0 f0 2).1 k; rw [v]; have : vec f0.1 k < 0 := hp; omega, -1, .inr rfl, v⟩
      · show _ = dot (lsl f0.2 f0.2 2) rs i
        rw [v, dot_lsl rfl, mf0]
        omega
      · have neg : ∀ (l : List Int) (e : Int), e ∈ lsl l l 2 → ∃ x ∈ l, e = -x := by
          intro l
          induction l with
          | nil => intro e he; simp [lsl] at he
          | cons a l ih =>
            intro e he
            rcases List.mem_cons.mp (show e ∈ (a - 2 * a) :: lsl l l 2 from he) with rfl | he
            · exact ⟨a, List.mem_cons_self .., by omega⟩
            · obtain ⟨x, hx, e2⟩ := ih e he
              exact ⟨x, List.mem_cons_of_mem _ hx, e2⟩
        rcases he with he | he
        · obtain ⟨x, hx, rfl⟩ := neg _ _ he
          have := bf0 x (.inl hx)
          omega
        · obtain ⟨x, hx, rfl⟩ := neg _ _ he
          have := bf0 x (.inr hx)
          omega
  obtain ⟨lf, mf, zf, bf, pf, s, hs, vf⟩ := key
  have hft : Ft (vec f.1) k := ⟨zf, pf⟩
  have ld : ∀ p ∈ done, p.1.length = f.1.length ∧ p.2.length = f.2.length := fun p hp => by
    have := h.len p (List.mem_append_left _ hp)
    omega
  have vl : ∀ p ∈ done, ∀ i, vec (lss k f p).1 i = vec p.1 i - (vt p k).fdiv (vt f k) * vec f.1 i := fun p hp i => vec_lsl (ld p hp).1 i
  -- the span of f with rest is that of left
  have spf : ∀ x, Sl ((f :: rest).map fun p => vec p.1) x ↔ Sl (left.map fun p => vec p.1) x := fun x => by
    rw [← g.gs.sp x]
    constructor
    · refine Sp.le fun r hr => ?_
      rcases List.mem_cons.mp hr with rfl | hr
      · have : Sl (([f0] ++ rest).map fun p => vec p.1) (vec f0.1) := .of (List.mem_cons_self ..)
        exact (this.smul s).cong fun i => (vf i).symm
      · exact .of (List.mem_cons_of_mem _ hr)
    · refine Sp.le fun r hr => ?_
      rcases List.mem_cons.mp hr with rfl | hr
      · have : Sl ((f :: rest).map fun p => vec p.1) (vec f.1) := .of (List.mem_cons_self ..)
        exact (this.smul s).cong fun i => by
          show s * vec f.1 i = vec f0.1 i
          rw [vf]
          rcases hs with rfl | rfl <;> omega
      · exact .of (List.mem_cons_of_mem _ hr)
  refine ⟨fun p hp => ?_, fun p hp i => ?_, fun x => ?_, fun p hp i hi => ?_, fun p hp => g.bd p (List.mem_append_right _ hp), fun p hp e he => ?_, ?_, fun p hp => ?_⟩
  · rcases List.mem_append.mp hp with hp | hp
    · rcases List.mem_append.mp hp with hp | hp
      · obtain ⟨q, hq, rfl⟩ := List.mem_map.mp hp
        have := h.len q (List.mem_append_left _ hq)
        exact ⟨(len_lsl (ld q hq).1).trans this.1, (len_lsl (ld q hq).2).trans this.2⟩
      · rw [List.mem_singleton.mp hp]
        exact lf
    · exact g.gs.len p (List.mem_append_right _ hp)
  · rcases List.mem_append.mp hp with hp | hp
    · rcases List.mem_append.mp hp with hp | hp
      · obtain ⟨q, hq, rfl⟩ := List.mem_map.mp hp
        rw [vl q hq]
        show _ = dot (lsl q.2 f.2 _) rs i
        rw [dot_lsl (ld q hq).2, h.mx q (List.mem_append_left _ hq), mf]
      · rw [List.mem_singleton.mp hp]
        exact mf i
    · exact g.gs.mx p (List.mem_append_right _ hp) i
  · rw [← h.sp x]
    have e1 : Sl ((done ++ left).map fun p => vec p.1) x ↔ Sl ((done ++ (f :: rest)).map fun p => vec p.1) x := by
      rw [List.map_append, List.map_append]
      exact sl_app (fun x => (spf x).symm) x
    rw [e1]
    constructor
    · refine Sp.le fun r hr => ?_
      obtain ⟨p, hp, rfl⟩ := List.mem_map.mp hr
      have mem : ∀ p ∈ done ++ (f :: rest), Sl ((done ++ (f :: rest)).map fun p => vec p.1) (vec p.1) := fun p hp => .of (List.mem_map.mpr ⟨p, hp, rfl⟩)
      have memf := mem f (List.mem_append_right _ (List.mem_cons_self ..))
      rcases List.mem_append.mp hp with hp | hp
      · rcases List.mem_append.mp hp with hp | hp
        · obtain ⟨q, hq, rfl⟩ := List.mem_map.mp hp
          exact ((mem q (List.mem_append_left _ hq)).subm _ memf).cong fun i => (vl q hq i).symm
        · rw [List.mem_singleton.mp hp]
          exact memf
      · exact mem p (List.mem_append_right _ (List.mem_cons_of_mem _ hp))
    · refine Sp.le fun r hr => ?_
      obtain ⟨p, hp, rfl⟩ := List.mem_map.mp hr
      have mem : ∀ p ∈ done.map (lss k f) ++ [f] ++ rest, Sl ((done.map (lss k f) ++ [f] ++ rest).map fun p => vec p.1) (vec p.1) := fun p hp => .of (List.mem_map.mpr ⟨p, hp, rfl⟩)
      have memf := mem f (List.mem_append_left _ (List.mem_append_right _ (List.mem_singleton_self _)))
      rcases List.mem_append.mp hp with hp | hp
      · exact ((mem (lss k f p) (List.mem_append_left _ (List.mem_append_left _ (List.mem_map.mpr ⟨p, hp, rfl⟩)))).subm (-((vt p k).fdiv (vt f k))) memf).cong fun i => by
          show vec (lss k f p).1 i - -((vt p k).fdiv (vt f k)) * vec f.1 i = vec p.1 i
          rw [vl p hp, Int.neg_mul]
          omega
      · rcases List.mem_cons.mp hp with rfl | hp
        · exact memf
        · exact mem p (List.mem_append_right _ hp)
  · rcases Nat.lt_or_ge i k with q | q
    · exact g.gs.z p (List.mem_append_right _ hp) i q
    · have : i = k := by omega
      rw [this]
      exact g.r0 p hp
  · have pw : 2 ^ (c + up b + 1) = 2 * (2 ^ c * 2 ^ up b) := by
      rw [← Nat.pow_add, Nat.pow_succ]
      omega
    have c1 : 1 ≤ 2 ^ c := Nat.pow_pos (by decide)
    have c2 : 1 ≤ 2 ^ up b := Nat.pow_pos (by decide)
    rcases List.mem_append.mp hp with hp | hp
    · obtain ⟨q, hq, rfl⟩ := List.mem_map.mp hp
      obtain ⟨x, y, hx, hy, rfl⟩ := ent_less he
      have b1 := h.bd q hq x hx
      have b2 := bf y hy
      have b3 := abs_sub_mul x ((vt q k).fdiv (vt f k)) y
      have b4 : ((vt q k).fdiv (vt f k)).natAbs ≤ 2 ^ c := by
        have := fdiv_abs1 (v := vt q k) (f := vt f k) (by omega)
        have b5 : (vt q k).natAbs < 2 ^ c := by
          by_cases z : vt q k = 0
          · rw [z]
            exact c1
          · exact h.bd q hq _ (vt_ent z)
        omega
      have b6 : ((vt q k).fdiv (vt f k)).natAbs * y.natAbs ≤ 2 ^ c * (2 ^ up b - 1) := Nat.mul_le_mul b4 (by omega)
      have b7 : 2 ^ c * (2 ^ up b - 1) + 2 ^ c = 2 ^ c * 2 ^ up b := by
        rw [Nat.mul_sub, Nat.mul_one]
        have : 2 ^ c * 1 ≤ 2 ^ c * 2 ^ up b := Nat.mul_le_mul_left _ c2
        omega
      have b8 : 1 * 1 ≤ 2 ^ c * 2 ^ up b := Nat.mul_le_mul c1 c2
      omega
    · rw [List.mem_singleton.mp hp] at he
      have := bf e he
      have : 1 * 2 ^ up b ≤ 2 ^ c * 2 ^ up b := Nat.mul_le_mul_right _ c1
      omega
  · rw [List.map_append, List.map_map]
    have hg := Stair.snoc hft h.st (fun r hr => by
      obtain ⟨p, hp, rfl⟩ := List.mem_map.mp hr
      exact h.ft p hp) (fun r i => r i - (r k).fdiv (vt f k) * vec f.1 i) (fun r hr => ⟨(r k).fdiv (vt f k), fun i => rfl⟩) (fun r hr => by
      show 0 ≤ r k - (r k).fdiv (vt f k) * vt f k ∧ r k - (r k).fdiv (vt f k) * vt f k < vt f k
      rw [fdiv_fmod]
      exact (fmod_sgn (by omega)).1 pf)
    rw [List.map_map] at hg
    have e : (done.map ((fun p : P2 => vec p.1) ∘ lss k f)) = done.map ((fun (r : Ve) i => r i - (r k).fdiv (vt f k) * vec f.1 i) ∘ fun p => vec p.1) := List.map_congr_left fun p hp => funext fun i => vl p hp i
    rw [e]
    exact hg
  · rcases List.mem_append.mp hp with hp | hp
    · obtain ⟨q, hq, rfl⟩ := List.mem_map.mp hp
      obtain ⟨j, hj, hj2⟩ := h.ft q hq
      have sm : ∀ i, i < k → vec (lss k f q).1 i = vec q.1 i := fun i hi => by
        rw [vl q hq, zf i hi]
        simp
      exact ⟨j, by omega, fun i hi => by rw [sm i (by omega)]; exact hj2.1 i hi, by rw [sm j hj]; exact hj2.2⟩
    · rw [List.mem_singleton.mp hp]
      exact ⟨k, by omega, hft⟩
theorem Bd.mono {b c : Nat} {l : List P2} (h : Bd b l) (e : b ≤ c) : Bd c l := fun p hp x hx => Nat.lt_of_lt_of_le (h p hp x hx) (Nat.pow_le_pow_right (by decide) e)
end St
namespace St
/-! ### full stairs: a row for each column -/
theorem Stair.zero_le {a : Ve} {t : List Ve} {k : Nat} (hk : Ft a k) (hz : ∀ r ∈ t, ∀ i, i ≤ k → r i = 0) : ∀ r ∈ a :: t, ∀ i, i < k → r i = 0 := fun r hr i hi => by
  rcases List.mem_cons.mp hr with rfl | hr
  · exact hk.1 i hi
  · exact hz r hr i (by omega)
/-- a vector of the span has its first number at a foot, and is divided by it there -/
theorem Stair.first {l : List Ve} (h : Stair l) : ∀ {x : Ve} {k : Nat}, Sl l x → (∀ i, i < k → x i = 0) → x k ≠ 0 → ∃ r ∈ l, Ft r k ∧ r k ∣ x k := by
  induction h with
  | nil =>
    intro x k hx _ hk
    exact absurd (sl_nil.mp hx k) hk
  | @cons a t j hj hz hs ht ih =>
    intro x k hx h0 hk
    rcases Nat.lt_trichotomy j k with q | q | q
    · have : Sl t x := (Stair.rest hj hz).mpr ⟨hx, h0 j q⟩
      obtain ⟨r, hr, h1, h2⟩ := ih this h0 hk
      exact ⟨r, List.mem_cons_of_mem _ hr, h1, h2⟩
    · subst q
      exact ⟨a, List.mem_cons_self .., hj, ((Stair.red hj hz).mp hx).1⟩
    · exact absurd (Sp.at0 (fun r hr => Stair.zero_le hj hz r hr k q) hx) hk
/-- two vectors of the span alike up to a foot and small behind -/
theorem Stair.alike {l : List Ve} (h : Stair l) {x y : Ve} (hx : Sl l x) (hy : Sl l y) (hs : ∀ r ∈ l, ∀ k, Ft r k → x k = y k ∨ (0 ≤ x k ∧ x k < r k ∧ 0 ≤ y k ∧ y k < r k)) : ∀ i, x i = y i := fun i => by
  have h1 := h.small ((hx.subm 1 hy)) (fun r hr k hk => by
    have := hs r hr k hk
    have := hk.2
    constructor <;> omega) i
  have h2 : x i - 1 * y i = 0 := h1
  omega
theorem full_aux {w : Nat} : ∀ {l : List Ve} {c : Nat}, Stair l → c ≤ w → (∀ r ∈ l, ∀ i, i < c → r i = 0) → (∀ r ∈ l, ∀ k, Ft r k → k < w) → (∀ k, c ≤ k → k < w → ∃ r ∈ l, Ft r k) → l.length = w - c ∧ ∀ (i : Nat) (h : i < l.length), Ft l[i] (c + i)
  | [], c, _, hcw, _, _, hc => by
    rcases Nat.lt_or_ge c w with q | q
    · obtain ⟨r, hr, _⟩ := hc c (Nat.le_refl _) q
      cases hr
    · exact ⟨by simp; omega, fun i h => by simp at h⟩
  | a :: t, c, h, hcw, h0, hw, hc => by
    cases h with
    | @cons _ _ j hj hz hs ht =>
    have hjw := hw a (List.mem_cons_self ..) j hj
    have hcj : c ≤ j := by
      rcases Nat.lt_or_ge j c with q | q
      · have := h0 a (List.mem_cons_self ..) j q
        have := hj.2
        omega
      · exact q
    have ejc : j = c := by
      obtain ⟨r, hr, hr2⟩ := hc c (Nat.le_refl _) (by omega)
      rcases List.mem_cons.mp hr with rfl | hr
      · exact hj.uniq hr2
      · rcases Nat.lt_or_ge j c with q | q
        · omega
        · have := hz r hr c q
          have := hr2.2
          omega
    subst ejc
    obtain ⟨l1, l2⟩ := full_aux (c := j + 1) ht (by omega) (fun r hr i hi => hz r hr i (by omega)) (fun r hr => hw r (List.mem_cons_of_mem _ hr)) (fun k hk hkw => by
      obtain ⟨r, hr, hr2⟩ := hc k (by omega) hkw
      rcases List.mem_cons.mp hr with rfl | hr
      · have := hj.uniq hr2
        omega
      · exact ⟨r, hr, hr2⟩)
    refine ⟨by simp [l1]; omega, fun i hi => ?_⟩
    cases i with
    | zero => exact hj
    | succ i =>
      have := l2 i (by simpa using hi)
      have e : j + (i + 1) = j + 1 + i := by omega
      rw [e]
      exact this
/-- the row of a round -/
def rnd (h : List Nat) (k : Nat) : List Int := (List.range h.length).map fun i => if i = k then ((h.getD k 0 : Nat) : Int) else 0
theorem rnd_len (h : List Nat) (k : Nat) : (rnd h k).length = h.length := by simp [rnd]
theorem vec_rnd (h : List Nat) (k i : Nat) : vec (rnd h k) i = if i = k ∧ k < h.length then ((h.getD k 0 : Nat) : Int) else 0 := by
  rcases Nat.lt_or_ge i h.length with q | q
  · rw [vec_get (by rw [rnd_len]; exact q)]
    simp [rnd]
    by_cases e : i = k
    · subst e
      simp [q]
    · simp [e]
  · rw [vec_out (by rw [rnd_len]; exact q), if_neg (by omega)]
/-- S is the full stair of the house h -/
structure Full (h : List Nat) (S : List (List Int)) : Prop where
  len : ∀ r ∈ S, r.length = h.length
  st : Stair (S.map vec)
  rd : ∀ k, k < h.length → Sl (S.map vec) (vec (rnd h k))
theorem Full.feet {h : List Nat} {S : List (List Int)} (F : Full h S) (hp : ∀ n ∈ h, 1 ≤ n) : S.length = h.length ∧ ∀ k, k < h.length → Ft (vec (S.getD k [])) k := by
  have cov : ∀ k, k < h.length → ∃ r ∈ S.map vec, Ft r k := fun k hk => by
    have hk1 : 1 ≤ h.getD k 0 := hp _ (by
      rw [List.getD_eq_getElem?_getD, List.getElem?_eq_getElem hk]
      exact List.getElem_mem hk)
    obtain ⟨r, hr, h1, _⟩ := F.st.first (F.rd k hk) (k := k) (fun i hi => by rw [vec_rnd, if_neg (by omega)]) (by rw [vec_rnd, if_pos ⟨rfl, hk⟩]; omega)
    exact ⟨r, hr, h1⟩
  have ltw : ∀ r ∈ S.map vec, ∀ k, Ft r k → k < h.length := fun r hr k hk => by
    obtain ⟨q, hq, rfl⟩ := List.mem_map.mp hr
    rcases Nat.lt_or_ge k h.length with c | c
    · exact c
    · have := hk.2
      rw [vec_out (by rw [F.len q hq]; exact c)] at this
      omega
  obtain ⟨l1, l2⟩ := full_aux (c := 0) F.st (Nat.zero_le _) (fun r hr i hi => by omega) ltw (fun k _ hk => cov k hk)
  have l1' : S.length = h.length := by simpa using l1
  refine ⟨l1', fun k hk => ?_⟩
  have := l2 k (by simpa using (show k < S.length by omega))
  rw [List.getElem_map] at this
  rw [List.getD_eq_getElem?_getD, List.getElem?_eq_getElem (by omega)]
  simpa using this
/-- the foot at k -/
def foot (S : List (List Int)) (k : Nat) : Int := vec (S.getD k []) k
theorem mem_getD {S : List (List Int)} {k : Nat} (h : k < S.length) : S.getD k [] ∈ S := by
  rw [List.getD_eq_getElem?_getD, List.getElem?_eq_getElem h]
  exact List.getElem_mem h
theorem Full.sl {h : List Nat} {S : List (List Int)} (F : Full h S) (hp : ∀ n ∈ h, 1 ≤ n) {k : Nat} (hk : k < h.length) : Sl (S.map vec) (vec (S.getD k [])) := .of (List.mem_map.mpr ⟨_, mem_getD (by have := (F.feet hp).1; omega), rfl⟩)
/-- a row above a foot -/
theorem Full.above {h : List Nat} {S : List (List Int)} (F : Full h S) (hp : ∀ n ∈ h, 1 ≤ n) {j k : Nat} (hjk : j < k) (hk : k < h.length) : 0 ≤ vec (S.getD j []) k ∧ vec (S.getD j []) k < foot S k := by
  obtain ⟨l1, l2⟩ := F.feet hp
  have key : ∀ {l : List Ve}, Stair l → ∀ (i m : Nat) (hi : i < m) (hm : m < l.length) (q : Nat), Ft l[m] q → 0 ≤ l[i] q ∧ l[i] q < l[m] q := by
    intro l hl
    induction hl with
    | nil => intro i m hi hm; simp at hm
    | @cons a t c hc hz hs ht ih =>
      intro i m hi hm q hq
      cases m with
      | zero => omega
      | succ m =>
        cases i with
        | zero => exact hs _ (List.getElem_mem _) q hq
        | succ i => exact ih i m (by omega) (by simpa using hm) q hq
  have e : ∀ i, (hi : i < S.length) → S.getD i [] = S[i] := fun i hi => by rw [List.getD_eq_getElem?_getD, List.getElem?_eq_getElem hi]; rfl
  have hk2 := l2 k hk
  have := key F.st j k hjk (by simpa using (show k < S.length by omega)) k (by rw [e k (by omega)] at hk2; simpa using hk2)
  unfold foot
  rw [e j (by omega), e k (by omega)]
  simpa using this
/-- what is alike a row is the row -/
theorem Full.row {h : List Nat} {S : List (List Int)} (F : Full h S) (hp : ∀ n ∈ h, 1 ≤ n) {k : Nat} (hk : k < h.length) {x : Ve} (hx : Sl (S.map vec) x) (h0 : ∀ i, i < k → x i = 0) (hk2 : x k = foot S k) (hb : ∀ j, k < j → j < h.length → 0 ≤ x j ∧ x j < foot S j) : ∀ i, x i = vec (S.getD k []) i := by
  obtain ⟨l1, l2⟩ := F.feet hp
  refine F.st.alike hx (F.sl hp hk) fun r hr q hq => ?_
  obtain ⟨p, hpp, rfl⟩ := List.mem_map.mp hr
  obtain ⟨i, hi, e⟩ := List.mem_iff_getElem.mp hpp
  have e2 : S.getD i [] = p := by rw [List.getD_eq_getElem?_getD, List.getElem?_eq_getElem hi]; exact e
  have hf := l2 i (by omega)
  rw [e2] at hf
  obtain rfl := hf.uniq hq
  rcases Nat.lt_trichotomy i k with c | c | c
  · left
    rw [h0 i c, (l2 k hk).1 i c]
  · left
    subst c
    exact hk2
  · right
    have h1 := hb i c (by omega)
    have h2 := F.above hp c (by omega)
    have h3 : foot S i = vec p i := by unfold foot; rw [e2]
    rw [h3] at h1 h2
    exact ⟨h1.1, h1.2, h2.1, h2.2⟩
end St
namespace St
/-! ### things of a house, counted; what some things come to -/
/-- a thing of a house -/
def Th (h : List Nat) (a : List Int) : Prop := a.length = h.length ∧ ∀ k, k < h.length → 0 ≤ vec a k ∧ vec a k < ((h.getD k 0 : Nat) : Int)
theorem Th.cons {n : Nat} {h : List Nat} {x : Int} {a : List Int} : Th (n :: h) (x :: a) ↔ (0 ≤ x ∧ x < n) ∧ Th h a := by
  constructor
  · rintro ⟨h1, h2⟩
    refine ⟨h2 0 (by simp), by simpa using h1, fun k hk => h2 (k + 1) (by simpa using hk)⟩
  · rintro ⟨h1, h2, h3⟩
    refine ⟨by simp [h2], fun k hk => ?_⟩
    cases k with
    | zero => exact h1
    | succ k => exact h3 k (by simpa using hk)
end St
/-! ### sums of any kind (finite), parts of them, and how a form is found (plain) -/
namespace Gn
structure Ab (α : Type) where
  f : α → α → α
  z : α
  n : α → α
  zl : ∀ a, f z a = a
  cm : ∀ a b, f a b = f b a
  as : ∀ a b c, f (f a b) c = f a (f b c)
  nl : ∀ a, f (n a) a = z
variable {α : Type} (A : Ab α)
def Ab.s : Nat → α → α
  | 0, _ => A.z
  | k + 1, a => A.f (Ab.s k a) a
variable {A}
theorem Ab.zr (a : α) : A.f a A.z = a := by rw [A.cm, A.zl]
theorem Ab.nr (a : α) : A.f a (A.n a) = A.z := by rw [A.cm, A.nl]
theorem Ab.lc {a b c : α} (h : A.f a b = A.f a c) : b = c := by
  have := congrArg (A.f (A.n a)) h
  rwa [← A.as, ← A.as, A.nl, A.zl, A.zl] at this
theorem Ab.rc {a b c : α} (h : A.f b a = A.f c a) : b = c := by
  rw [A.cm b a, A.cm c a] at h
  exact A.lc h
theorem Ab.ac4 (a b c d : α) : A.f (A.f a b) (A.f c d) = A.f (A.f a c) (A.f b d) := by
  rw [A.as, ← A.as b c d, A.cm b c, A.as c b d, ← A.as]
theorem Ab.s_add (a : α) (m : Nat) : ∀ k, A.s (m + k) a = A.f (A.s m a) (A.s k a)
  | 0 => (A.zr _).symm
  | k + 1 => by
    show A.f (A.s (m + k) a) a = A.f (A.s m a) (A.f (A.s k a) a)
    rw [Ab.s_add a m k, A.as]
theorem Ab.s_f (a b : α) : ∀ m, A.s m (A.f a b) = A.f (A.s m a) (A.s m b)
  | 0 => (A.zl _).symm
  | m + 1 => by
    show A.f (A.s m (A.f a b)) (A.f a b) = A.f (A.f (A.s m a) a) (A.f (A.s m b) b)
    rw [Ab.s_f a b m, A.ac4]
theorem Ab.s_z : ∀ m, A.s m A.z = A.z
  | 0 => rfl
  | m + 1 => by
    show A.f (A.s m A.z) A.z = _
    rw [Ab.s_z m, A.zl]
theorem Ab.s_mul (a : α) (k : Nat) : ∀ m, A.s (m * k) a = A.s m (A.s k a)
  | 0 => by rw [Nat.zero_mul]; rfl
  | m + 1 => by
    rw [Nat.add_mul, Nat.one_mul, Ab.s_add, Ab.s_mul a k m]
    rfl
theorem Ab.s_n (a : α) (m : Nat) : A.s m (A.n a) = A.n (A.s m a) := by
  refine A.rc (a := A.s m a) ?_
  rw [← A.s_f, A.nl, A.nl, A.s_z]
structure Sb (A : Ab α) (S : α → Prop) : Prop where
  z : S A.z
  f : ∀ a b, S a → S b → S (A.f a b)
  n : ∀ a, S a → S (A.n a)
variable {S : α → Prop}
theorem Sb.s (H : Sb A S) {a : α} (h : S a) : ∀ m, S (A.s m a)
  | 0 => H.z
  | m + 1 => H.f _ _ (H.s h m) h
theorem Sb.sub (H : Sb A S) {a b : α} (h : S (A.f a b)) (ha : S a) : S b := by
  have := H.f _ _ (H.n a ha) h
  rwa [← A.as, A.nl, A.zl] at this
/-- the outer turn -/
structure Ot (A : Ab α) (S : α → Prop) (a : α) (m : Nat) : Prop where
  p : 1 ≤ m
  i : S (A.s m a)
  l : ∀ k, 1 ≤ k → k < m → ¬ S (A.s k a)
theorem Ot.dvd (H : Sb A S) {a : α} {m : Nat} (h : Ot A S a m) (k : Nat) : S (A.s k a) ↔ m ∣ k := by
  constructor
  · intro hk
    have e := Nat.div_add_mod k m
    rw [← e, A.s_add, Nat.mul_comm, A.s_mul] at hk
    have h2 := H.sub hk (H.s h.i _)
    have hlt : k % m < m := Nat.mod_lt _ h.p
    by_cases h0 : k % m = 0
    · exact Nat.dvd_of_mod_eq_zero h0
    · exact absurd h2 (h.l _ (by omega) hlt)
  · rintro ⟨c, rfl⟩
    rw [Nat.mul_comm, A.s_mul]
    exact H.s h.i _
/-! ### the greatest outer turn -/
/-! ### names -/
def Thr : List Nat → List Nat → Prop
  | [], [] => True
  | r :: R, x :: X => x < r ∧ Thr R X
  | _, _ => False
def ads : List Nat → List Nat → List Nat → List Nat
  | r :: R, x :: X, y :: Y => (x + y) % r :: ads R X Y
  | _, _, _ => []
def keys (kv : List (α × List Nat)) : α → Prop := fun a => ∃ x, (a, x) ∈ kv
structure Nm (A : Ab α) (R : List Nat) (kv : List (α × List Nat)) : Prop where
  nd : (kv.map (·.1)).Nodup
  nd2 : (kv.map (·.2)).Nodup
  th : ∀ x, (∃ a, (a, x) ∈ kv) ↔ Thr R x
  z : (A.z, R.map fun _ => 0) ∈ kv
  ad : ∀ a x b y, (a, x) ∈ kv → (b, y) ∈ kv → (A.f a b, ads R x y) ∈ kv
  ng : ∀ a, keys kv a → keys kv (A.n a)
  r2 : ∀ r ∈ R, 2 ≤ r
  dv : R.Pairwise (· ∣ ·)
  ex : ∀ r, R.head? = some r → ∀ a, keys kv (A.s r a)
  pu : ∀ m, (∀ r ∈ R, m ∣ r) → ∀ a, keys kv (A.s m a) → ∃ b, keys kv b ∧ A.s m b = A.s m a
theorem Nm.sb {R : List Nat} {kv : List (α × List Nat)} (H : Nm A R kv) : Sb A (keys kv) :=
  ⟨⟨_, H.z⟩, fun a b ⟨x, hx⟩ ⟨y, hy⟩ => ⟨_, H.ad a x b y hx hy⟩, H.ng⟩
def grow (A : Ab α) (g : α) (N : Nat) (kv : List (α × List Nat)) : List (α × List Nat) := kv.flatMap fun p => (List.range N).map fun o => (A.f p.1 (A.s o g), o :: p.2)
theorem grow_mem {g : α} {N : Nat} {kv : List (α × List Nat)} {a : α} {x : List Nat} : (a, x) ∈ grow A g N kv ↔ ∃ s y o, (s, y) ∈ kv ∧ o < N ∧ a = A.f s (A.s o g) ∧ x = o :: y := by
  unfold grow
  rw [List.mem_flatMap]
  constructor
  · rintro ⟨⟨s, y⟩, h1, h2⟩
    obtain ⟨o, h3, h4⟩ := List.mem_map.mp h2
    injection h4 with h5 h6
    exact ⟨s, y, o, h1, List.mem_range.mp h3, h5.symm, h6.symm⟩
  · rintro ⟨s, y, o, h1, h2, rfl, rfl⟩
    exact ⟨(s, y), h1, List.mem_map.mpr ⟨o, List.mem_range.mpr h2, rfl⟩⟩
theorem pw_flat {β γ : Type} {P : γ → γ → Prop} (f : β → List γ) : ∀ (l : List β), (∀ x ∈ l, (f x).Pairwise P) → l.Pairwise (fun x y => ∀ u ∈ f x, ∀ v ∈ f y, P u v) → (l.flatMap f).Pairwise P
  | [], _, _ => List.Pairwise.nil
  | x :: l, h1, h2 => by
    rw [List.flatMap_cons, List.pairwise_append]
    rw [List.pairwise_cons] at h2
    refine ⟨h1 x (List.mem_cons_self ..), pw_flat f l (fun y hy => h1 y (List.mem_cons_of_mem _ hy)) h2.2, fun u hu v hv => ?_⟩
    obtain ⟨y, hy, hv⟩ := List.mem_flatMap.mp hv
    exact h2.1 y hy u hu v hv
theorem Nm.step {R : List Nat} {kv : List (α × List Nat)} (H : Nm A R kv) {g : α} {N : Nat} (hN : 2 ≤ N) (hg : Ot A (keys kv) g N) (h0 : A.s N g = A.z) (hex : ∀ a, keys kv (A.s N a)) (hd : ∀ r ∈ R, N ∣ r) : Nm A (N :: R) (grow A g N kv) := by
  have sb := H.sb
  -- o g in the part only if N divides o
  have ind : ∀ {s t : α} {o p : Nat}, keys kv s → keys kv t → o < N → p < N → A.f s (A.s o g) = A.f t (A.s p g) → o = p ∧ s = t := fun {s t o p} hs ht ho hp e => by
    have main : ∀ {s t : α} {o p : Nat}, keys kv s → keys kv t → o ≤ p → p < N → A.f s (A.s o g) = A.f t (A.s p g) → o = p := fun {s t o p} hs ht hop hp e => by
      have e2 : p = (p - o) + o := by omega
      rw [e2, A.s_add, ← A.as] at e
      have e3 := A.rc e
      have h2 : keys kv (A.s (p - o) g) := by
        refine sb.sub (a := t) ?_ ht
        rw [← e3]
        exact hs
      have := (hg.dvd sb _).mp h2
      have := Nat.eq_zero_of_dvd_of_lt this (by omega)
      omega
    have eo : o = p := by
      rcases Nat.le_total o p with h | h
      · exact main hs ht h hp e
      · exact (main ht hs h ho e.symm).symm
    subst eo
    exact ⟨rfl, A.rc e⟩
  have smod : ∀ o, A.s o g = A.s (o % N) g := fun o => by
    conv => lhs; rw [← Nat.div_add_mod o N, A.s_add, Nat.mul_comm, A.s_mul, h0, A.s_z, A.zl]
  have nds : kv.Pairwise (fun p q => p.1 ≠ q.1) := List.pairwise_map.mp H.nd
  have nds2 : kv.Pairwise (fun p q => p.2 ≠ q.2) := List.pairwise_map.mp H.nd2
  have kk : ∀ {a : α}, keys (grow A g N kv) a ↔ ∃ s o, keys kv s ∧ o < N ∧ a = A.f s (A.s o g) := fun {a} => by
    constructor
    · rintro ⟨x, hx⟩
      obtain ⟨s, y, o, h1, h2, h3, _⟩ := grow_mem.mp hx
      exact ⟨s, o, ⟨y, h1⟩, h2, h3⟩
    · rintro ⟨s, o, ⟨y, h1⟩, h2, h3⟩
      exact ⟨_, grow_mem.mpr ⟨s, y, o, h1, h2, h3, rfl⟩⟩
  have up : ∀ {a : α}, keys kv a → keys (grow A g N kv) a := fun {a} h => kk.mpr ⟨a, 0, h, by omega, by show a = A.f a A.z; rw [A.zr]⟩
  have gin : ∀ o, keys (grow A g N kv) (A.s o g) := fun o => kk.mpr ⟨A.z, o % N, sb.z, Nat.mod_lt _ (by omega), by rw [A.zl, ← smod]⟩
  refine ⟨?_, ?_, fun x => ?_, ?_, fun a x b y h1 h2 => ?_, fun a h => ?_, fun r hr => ?_, ?_, fun r hr a => ?_, fun m hm a ha => ?_⟩
  · rw [List.nodup_iff_pairwise_ne, List.pairwise_map]
    refine pw_flat _ kv (fun p hp => ?_) (List.Pairwise.imp_of_mem (fun {p q} hp hq hpq u hu v hv e => ?_) nds)
    · rw [List.pairwise_map]
      refine List.Pairwise.imp_of_mem (fun {i j} hi hj hij e => ?_) List.pairwise_lt_range
      rw [List.mem_range] at hi hj
      have := (ind ⟨p.2, hp⟩ ⟨p.2, hp⟩ hi hj e).1
      omega
    · obtain ⟨i, hi, rfl⟩ := List.mem_map.mp hu
      obtain ⟨j, hj, rfl⟩ := List.mem_map.mp hv
      rw [List.mem_range] at hi hj
      exact hpq (ind ⟨p.2, hp⟩ ⟨q.2, hq⟩ hi hj e).2
  · rw [List.nodup_iff_pairwise_ne, List.pairwise_map]
    refine pw_flat _ kv (fun p hp => ?_) (List.Pairwise.imp_of_mem (fun {p q} hp hq hpq u hu v hv e => ?_) nds2)
    · rw [List.pairwise_map]
      refine List.Pairwise.imp (fun {i j} hij e => ?_) List.pairwise_lt_range
      injection e with e _
      omega
    · obtain ⟨i, hi, rfl⟩ := List.mem_map.mp hu
      obtain ⟨j, hj, rfl⟩ := List.mem_map.mp hv
      injection e with _ e
      exact hpq e
  · constructor
    · rintro ⟨a, h⟩
      obtain ⟨s, y, o, h1, h2, _, rfl⟩ := grow_mem.mp h
      exact ⟨h2, (H.th y).mp ⟨s, h1⟩⟩
    · intro h
      cases x with
      | nil => exact h.elim
      | cons o y =>
        obtain ⟨s, hs⟩ := (H.th y).mpr h.2
        exact ⟨_, grow_mem.mpr ⟨s, y, o, hs, h.1, rfl, rfl⟩⟩
  · refine grow_mem.mpr ⟨A.z, _, 0, H.z, by omega, ?_, rfl⟩
    show A.z = A.f A.z A.z
    rw [A.zl]
  · obtain ⟨s, u, o, g1, g2, rfl, rfl⟩ := grow_mem.mp h1
    obtain ⟨t, v, p, k1, k2, rfl, rfl⟩ := grow_mem.mp h2
    refine grow_mem.mpr ⟨A.f s t, ads R u v, (o + p) % N, H.ad s u t v g1 k1, Nat.mod_lt _ (by omega), ?_, rfl⟩
    rw [A.ac4, ← A.s_add, smod]
  · obtain ⟨s, o, hs, ho, rfl⟩ := kk.mp h
    have e : A.n (A.f s (A.s o g)) = A.f (A.n s) (A.s (N - o) g) := by
      refine A.rc (a := A.f s (A.s o g)) ?_
      rw [A.nl, A.ac4, A.nl, ← A.s_add, A.zl]
      have : N - o + o = N := by omega
      rw [this, h0]
    rw [e]
    exact kk.mpr ⟨A.n s, (N - o) % N, sb.n s hs, Nat.mod_lt _ (by omega), by rw [← smod]⟩
  · rcases List.mem_cons.mp hr with rfl | hr
    · exact hN
    · exact H.r2 r hr
  · exact List.pairwise_cons.mpr ⟨hd, H.dv⟩
  · cases hr
    exact up (hex a)
  · have hmN : m ∣ N := hm N (List.mem_cons_self ..)
    obtain ⟨q, hq⟩ := hmN
    obtain ⟨s, c, hs, hc, e⟩ := kk.mp ha
    -- (N / m) c g is in the part
    have h1 : keys kv (A.s (q * c) g) := by
      have h2 : keys kv (A.s N a) := hex a
      rw [hq, Nat.mul_comm, A.s_mul, e, A.s_f, ← A.s_mul] at h2
      exact sb.sub h2 (sb.s hs _)
    have h2 := (hg.dvd sb _).mp h1
    have q0 : 0 < q := by
      rcases Nat.eq_zero_or_pos q with h | h
      · rw [h, Nat.mul_zero] at hq
        omega
      · exact h
    have h3 : m ∣ c := by
      rw [hq, Nat.mul_comm m q] at h2
      exact Nat.dvd_of_mul_dvd_mul_left q0 h2
    obtain ⟨d, rfl⟩ := h3
    -- a less d g
    have h4 : A.s m (A.f a (A.n (A.s d g))) = s := by
      rw [A.s_f, A.s_n, e, A.s_mul, A.as, A.nr, A.zr]
    obtain ⟨b, hb, eb⟩ := H.pu m (fun r hr => hm r (List.mem_cons_of_mem _ hr)) (A.f a (A.n (A.s d g))) (by rw [h4]; exact hs)
    refine ⟨A.f b (A.s d g), (Sb.f (S := keys (grow A g N kv)) ⟨up sb.z, fun u v hu hv => ?_, fun u hu => ?_⟩ _ _ (up hb) (gin d)), ?_⟩
    · obtain ⟨s1, o1, g1, g2, rfl⟩ := kk.mp hu
      obtain ⟨s2, o2, k1, k2, rfl⟩ := kk.mp hv
      exact kk.mpr ⟨A.f s1 s2, (o1 + o2) % N, sb.f _ _ g1 k1, Nat.mod_lt _ (by omega), by rw [A.ac4, ← A.s_add, smod]⟩
    · obtain ⟨s1, o1, g1, g2, rfl⟩ := kk.mp hu
      refine kk.mpr ⟨A.n s1, (N - o1) % N, sb.n s1 g1, Nat.mod_lt _ (by omega), ?_⟩
      refine A.rc (a := A.f s1 (A.s o1 g)) ?_
      rw [A.nl, A.ac4, A.nl, ← smod, ← A.s_add, A.zl]
      have : N - o1 + o1 = N := by omega
      rw [this, h0]
    · rw [A.s_f, eb, h4, ← A.s_mul, e]
end Gn
namespace K33
open PySem PySem.Spec PyProof.Rows L2 Pu
abbrev ln : List Str := []
instance : TabT := ⟨tabsN ln⟩
def topS (i : Nat) : Stmt := PySem.Challenge.pw_commonhouse_k33_whole_ways_are_a_house.main.body.getD i (.Pass ⟨0, 0, 0, 0⟩)
abbrev FnP (K : PySem.W.Frag) (x : Str) (st : Stmt) (f : Addr) (fd : FuncData) : Prop := FunD K x x (defArgs st) (defBody st) (defScope st) [] [] f fd
structure Bz (K : PySem.W.Frag) (w : World) (mg : Str → Option Value) : Prop where
  b_isinstance : mg "isinstance" = none
  b_int : mg "int" = none
  b_bool : mg "bool" = none
  b_abs : mg "abs" = none
  b_enumerate : mg "enumerate" = none
  b_tuple : mg "tuple" = none
  b_len : mg "len" = none
  b_all : mg "all" = none
  b_range : mg "range" = none
  b_sum : mg "sum" = none
  b_set : mg "set" = none
  b_zip : mg "zip" = none
  g_MOST_ROUNDS : ∃ t, mg "MOST_ROUNDS" = some (.int 6 t)
  g_MOST_WAYS : ∃ t, mg "MOST_WAYS" = some (.int 520 t)
section
variable {P : Program} {w : World} {K : PySem.W.Frag} {mg : Str → Option Value} {base : Heap}
abbrev s_is_whole : Stmt := topS 6
abbrev N_is_whole : List Str := ["thing"]
theorem sc_is_whole : FnScope N_is_whole ["thing"] (defScope s_is_whole) := ⟨rfl, rfl, rfl, by decide +kernel, rfl, by decide +kernel, by decide +kernel⟩
noncomputable def b_is_whole : M Fl := (sRet ((eAnd (una (isiD "int") (getS 0)) (eNot (una (isiD "bool") (getS 0)))).bind fun d => M.ret (.v d)))
noncomputable def m_is_whole : List Sl → Re RV := fnOf 1 b_is_whole
theorem ok_is_whole {f : Addr} {fd : FuncData} (Fu : FnP K "is_whole" s_is_whole f fd) (B : Bz K w mg) (NS : SeerK P base) : FnG P w K mg base 1 f fd ["thing"] (spG K mg 1 m_is_whole) :=
  mk_fn Fu sc_is_whole fun cdv A outer s H E hr =>
  (ss_one (s_ret (o_val (e_and (e_isi (T := "int") (e_var 0) B.b_isinstance B.b_int) (e_one (e_not (e_isi (T := "bool") (e_var 0) B.b_isinstance B.b_bool)))))))
abbrev s_common_measure : Stmt := topS 7
abbrev N_common_measure : List Str := ["a", "b", "one", "other"]
theorem sc_common_measure : FnScope N_common_measure ["a", "b"] (defScope s_common_measure) := ⟨rfl, rfl, rfl, by decide +kernel, rfl, by decide +kernel, by decide +kernel⟩
noncomputable def b_common_measure : M Fl := (sSeq (sSet 2 (nry (one absD) (aCons (getS 0) aNil)))
  (sSeq (sSet 3 (nry (one absD) (aCons (getS 1) aNil)))
  (sSeq (sWhile (tBool (bin gtD (getS 3) (M.ret (.int 0))))
  (sPar 2 3 (aCons (getS 3) (aCons (bin modD (getS 2) (getS 3)) aNil))))
  (sRet ((getS 2).bind fun d => M.ret (.v d))))))
noncomputable def m_common_measure : List Sl → Re RV := fnOf 4 b_common_measure
theorem ok_common_measure {f : Addr} {fd : FuncData} (Fu : FnP K "common_measure" s_common_measure f fd) (B : Bz K w mg) (NS : SeerK P base) : FnG P w K mg base 1 f fd ["a", "b"] (spG K mg 2 m_common_measure) :=
  mk_fn Fu sc_common_measure fun cdv A outer s H E hr =>
  (ss_cons (s_set (i := 2) (e_callB abs_data B.b_abs (a_cons (e_var 0) a_nil)) sc_common_measure.nd)
  (ss_cons (s_set (i := 3) (e_callB abs_data B.b_abs (a_cons (e_var 1) a_nil)) sc_common_measure.nd)
  (ss_cons (s_while (t_cmp gt_data (e_var 3) e_int)
  (ss_one (s_par (i := 2) (j := 3) (a_cons (e_var 3) (a_cons (e_op mod_data (e_var 2) (e_var 3)) a_nil)) sc_common_measure.nd)) (passes_of rfl))
  (ss_one (s_ret (o_val (e_var 2)))))))
abbrev s_by_rounds : Stmt := topS 13
abbrev N_by_rounds : List Str := ["house", "numbers", "at", "number"]
theorem sc_by_rounds : FnScope N_by_rounds ["house", "numbers"] (defScope s_by_rounds) := ⟨rfl, rfl, rfl, by decide +kernel, rfl, by decide +kernel, by decide +kernel⟩
noncomputable def b_by_rounds : M Fl := (sRet ((nry (one tupD) (aCons (frzM (oComp (iBy enOf (aCons (getS 1) aNil)) [2, 3] (gT (gCn (gN 2) (gCn (gN 3) gNl))) yes (bin modD (getS 3) (bin ixD (getS 0) (getS 2))))) aNil)).bind fun d => M.ret (.v d)))
noncomputable def m_by_rounds : List Sl → Re RV := fnOf 4 b_by_rounds
theorem ok_by_rounds {f : Addr} {fd : FuncData} (Fu : FnP K "by_rounds" s_by_rounds f fd) (B : Bz K w mg) (NS : SeerK P base) : FnG P w K mg base 1 f fd ["house", "numbers"] (spG K mg 2 m_by_rounds) :=
  mk_fn Fu sc_by_rounds fun cdv A outer s H E hr =>
  (ss_one (s_ret (o_val (e_callT tup_data B.b_tuple (a_cons (e_val (o_lc (own := [("at", 2), ("number", 3)]) (i_enum (a_cons (e_var 1) a_nil) B.b_enumerate) (blkOk_by (show blkC N_by_rounds (defScope s_by_rounds) _ [("at", 2), ("number", 3)] = true from by decide +kernel)) (fun _ _ _ _ _ => (g_tup (g_cons (g_name 2 sc_by_rounds.nd) (g_cons (g_name 3 sc_by_rounds.nd) g_nil)) (gCn_len (gCn_len gNl_len)))) (fun _ _ _ _ _ => ts_nil) (fun _ _ _ _ _ => (e_op mod_data (e_var 3) (e_ix ix_data (e_var 0) (e_var 2)))) sc_by_rounds.nd)) a_nil)))))
abbrev s_nought : Stmt := topS 14
abbrev N_nought : List Str := ["house", "one"]
theorem sc_nought : FnScope N_nought ["house"] (defScope s_nought) := ⟨rfl, rfl, rfl, by decide +kernel, rfl, by decide +kernel, by decide +kernel⟩
noncomputable def b_nought : M Fl := (sRet ((nry (one tupD) (aCons (frzM (oComp (iSeq (getS 0)) [1] (gN 1) yes (M.ret (.int 0)))) aNil)).bind fun d => M.ret (.v d)))
noncomputable def m_nought : List Sl → Re RV := fnOf 2 b_nought
theorem ok_nought {f : Addr} {fd : FuncData} (Fu : FnP K "nought" s_nought f fd) (B : Bz K w mg) (NS : SeerK P base) : FnG P w K mg base 1 f fd ["house"] (spG K mg 1 m_nought) :=
  mk_fn Fu sc_nought fun cdv A outer s H E hr =>
  (ss_one (s_ret (o_val (e_callT tup_data B.b_tuple (a_cons (e_val (o_lc (own := [("one", 1)]) (i_seq (e_var 0)) (blkOk_by (show blkC N_nought (defScope s_nought) _ [("one", 1)] = true from by decide +kernel)) (fun _ _ _ _ _ => (g_name 1 sc_nought.nd)) (fun _ _ _ _ _ => ts_nil) (fun _ _ _ _ _ => e_int) sc_nought.nd)) a_nil)))))
abbrev s_need_alike : Stmt := topS 34
abbrev N_need_alike : List Str := ["first", "second"]
theorem sc_need_alike : FnScope N_need_alike ["first", "second"] (defScope s_need_alike) := ⟨rfl, rfl, rfl, by decide +kernel, rfl, by decide +kernel, by decide +kernel⟩
noncomputable def b_need_alike : M Fl := (sIf (tBool (bin neD (eSl (getS 0) pNone (pSome (M.ret (.int 2)))) (eSl (getS 1) pNone (pSome (M.ret (.int 2))))))
  sNever
  sNil)
noncomputable def m_need_alike : List Sl → Re RV := fnOf 2 b_need_alike
theorem ok_need_alike {f : Addr} {fd : FuncData} (Fu : FnP K "need_alike" s_need_alike f fd) (B : Bz K w mg) (NS : SeerK P base) : FnG P w K mg base 1 f fd ["first", "second"] (spG K mg 2 m_need_alike) :=
  mk_fn Fu sc_need_alike fun cdv A outer s H E hr =>
  (ss_one (s_if (t_cmp (ne_data hr.units) (e_sl (e_var 0) p_none (p_some e_int)) (e_sl (e_var 1) p_none (p_some e_int)))
  (ss_one s_never)
  ss_nil))
abbrev s__law_pen : Stmt := topS 39
abbrev N__law_pen : List Str := ["_law_script"]
theorem sc__law_pen : FnScope N__law_pen ["_law_script"] (defScope s__law_pen) := ⟨rfl, rfl, rfl, by decide +kernel, rfl, by decide +kernel, by decide +kernel⟩
noncomputable def b__law_pen : M Fl := (sRet (oDict [((M.ret (.str "cells")), (eSl (getS 0) pNone (pSome (M.ret (.int 63))))), ((M.ret (.str "at")), (M.ret (.int 0))), ((M.ret (.str "left")), (M.ret (.int 0)))]))
noncomputable def m__law_pen : List Sl → Re RV := fnOf 1 b__law_pen
theorem ok__law_pen {f : Addr} {fd : FuncData} (Fu : FnP K "_law_pen" s__law_pen f fd) (B : Bz K w mg) (NS : SeerK P base) : FnG P w K mg base 1 f fd ["_law_script"] (spG K mg 1 m__law_pen) :=
  mk_fn Fu sc__law_pen fun cdv A outer s H E hr =>
  (ss_one (s_ret (o_dict (l := [((M.ret (.str "cells")), (eSl (getS 0) pNone (pSome (M.ret (.int 63))))), ((M.ret (.str "at")), (M.ret (.int 0))), ((M.ret (.str "left")), (M.ret (.int 0)))]) (pps_cons e_str (e_sl (e_var 0) p_none (p_some e_int)) (pps_cons e_str e_int (pps_cons e_str e_int pps_nil))))))
abbrev s__law_draw : Stmt := topS 40
abbrev N__law_draw : List Str := ["_law_pen_here", "_law_many", "_law_found", "_law_at", "_law_cell", "_law_number"]
theorem sc__law_draw : FnScope N__law_draw ["_law_pen_here", "_law_many"] (defScope s__law_draw) := ⟨rfl, rfl, rfl, by decide +kernel, rfl, by decide +kernel, by decide +kernel⟩
noncomputable def b__law_draw : M Fl := (sSeq (sIf (tBool (bin gtD (eIxS 0 (M.ret (.str "left"))) (M.ret (.int 0))))
  (sSeq (sSet 2 (bin modD (eIxS 0 (M.ret (.str "left"))) (getS 1)))
  (sSeq (sPut' 0 (M.ret (.str "left")) (bin fdivD (eIxS 0 (M.ret (.str "left"))) (getS 1)))
  (sRet ((getS 2).bind fun d => M.ret (.v d)))))
  sNil)
  (sSeq (sSet 3 (eIxS 0 (M.ret (.str "at"))))
  (sSeq (sPut' 0 (M.ret (.str "at")) (bin addD (getS 3) (M.ret (.int 1))))
  (sSeq (sSet 4 (bin addD (bin mulD (M.ret (.int 11)) (getS 3)) (M.ret (.int 5))))
  (sSeq (sIf (tBool (bin gtD (nry (one lenD) (aCons (eIxS 0 (M.ret (.str "cells"))) aNil)) (M.ret (.int 0))))
  (sSet 4 (bin ixD (eIxS 0 (M.ret (.str "cells"))) (bin modD (getS 3) (nry (one lenD) (aCons (eIxS 0 (M.ret (.str "cells"))) aNil)))))
  sNil)
  (sSeq (sIf (tAndM (tBool (bin ltD (getS 3) (nry (one lenD) (aCons (eIxS 0 (M.ret (.str "cells"))) aNil)))) (tBool (bin geD (nry (one absD) (aCons (getS 4) aNil)) (bin powD (M.ret (.int 10)) (M.ret (.int 18))))))
  (sSeq (sPut' 0 (M.ret (.str "left")) (bin fdivD (nry (one absD) (aCons (getS 4) aNil)) (getS 1)))
  (sRet ((bin modD (nry (one absD) (aCons (getS 4) aNil)) (getS 1)).bind fun d => M.ret (.v d))))
  sNil)
  (sSeq (sSet 5 (bin modD (bin mulD (bin addD (bin addD (bin modD (getS 4) (M.ret (.int 2147483629))) (bin mulD (M.ret (.int 50021)) (getS 3))) (M.ret (.int 307))) (M.ret (.int 48271))) (M.ret (.int 2147483647))))
  (sSeq (sSet 5 (bin modD (bin addD (bin addD (bin mulD (getS 5) (getS 5)) (bin mulD (M.ret (.int 69621)) (getS 5))) (bin mulD (M.ret (.int 3)) (getS 3))) (M.ret (.int 2147483587))))
  (sRet ((bin modD (bin fdivD (bin modD (bin mulD (getS 5) (M.ret (.int 16807))) (M.ret (.int 2147483563))) (M.ret (.int 128))) (getS 1)).bind fun d => M.ret (.v d)))))))))))
noncomputable def m__law_draw : List Sl → Re RV := fnOf 6 b__law_draw
theorem ok__law_draw {f : Addr} {fd : FuncData} (Fu : FnP K "_law_draw" s__law_draw f fd) (B : Bz K w mg) (NS : SeerK P base) : FnG P w K mg base 1 f fd ["_law_pen_here", "_law_many"] (spG K mg 2 m__law_draw) :=
  mk_fn Fu sc__law_draw fun cdv A outer s H E hr =>
  (ss_cons (s_if (t_cmp gt_data (e_ixS 0 e_str hr.u1) e_int)
  (ss_cons (s_set (i := 2) (e_op mod_data (e_ixS 0 e_str hr.u1) (e_var 1)) sc__law_draw.nd)
  (ss_cons (s_put 0 e_str (e_op fdiv_data (e_ixS 0 e_str hr.u1) (e_var 1)) hr.u1)
  (ss_one (s_ret (o_val (e_var 2))))))
  ss_nil)
  (ss_cons (s_set (i := 3) (e_ixS 0 e_str hr.u1) sc__law_draw.nd)
  (ss_cons (s_put 0 e_str (e_op add_data (e_var 3) e_int) hr.u1)
  (ss_cons (s_set (i := 4) (e_op add_data (e_op mul_data e_int (e_var 3)) e_int) sc__law_draw.nd)
  (ss_cons (s_if (t_cmp gt_data (e_callB len_data B.b_len (a_cons (e_ixS 0 e_str hr.u1) a_nil)) e_int)
  (ss_one (s_set (i := 4) (e_ix ix_data (e_ixS 0 e_str hr.u1) (e_op mod_data (e_var 3) (e_callB len_data B.b_len (a_cons (e_ixS 0 e_str hr.u1) a_nil)))) sc__law_draw.nd))
  ss_nil)
  (ss_cons (s_if (PW.pt (w_and (t_cmp lt_data (e_var 3) (e_callB len_data B.b_len (a_cons (e_ixS 0 e_str hr.u1) a_nil))) (w_and1 (t_cmp ge_data (e_callB abs_data B.b_abs (a_cons (e_var 4) a_nil)) (e_op pow_data e_int e_int)))))
  (ss_cons (s_put 0 e_str (e_op fdiv_data (e_callB abs_data B.b_abs (a_cons (e_var 4) a_nil)) (e_var 1)) hr.u1)
  (ss_one (s_ret (o_val (e_op mod_data (e_callB abs_data B.b_abs (a_cons (e_var 4) a_nil)) (e_var 1))))))
  ss_nil)
  (ss_cons (s_set (i := 5) (e_op mod_data (e_op mul_data (e_op add_data (e_op add_data (e_op mod_data (e_var 4) e_int) (e_op mul_data e_int (e_var 3))) e_int) e_int) e_int) sc__law_draw.nd)
  (ss_cons (s_set (i := 5) (e_op mod_data (e_op add_data (e_op add_data (e_op mul_data (e_var 5) (e_var 5)) (e_op mul_data e_int (e_var 5))) (e_op mul_data e_int (e_var 3))) e_int) sc__law_draw.nd)
  (ss_one (s_ret (o_val (e_op mod_data (e_op fdiv_data (e_op mod_data (e_op mul_data (e_var 5) e_int) e_int) e_int) (e_var 1)))))))))))))
abbrev s__law_measure : Stmt := topS 41
abbrev N__law_measure : List Str := ["_law_a", "_law_b"]
theorem sc__law_measure : FnScope N__law_measure ["_law_a", "_law_b"] (defScope s__law_measure) := ⟨rfl, rfl, rfl, by decide +kernel, rfl, by decide +kernel, by decide +kernel⟩
noncomputable def b__law_measure : M Fl := (sSeq (sWhile (tBool (bin gtD (getS 1) (M.ret (.int 0))))
  (sPar 0 1 (aCons (getS 1) (aCons (bin modD (getS 0) (getS 1)) aNil))))
  (sRet ((getS 0).bind fun d => M.ret (.v d))))
noncomputable def m__law_measure : List Sl → Re RV := fnOf 2 b__law_measure
theorem ok__law_measure {f : Addr} {fd : FuncData} (Fu : FnP K "_law_measure" s__law_measure f fd) (B : Bz K w mg) (NS : SeerK P base) : FnG P w K mg base 1 f fd ["_law_a", "_law_b"] (spG K mg 2 m__law_measure) :=
  mk_fn Fu sc__law_measure fun cdv A outer s H E hr =>
  (ss_cons (s_while (t_cmp gt_data (e_var 1) e_int)
  (ss_one (s_par (i := 0) (j := 1) (a_cons (e_var 1) (a_cons (e_op mod_data (e_var 0) (e_var 1)) a_nil)) sc__law_measure.nd)) (passes_of rfl))
  (ss_one (s_ret (o_val (e_var 0)))))
abbrev s_is_house : Stmt := topS 10
abbrev N_is_house : List Str := ["thing", "one"]
theorem sc_is_house : FnScope N_is_house ["thing"] (defScope s_is_house) := ⟨rfl, rfl, rfl, by decide +kernel, rfl, by decide +kernel, by decide +kernel⟩
noncomputable def b_is_house : M Fl := (sSeq (sIf (tOrM (tNotM (tTru (una (isiD "tuple") (getS 0)))) (tBool (bin gtD (nry (one lenD) (aCons (getS 0) aNil)) (M.ret (.int 6)))))
  (sRet ((M.ret (.bool false)).bind fun d => M.ret (.v d)))
  sNil)
  (sRet ((nry (one allD) (aCons (frzM (oComp (iSeq (getS 0)) [1] (gN 1) yes (eAnd (frzM (cCall m_is_whole (aCons (getS 1) aNil))) (bin geD (getS 1) (M.ret (.int 1)))))) aNil)).bind fun d => M.ret (.v d))))
noncomputable def m_is_house : List Sl → Re RV := fnOf 2 b_is_house
theorem ok_is_house {f : Addr} {fd : FuncData} (Fu : FnP K "is_house" s_is_house f fd) (B : Bz K w mg) (NS : SeerK P base) (G_is_whole : Fn P w K mg base 1 "is_whole" 1 m_is_whole) : FnG P w K mg base 2 f fd ["thing"] (spG K mg 1 m_is_house) :=
  mk_fn Fu sc_is_house fun cdv A outer s H E hr =>
  (ss_cons (s_if (PW.pt (w_or (t_not (t_tru (e_isi (T := "tuple") (e_var 0) B.b_isinstance B.b_tuple))) (w_or1 (t_cmp gt_data (e_callB len_data B.b_len (a_cons (e_var 0) a_nil)) (e_globI' B.g_MOST_ROUNDS)))))
  (ss_one (s_ret (o_val e_bl)))
  ss_nil)
  (ss_one (s_ret (o_val (e_callB all_data B.b_all (a_cons (e_val (o_lc (own := [("one", 1)]) (i_seq (e_var 0)) (blkOk_by (show blkC N_is_house (defScope s_is_house) _ [("one", 1)] = true from by decide +kernel)) (fun _ _ _ _ _ => (g_name 1 sc_is_house.nd)) (fun _ _ _ _ _ => ts_nil) (fun _ _ _ _ _ => (e_and (e_val (o_call G_is_whole (hr.mono (by decide : 1 ≤ 1)) takes0 (a_cons (e_var 1) a_nil) (hnm := (aCons_len aNil_len)))) (e_one (e_cmp ge_data (e_var 1) e_int)))) sc_is_house.nd)) a_nil))))))
abbrev s_is_thing : Stmt := topS 11
abbrev N_is_thing : List Str := ["house", "thing", "at", "one"]
theorem sc_is_thing : FnScope N_is_thing ["house", "thing"] (defScope s_is_thing) := ⟨rfl, rfl, rfl, by decide +kernel, rfl, by decide +kernel, by decide +kernel⟩
noncomputable def b_is_thing : M Fl := (sSeq (sIf (tOrM (tNotM (tTru (una (isiD "tuple") (getS 1)))) (tBool (bin neD (nry (one lenD) (aCons (getS 1) aNil)) (nry (one lenD) (aCons (getS 0) aNil)))))
  (sRet ((M.ret (.bool false)).bind fun d => M.ret (.v d)))
  sNil)
  (sRet ((nry (one allD) (aCons (frzM (oComp (iBy enOf (aCons (getS 1) aNil)) [2, 3] (gT (gCn (gN 2) (gCn (gN 3) gNl))) yes (eAnd (frzM (cCall m_is_whole (aCons (getS 3) aNil))) (eChain leD ltD (M.ret (.int 0)) (getS 3) (bin ixD (getS 0) (getS 2)))))) aNil)).bind fun d => M.ret (.v d))))
noncomputable def m_is_thing : List Sl → Re RV := fnOf 4 b_is_thing
theorem ok_is_thing {f : Addr} {fd : FuncData} (Fu : FnP K "is_thing" s_is_thing f fd) (B : Bz K w mg) (NS : SeerK P base) (G_is_whole : Fn P w K mg base 1 "is_whole" 1 m_is_whole) : FnG P w K mg base 2 f fd ["house", "thing"] (spG K mg 2 m_is_thing) :=
  mk_fn Fu sc_is_thing fun cdv A outer s H E hr =>
  (ss_cons (s_if (PW.pt (w_or (t_not (t_tru (e_isi (T := "tuple") (e_var 1) B.b_isinstance B.b_tuple))) (w_or1 (t_cmp (ne_data hr.units) (e_callB len_data B.b_len (a_cons (e_var 1) a_nil)) (e_callB len_data B.b_len (a_cons (e_var 0) a_nil))))))
  (ss_one (s_ret (o_val e_bl)))
  ss_nil)
  (ss_one (s_ret (o_val (e_callB all_data B.b_all (a_cons (e_val (o_lc (own := [("at", 2), ("one", 3)]) (i_enum (a_cons (e_var 1) a_nil) B.b_enumerate) (blkOk_by (show blkC N_is_thing (defScope s_is_thing) _ [("at", 2), ("one", 3)] = true from by decide +kernel)) (fun _ _ _ _ _ => (g_tup (g_cons (g_name 2 sc_is_thing.nd) (g_cons (g_name 3 sc_is_thing.nd) g_nil)) (gCn_len (gCn_len gNl_len)))) (fun _ _ _ _ _ => ts_nil) (fun _ _ _ _ _ => (e_and (e_val (o_call G_is_whole (hr.mono (by decide : 1 ≤ 1)) takes0 (a_cons (e_var 3) a_nil) (hnm := (aCons_len aNil_len)))) (e_one (e_chain le_data lt_data e_int (e_var 3) (e_ix ix_data (e_var 0) (e_var 2)))))) sc_is_thing.nd)) a_nil))))))
abbrev s_ways_house : Stmt := topS 20
abbrev N_ways_house : List Str := ["one", "other", "found", "here", "there"]
theorem sc_ways_house : FnScope N_ways_house ["one", "other"] (defScope s_ways_house) := ⟨rfl, rfl, rfl, by decide +kernel, rfl, by decide +kernel, by decide +kernel⟩
noncomputable def b_ways_house : M Fl := (sSeq (sSetO 2 (oLst aNil))
  (sSeq (sFor (iSeq (getS 0)) (gN 3)
  (sExtend 2 (oComp (iSeq (getS 1)) [4] (gN 4) yes (frzM (cCall m_common_measure (aCons (getS 3) (aCons (getS 4) aNil)))))))
  (sRet ((eTupS 2).bind fun d => M.ret (.v d)))))
noncomputable def m_ways_house : List Sl → Re RV := fnOf 5 b_ways_house
theorem ok_ways_house {f : Addr} {fd : FuncData} (Fu : FnP K "ways_house" s_ways_house f fd) (B : Bz K w mg) (NS : SeerK P base) (G_common_measure : Fn P w K mg base 1 "common_measure" 2 m_common_measure) : FnG P w K mg base 2 f fd ["one", "other"] (spG K mg 2 m_ways_house) :=
  mk_fn Fu sc_ways_house fun cdv A outer s H E hr =>
  (ss_cons (s_setO (i := 2) (o_lst a_nil) sc_ways_house.nd)
  (ss_cons (s_for (i_seq (e_var 0)) (g_name 3 sc_ways_house.nd)
  (ss_one (s_extend 2 (o_lc (own := [("there", 4)]) (i_seq (e_var 1)) (blkOk_by (show blkC N_ways_house (defScope s_ways_house) _ [("there", 4)] = true from by decide +kernel)) (fun _ _ _ _ _ => (g_name 4 sc_ways_house.nd)) (fun _ _ _ _ _ => ts_nil) (fun _ _ _ _ _ => (e_val (o_call G_common_measure (hr.mono (by decide : 1 ≤ 1)) takes0 (a_cons (e_var 3) (a_cons (e_var 4) a_nil)) (hnm := (aCons_len (aCons_len aNil_len)))))) sc_ways_house.nd))) (passes_of rfl))
  (ss_one (s_ret (o_val (e_tupS 2 B.b_tuple))))))
abbrev s_many_ways : Stmt := topS 21
abbrev N_many_ways : List Str := ["one", "other", "found", "here", "there"]
theorem sc_many_ways : FnScope N_many_ways ["one", "other"] (defScope s_many_ways) := ⟨rfl, rfl, rfl, by decide +kernel, rfl, by decide +kernel, by decide +kernel⟩
noncomputable def b_many_ways : M Fl := (sSeq (sSet 2 (M.ret (.int 1)))
  (sSeq (sFor (iSeq (getS 0)) (gN 3)
  (sFor (iSeq (getS 1)) (gN 4)
  (sSet 2 (bin mulD (getS 2) (frzM (cCall m_common_measure (aCons (getS 3) (aCons (getS 4) aNil))))))))
  (sRet ((getS 2).bind fun d => M.ret (.v d)))))
noncomputable def m_many_ways : List Sl → Re RV := fnOf 5 b_many_ways
theorem ok_many_ways {f : Addr} {fd : FuncData} (Fu : FnP K "many_ways" s_many_ways f fd) (B : Bz K w mg) (NS : SeerK P base) (G_common_measure : Fn P w K mg base 1 "common_measure" 2 m_common_measure) : FnG P w K mg base 2 f fd ["one", "other"] (spG K mg 2 m_many_ways) :=
  mk_fn Fu sc_many_ways fun cdv A outer s H E hr =>
  (ss_cons (s_set (i := 2) e_int sc_many_ways.nd)
  (ss_cons (s_for (i_seq (e_var 0)) (g_name 3 sc_many_ways.nd)
  (ss_one (s_for (i_seq (e_var 1)) (g_name 4 sc_many_ways.nd)
  (ss_one (s_set (i := 2) (e_op mul_data (e_var 2) (e_val (o_call G_common_measure (hr.mono (by decide : 1 ≤ 1)) (takes_of rfl rfl rfl rfl) (a_cons (e_var 3) (a_cons (e_var 4) a_nil)) (hnm := (aCons_len (aCons_len aNil_len)))))) sc_many_ways.nd)) (passes_of rfl))) (passes_of rfl))
  (ss_one (s_ret (o_val (e_var 2))))))
abbrev s_images_for : Stmt := topS 22
abbrev N_images_for : List Str := ["here", "other", "found", "there", "many", "share", "longer", "ahead", "number"]
theorem sc_images_for : FnScope N_images_for ["here", "other"] (defScope s_images_for) := ⟨rfl, rfl, rfl, by decide +kernel, rfl, by decide +kernel, by decide +kernel⟩
noncomputable def b_images_for : M Fl := (sSeq (sSetO 2 (oLst (aCons (eTup aNil) aNil)))
  (sSeq (sFor (iSeq (getS 1)) (gN 3)
  (sSeq (sSet 4 (frzM (cCall m_common_measure (aCons (getS 0) (aCons (getS 3) aNil)))))
  (sSeq (sSet 5 (bin fdivD (getS 3) (getS 4)))
  (sSeq (sSetO 6 (oLst aNil))
  (sSeq (frz 2 (sFor (iSeq (getS 2)) (gN 7)
  (sExtend 6 (oComp (iBy rng1 (aCons (getS 4) aNil)) [8] (gN 8) yes (bin addD (getS 7) (eTup (aCons (bin mulD (getS 5) (getS 8)) aNil)))))))
  (sSetO 2 (takeS 6)))))))
  (sRet (takeS 2))))
noncomputable def m_images_for : List Sl → Re RV := fnOf 9 b_images_for
theorem ok_images_for {f : Addr} {fd : FuncData} (Fu : FnP K "images_for" s_images_for f fd) (B : Bz K w mg) (NS : SeerK P base) (G_common_measure : Fn P w K mg base 1 "common_measure" 2 m_common_measure) : FnG P w K mg base 2 f fd ["here", "other"] (spG K mg 2 m_images_for) :=
  mk_fn Fu sc_images_for fun cdv A outer s H E hr =>
  (ss_cons (s_setO (i := 2) (o_lst (a_cons (e_tup a_nil) a_nil)) sc_images_for.nd)
  (ss_cons (s_for (i_seq (e_var 1)) (g_name 3 sc_images_for.nd)
  (ss_cons (s_set (i := 4) (e_val (o_call G_common_measure (hr.mono (by decide : 1 ≤ 1)) (takes_of rfl rfl rfl rfl) (a_cons (e_var 0) (a_cons (e_var 3) a_nil)) (hnm := (aCons_len (aCons_len aNil_len))))) sc_images_for.nd)
  (ss_cons (s_set (i := 5) (e_op fdiv_data (e_var 3) (e_var 4)) sc_images_for.nd)
  (ss_cons (s_setO (i := 6) (o_lst a_nil) sc_images_for.nd)
  (ss_cons (s_frz 2 (s_for (i_seq (e_var 2)) (g_name 7 sc_images_for.nd)
  (ss_one (s_extend 6 (o_lc (own := [("number", 8)]) (i_rng1 (a_cons (e_var 4) a_nil) B.b_range) (blkOk_by (show blkC N_images_for (defScope s_images_for) _ [("number", 8)] = true from by decide +kernel)) (fun _ _ _ _ _ => (g_name 8 sc_images_for.nd)) (fun _ _ _ _ _ => ts_nil) (fun _ _ _ _ _ => (e_op add_data (e_var 7) (e_tup (a_cons (e_op mul_data (e_var 5) (e_var 8)) a_nil)))) sc_images_for.nd))) (passes_of rfl)))
  (ss_one (s_setO (i := 2) (o_take 6) sc_images_for.nd)))))) (passes_of rfl))
  (ss_one (s_ret (o_take 2)))))
abbrev s_thing_of : Stmt := topS 25
abbrev N_thing_of : List Str := ["way", "one", "other", "images", "found", "at", "here", "place", "there"]
theorem sc_thing_of : FnScope N_thing_of ["way"] (defScope s_thing_of) := ⟨rfl, rfl, rfl, by decide +kernel, rfl, by decide +kernel, by decide +kernel⟩
noncomputable def b_thing_of : M Fl := (sSeq (sAsg (gT (gCn (gN 1) (gCn (gN 2) (gCn (gN 3) gNl)))) (getS 0))
  (sSeq (sSetO 4 (oLst aNil))
  (sSeq (sFor (iBy enOf (aCons (getS 1) aNil)) (gT (gCn (gN 5) (gCn (gN 6) gNl)))
  (sFor (iBy enOf (aCons (getS 2) aNil)) (gT (gCn (gN 7) (gCn (gN 8) gNl)))
  (sAppend 4 (bin fdivD (bin ixD (bin ixD (getS 3) (getS 5)) (getS 7)) (bin fdivD (getS 8) (frzM (cCall m_common_measure (aCons (getS 6) (aCons (getS 8) aNil)))))))))
  (sRet ((eTupS 4).bind fun d => M.ret (.v d))))))
noncomputable def m_thing_of : List Sl → Re RV := fnOf 9 b_thing_of
theorem ok_thing_of {f : Addr} {fd : FuncData} (Fu : FnP K "thing_of" s_thing_of f fd) (B : Bz K w mg) (NS : SeerK P base) (G_common_measure : Fn P w K mg base 1 "common_measure" 2 m_common_measure) : FnG P w K mg base 2 f fd ["way"] (spG K mg 1 m_thing_of) :=
  mk_fn Fu sc_thing_of fun cdv A outer s H E hr =>
  (ss_cons (s_asg (e_var 0) (g_tup (g_cons (g_name 1 sc_thing_of.nd) (g_cons (g_name 2 sc_thing_of.nd) (g_cons (g_name 3 sc_thing_of.nd) g_nil))) (gCn_len (gCn_len (gCn_len gNl_len)))))
  (ss_cons (s_setO (i := 4) (o_lst a_nil) sc_thing_of.nd)
  (ss_cons (s_for (i_enum (a_cons (e_var 1) a_nil) B.b_enumerate) (g_tup (g_cons (g_name 5 sc_thing_of.nd) (g_cons (g_name 6 sc_thing_of.nd) g_nil)) (gCn_len (gCn_len gNl_len)))
  (ss_one (s_for (i_enum (a_cons (e_var 2) a_nil) B.b_enumerate) (g_tup (g_cons (g_name 7 sc_thing_of.nd) (g_cons (g_name 8 sc_thing_of.nd) g_nil)) (gCn_len (gCn_len gNl_len)))
  (ss_one (s_append 4 (e_op fdiv_data (e_ix ix_data (e_ix ix_data (e_var 3) (e_var 5)) (e_var 7)) (e_op fdiv_data (e_var 8) (e_val (o_call G_common_measure (hr.mono (by decide : 1 ≤ 1)) (takes_of rfl rfl rfl rfl) (a_cons (e_var 6) (a_cons (e_var 8) a_nil)) (hnm := (aCons_len (aCons_len aNil_len))))))))) (passes_of rfl))) (passes_of rfl))
  (ss_one (s_ret (o_val (e_tupS 4 B.b_tuple)))))))
abbrev s_led_word : Stmt := topS 28
abbrev N_led_word : List Str := ["way", "word", "one", "other", "images", "sums", "place", "at", "image"]
theorem sc_led_word : FnScope N_led_word ["way", "word"] (defScope s_led_word) := ⟨rfl, rfl, rfl, by decide +kernel, rfl, by decide +kernel, by decide +kernel⟩
noncomputable def b_led_word : M Fl := (sSeq (sAsg (gT (gCn (gN 2) (gCn (gN 3) (gCn (gN 4) gNl)))) (getS 0))
  (sSeq (sSetO 5 (oLst aNil))
  (sSeq (sFor (iBy rng1 (aCons (nry (one lenD) (aCons (getS 3) aNil)) aNil)) (gN 6)
  (sAppend 5 (nry (one sumD) (aCons (frzM (oComp (iBy enOf (aCons (getS 4) aNil)) [7, 8] (gT (gCn (gN 7) (gCn (gN 8) gNl))) yes (bin mulD (bin ixD (getS 1) (getS 7)) (bin ixD (getS 8) (getS 6))))) aNil))))
  (frz 5 (sRet (cCall m_by_rounds (aCons (getS 3) (aCons (getS 5) aNil))))))))
noncomputable def m_led_word : List Sl → Re RV := fnOf 9 b_led_word
theorem ok_led_word {f : Addr} {fd : FuncData} (Fu : FnP K "led_word" s_led_word f fd) (B : Bz K w mg) (NS : SeerK P base) (G_by_rounds : Fn P w K mg base 1 "by_rounds" 2 m_by_rounds) : FnG P w K mg base 2 f fd ["way", "word"] (spG K mg 2 m_led_word) :=
  mk_fn Fu sc_led_word fun cdv A outer s H E hr =>
  (ss_cons (s_asg (e_var 0) (g_tup (g_cons (g_name 2 sc_led_word.nd) (g_cons (g_name 3 sc_led_word.nd) (g_cons (g_name 4 sc_led_word.nd) g_nil))) (gCn_len (gCn_len (gCn_len gNl_len)))))
  (ss_cons (s_setO (i := 5) (o_lst a_nil) sc_led_word.nd)
  (ss_cons (s_for (i_rng1 (a_cons (e_callB len_data B.b_len (a_cons (e_var 3) a_nil)) a_nil) B.b_range) (g_name 6 sc_led_word.nd)
  (ss_one (s_append 5 (e_callB sum_data B.b_sum (a_cons (e_val (o_lc (own := [("at", 7), ("image", 8)]) (i_enum (a_cons (e_var 4) a_nil) B.b_enumerate) (blkOk_by (show blkC N_led_word (defScope s_led_word) _ [("at", 7), ("image", 8)] = true from by decide +kernel)) (fun _ _ _ _ _ => (g_tup (g_cons (g_name 7 sc_led_word.nd) (g_cons (g_name 8 sc_led_word.nd) g_nil)) (gCn_len (gCn_len gNl_len)))) (fun _ _ _ _ _ => ts_nil) (fun _ _ _ _ _ => (e_op mul_data (e_ix ix_data (e_var 1) (e_var 7)) (e_ix ix_data (e_var 8) (e_var 6)))) sc_led_word.nd)) a_nil)))) (passes_of rfl))
  (ss_one (s_frz 5 (s_ret (o_call G_by_rounds (hr.mono (by decide : 1 ≤ 1)) (takes_of rfl rfl rfl rfl) (a_cons (e_var 3) (a_cons (e_var 5) a_nil)) (hnm := (aCons_len (aCons_len aNil_len))))))))))
abbrev s_stay : Stmt := topS 30
abbrev N_stay : List Str := ["house", "many", "images", "at", "place"]
theorem sc_stay : FnScope N_stay ["house"] (defScope s_stay) := ⟨rfl, rfl, rfl, by decide +kernel, rfl, by decide +kernel, by decide +kernel⟩
noncomputable def b_stay : M Fl := (sSeq (sSet 1 (nry (one lenD) (aCons (getS 0) aNil)))
  (sSeq (sSet 2 (frzM (oComp (iBy rng1 (aCons (getS 1) aNil)) [3] (gN 3) yes (frzM (cCall m_by_rounds (aCons (getS 0) (aCons (frzM (oComp (iBy rng1 (aCons (getS 1) aNil)) [4] (gN 4) yes (nry (one intD) (aCons (bin eqD (getS 4) (getS 3)) aNil)))) aNil)))))))
  (sRet ((eTup (aCons (getS 0) (aCons (getS 0) (aCons (nry (one tupD) (aCons (getS 2) aNil)) aNil)))).bind fun d => M.ret (.v d)))))
noncomputable def m_stay : List Sl → Re RV := fnOf 5 b_stay
theorem ok_stay {f : Addr} {fd : FuncData} (Fu : FnP K "stay" s_stay f fd) (B : Bz K w mg) (NS : SeerK P base) (G_by_rounds : Fn P w K mg base 1 "by_rounds" 2 m_by_rounds) : FnG P w K mg base 2 f fd ["house"] (spG K mg 1 m_stay) :=
  mk_fn Fu sc_stay fun cdv A outer s H E hr =>
  (ss_cons (s_set (i := 1) (e_callB len_data B.b_len (a_cons (e_var 0) a_nil)) sc_stay.nd)
  (ss_cons (s_setLcV (i := 2) (own := [("at", 3)]) (i_rng1 (a_cons (e_var 1) a_nil) B.b_range) (blkOk_by (show blkC N_stay (defScope s_stay) _ [("at", 3)] = true from by decide +kernel)) (fun _ _ _ _ _ => (g_name 3 sc_stay.nd)) (fun _ _ _ _ _ => ts_nil) (fun _ _ _ _ _ => (e_val (o_call G_by_rounds (hr.mono (by decide : 1 ≤ 1)) takes0 (a_cons (e_var 0) (a_cons (e_val (o_lc (own := [("place", 4)]) (i_rng1 (a_cons (e_var 1) a_nil) B.b_range) (blkOk_by (by rfl)) (fun _ _ _ _ _ => (g_name 4 sc_stay.nd)) (fun _ _ _ _ _ => ts_nil) (fun _ _ _ _ _ => (e_callT int_data B.b_int (a_cons (e_cmp (eq_data hr.units) (e_var 4) (e_var 3)) a_nil))) sc_stay.nd)) a_nil)) (hnm := (aCons_len (aCons_len aNil_len)))))) sc_stay.nd)
  (ss_one (s_ret (o_val (e_tup (a_cons (e_var 0) (a_cons (e_var 0) (a_cons (e_callT tup_data B.b_tuple (a_cons (e_var 2) a_nil)) a_nil)))))))))
abbrev s_none_way : Stmt := topS 31
abbrev N_none_way : List Str := ["one", "other", "here"]
theorem sc_none_way : FnScope N_none_way ["one", "other"] (defScope s_none_way) := ⟨rfl, rfl, rfl, by decide +kernel, rfl, by decide +kernel, by decide +kernel⟩
noncomputable def b_none_way : M Fl := (sRet ((eTup (aCons (getS 0) (aCons (getS 1) (aCons (nry (one tupD) (aCons (frzM (oComp (iSeq (getS 0)) [2] (gN 2) yes (frzM (cCall m_nought (aCons (getS 1) aNil))))) aNil)) aNil)))).bind fun d => M.ret (.v d)))
noncomputable def m_none_way : List Sl → Re RV := fnOf 3 b_none_way
theorem ok_none_way {f : Addr} {fd : FuncData} (Fu : FnP K "none_way" s_none_way f fd) (B : Bz K w mg) (NS : SeerK P base) (G_nought : Fn P w K mg base 1 "nought" 1 m_nought) : FnG P w K mg base 2 f fd ["one", "other"] (spG K mg 2 m_none_way) :=
  mk_fn Fu sc_none_way fun cdv A outer s H E hr =>
  (ss_one (s_ret (o_val (e_tup (a_cons (e_var 0) (a_cons (e_var 1) (a_cons (e_callT tup_data B.b_tuple (a_cons (e_val (o_lc (own := [("here", 2)]) (i_seq (e_var 0)) (blkOk_by (show blkC N_none_way (defScope s_none_way) _ [("here", 2)] = true from by decide +kernel)) (fun _ _ _ _ _ => (g_name 2 sc_none_way.nd)) (fun _ _ _ _ _ => ts_nil) (fun _ _ _ _ _ => (e_val (o_call G_nought (hr.mono (by decide : 1 ≤ 1)) takes0 (a_cons (e_var 1) a_nil) (hnm := (aCons_len aNil_len))))) sc_none_way.nd)) a_nil)) a_nil)))))))
abbrev s__law_thing : Stmt := topS 42
abbrev N__law_thing : List Str := ["_law_pen_here", "_law_house", "_law_one"]
theorem sc__law_thing : FnScope N__law_thing ["_law_pen_here", "_law_house"] (defScope s__law_thing) := ⟨rfl, rfl, rfl, by decide +kernel, rfl, by decide +kernel, by decide +kernel⟩
noncomputable def b__law_thing : M Fl := (sRet ((nry (one tupD) (aCons (frzM (oComp (iSeq (getS 1)) [2] (gN 2) yes (bin ixD (frzM (oLst (aCons (frzM (cCallI 0 m__law_draw (aCons (getS 2) aNil))) (aCons (bin subD (getS 2) (M.ret (.int 1))) (aCons (M.ret (.int 0)) (aCons (bin modD (M.ret (.int 1)) (getS 2)) aNil)))))) (bin fdivD (frzM (cCallI 0 m__law_draw (aCons (M.ret (.int 8)) aNil))) (M.ret (.int 2)))))) aNil)).bind fun d => M.ret (.v d)))
noncomputable def m__law_thing : List Sl → Re RV := fnOf 3 b__law_thing
theorem ok__law_thing {f : Addr} {fd : FuncData} (Fu : FnP K "_law_thing" s__law_thing f fd) (B : Bz K w mg) (NS : SeerK P base) (G__law_draw : Fn P w K mg base 1 "_law_draw" 2 m__law_draw) : FnG P w K mg base 2 f fd ["_law_pen_here", "_law_house"] (spG K mg 2 m__law_thing) :=
  mk_fn Fu sc__law_thing fun cdv A outer s H E hr =>
  (ss_one (s_ret (o_val (e_callT tup_data B.b_tuple (a_cons (e_val (o_lc (own := [("_law_one", 2)]) (i_seq (e_var 1)) (blkOk_by (show blkC N__law_thing (defScope s__law_thing) _ [("_law_one", 2)] = true from by decide +kernel)) (fun _ _ _ _ _ => (g_name 2 sc__law_thing.nd)) (fun _ _ _ _ _ => ts_nil) (fun _ _ _ _ _ => (e_ix ix_data (e_val (o_lst (a_cons (e_val (o_callI 0 G__law_draw (hr.mono (by decide : 1 ≤ 1)) takes0 (a_cons (e_var 2) a_nil) (fun r ds r' h => congrArg Nat.succ ((aCons_len aNil_len) r ds r' h)))) (a_cons (e_op sub_data (e_var 2) e_int) (a_cons e_int (a_cons (e_op mod_data e_int (e_var 2)) a_nil)))))) (e_op fdiv_data (e_val (o_callI 0 G__law_draw (hr.mono (by decide : 1 ≤ 1)) takes0 (a_cons e_int a_nil) (fun r ds r' h => congrArg Nat.succ ((aCons_len aNil_len) r ds r' h)))) e_int))) sc__law_thing.nd)) a_nil)))))
abbrev s__law_count : Stmt := topS 43
abbrev N__law_count : List Str := ["_law_one", "_law_other", "_law_found", "_law_here", "_law_there"]
theorem sc__law_count : FnScope N__law_count ["_law_one", "_law_other"] (defScope s__law_count) := ⟨rfl, rfl, rfl, by decide +kernel, rfl, by decide +kernel, by decide +kernel⟩
noncomputable def b__law_count : M Fl := (sSeq (sSet 2 (M.ret (.int 1)))
  (sSeq (sFor (iSeq (getS 0)) (gN 3)
  (sFor (iSeq (getS 1)) (gN 4)
  (sSet 2 (bin mulD (getS 2) (frzM (cCall m__law_measure (aCons (getS 3) (aCons (getS 4) aNil))))))))
  (sRet ((getS 2).bind fun d => M.ret (.v d)))))
noncomputable def m__law_count : List Sl → Re RV := fnOf 5 b__law_count
theorem ok__law_count {f : Addr} {fd : FuncData} (Fu : FnP K "_law_count" s__law_count f fd) (B : Bz K w mg) (NS : SeerK P base) (G__law_measure : Fn P w K mg base 1 "_law_measure" 2 m__law_measure) : FnG P w K mg base 2 f fd ["_law_one", "_law_other"] (spG K mg 2 m__law_count) :=
  mk_fn Fu sc__law_count fun cdv A outer s H E hr =>
  (ss_cons (s_set (i := 2) e_int sc__law_count.nd)
  (ss_cons (s_for (i_seq (e_var 0)) (g_name 3 sc__law_count.nd)
  (ss_one (s_for (i_seq (e_var 1)) (g_name 4 sc__law_count.nd)
  (ss_one (s_set (i := 2) (e_op mul_data (e_var 2) (e_val (o_call G__law_measure (hr.mono (by decide : 1 ≤ 1)) (takes_of rfl rfl rfl rfl) (a_cons (e_var 3) (a_cons (e_var 4) a_nil)) (hnm := (aCons_len (aCons_len aNil_len)))))) sc__law_count.nd)) (passes_of rfl))) (passes_of rfl))
  (ss_one (s_ret (o_val (e_var 2))))))
abbrev s_need_things : Stmt := topS 12
abbrev N_need_things : List Str := ["house", "some", "one"]
theorem sc_need_things : FnScope N_need_things ["house", "some"] (defScope s_need_things) := ⟨rfl, rfl, rfl, by decide +kernel, rfl, by decide +kernel, by decide +kernel⟩
noncomputable def b_need_things : M Fl := (sFor (iSeq (getS 1)) (gN 2)
  (sIf (tNotM (tTru (frzM (cCall m_is_thing (aCons (getS 0) (aCons (getS 2) aNil))))))
  sNever
  sNil))
noncomputable def m_need_things : List Sl → Re RV := fnOf 3 b_need_things
theorem ok_need_things {f : Addr} {fd : FuncData} (Fu : FnP K "need_things" s_need_things f fd) (B : Bz K w mg) (NS : SeerK P base) (G_is_thing : Fn P w K mg base 2 "is_thing" 2 m_is_thing) : FnG P w K mg base 3 f fd ["house", "some"] (spG K mg 2 m_need_things) :=
  mk_fn Fu sc_need_things fun cdv A outer s H E hr =>
  (ss_one (s_for (i_seq (e_var 1)) (g_name 2 sc_need_things.nd)
  (ss_one (s_if (t_not (t_tru (e_val (o_call G_is_thing (hr.mono (by decide : 2 ≤ 2)) (takes_of rfl rfl rfl rfl) (a_cons (e_var 0) (a_cons (e_var 2) a_nil)) (hnm := (aCons_len (aCons_len aNil_len)))))))
  (ss_one s_never)
  ss_nil)) (passes_of rfl)))
abbrev s_ways : Stmt := topS 23
abbrev N_ways : List Str := ["one", "other", "found", "here", "some", "longer", "ahead", "image", "images"]
theorem sc_ways : FnScope N_ways ["one", "other"] (defScope s_ways) := ⟨rfl, rfl, rfl, by decide +kernel, rfl, by decide +kernel, by decide +kernel⟩
noncomputable def b_ways : M Fl := (sSeq (sIf (tBool (bin gtD (frzM (cCall m_many_ways (aCons (getS 0) (aCons (getS 1) aNil)))) (M.ret (.int 520))))
  sNever
  sNil)
  (sSeq (sSetO 2 (oLst (aCons (eTup aNil) aNil)))
  (sSeq (sFor (iSeq (getS 0)) (gN 3)
  (sSeq (sSet 4 (frzM (cCall m_images_for (aCons (getS 3) (aCons (getS 1) aNil)))))
  (sSeq (sSetO 5 (oLst aNil))
  (sSeq (frz 2 (sFor (iSeq (getS 2)) (gN 6)
  (sExtend 5 (oComp (iSeq (getS 4)) [7] (gN 7) yes (bin addD (getS 6) (eTup (aCons (getS 7) aNil)))))))
  (sSetO 2 (takeS 5))))))
  (frz 2 (sRet (oComp (iSeq (getS 2)) [8] (gN 8) yes (eTup (aCons (getS 0) (aCons (getS 1) (aCons (getS 8) aNil))))))))))
noncomputable def m_ways : List Sl → Re RV := fnOf 9 b_ways
theorem ok_ways {f : Addr} {fd : FuncData} (Fu : FnP K "ways" s_ways f fd) (B : Bz K w mg) (NS : SeerK P base) (G_many_ways : Fn P w K mg base 2 "many_ways" 2 m_many_ways) (G_images_for : Fn P w K mg base 2 "images_for" 2 m_images_for) : FnG P w K mg base 3 f fd ["one", "other"] (spG K mg 2 m_ways) :=
  mk_fn Fu sc_ways fun cdv A outer s H E hr =>
  (ss_cons (s_if (t_cmp gt_data (e_val (o_call G_many_ways (hr.mono (by decide : 2 ≤ 2)) (takes_of rfl rfl rfl rfl) (a_cons (e_var 0) (a_cons (e_var 1) a_nil)) (hnm := (aCons_len (aCons_len aNil_len))))) (e_globI' B.g_MOST_WAYS))
  (ss_one s_never)
  ss_nil)
  (ss_cons (s_setO (i := 2) (o_lst (a_cons (e_tup a_nil) a_nil)) sc_ways.nd)
  (ss_cons (s_for (i_seq (e_var 0)) (g_name 3 sc_ways.nd)
  (ss_cons (s_set (i := 4) (e_val (o_call G_images_for (hr.mono (by decide : 2 ≤ 2)) (takes_of rfl rfl rfl rfl) (a_cons (e_var 3) (a_cons (e_var 1) a_nil)) (hnm := (aCons_len (aCons_len aNil_len))))) sc_ways.nd)
  (ss_cons (s_setO (i := 5) (o_lst a_nil) sc_ways.nd)
  (ss_cons (s_frz 2 (s_for (i_seq (e_var 2)) (g_name 6 sc_ways.nd)
  (ss_one (s_extend 5 (o_lc (own := [("image", 7)]) (i_seq (e_var 4)) (blkOk_by (show blkC N_ways (defScope s_ways) _ [("image", 7)] = true from by decide +kernel)) (fun _ _ _ _ _ => (g_name 7 sc_ways.nd)) (fun _ _ _ _ _ => ts_nil) (fun _ _ _ _ _ => (e_op add_data (e_var 6) (e_tup (a_cons (e_var 7) a_nil)))) sc_ways.nd))) (passes_of rfl)))
  (ss_one (s_setO (i := 2) (o_take 5) sc_ways.nd))))) (passes_of rfl))
  (ss_one (s_frz 2 (s_ret (o_lc (own := [("images", 8)]) (i_seq (e_var 2)) (blkOk_by (show blkC N_ways (defScope s_ways) _ [("images", 8)] = true from by decide +kernel)) (fun _ _ _ _ _ => (g_name 8 sc_ways.nd)) (fun _ _ _ _ _ => ts_nil) (fun _ _ _ _ _ => (e_tup (a_cons (e_var 0) (a_cons (e_var 1) (a_cons (e_var 8) a_nil))))) sc_ways.nd)))))))
abbrev s_led : Stmt := topS 29
abbrev N_led : List Str := ["way", "a"]
theorem sc_led : FnScope N_led ["way", "a"] (defScope s_led) := ⟨rfl, rfl, rfl, by decide +kernel, rfl, by decide +kernel, by decide +kernel⟩
noncomputable def b_led : M Fl := (sSeq (sIf (tNotM (tTru (frzM (cCall m_is_thing (aCons (bin ixD (getS 0) (M.ret (.int 0))) (aCons (getS 1) aNil))))))
  sNever
  sNil)
  (sRet (cCall m_led_word (aCons (getS 0) (aCons (getS 1) aNil)))))
noncomputable def m_led : List Sl → Re RV := fnOf 2 b_led
theorem ok_led {f : Addr} {fd : FuncData} (Fu : FnP K "led" s_led f fd) (B : Bz K w mg) (NS : SeerK P base) (G_is_thing : Fn P w K mg base 2 "is_thing" 2 m_is_thing) (G_led_word : Fn P w K mg base 2 "led_word" 2 m_led_word) : FnG P w K mg base 3 f fd ["way", "a"] (spG K mg 2 m_led) :=
  mk_fn Fu sc_led fun cdv A outer s H E hr =>
  (ss_cons (s_if (t_not (t_tru (e_val (o_call G_is_thing (hr.mono (by decide : 2 ≤ 2)) (takes_of rfl rfl rfl rfl) (a_cons (e_ix ix_data (e_var 0) e_int) (a_cons (e_var 1) a_nil)) (hnm := (aCons_len (aCons_len aNil_len)))))))
  (ss_one s_never)
  ss_nil)
  (ss_one (s_ret (o_call G_led_word (hr.mono (by decide : 2 ≤ 2)) (takes_of rfl rfl rfl rfl) (a_cons (e_var 0) (a_cons (e_var 1) a_nil)) (hnm := (aCons_len (aCons_len aNil_len)))))))
abbrev s__law_small_house : Stmt := topS 44
abbrev N__law_small_house : List Str := ["_law_pen_here", "_law_others", "_law_found", "_law_k", "_law_one", "_law_more", "_law_fits", "_law_house"]
theorem sc__law_small_house : FnScope N__law_small_house ["_law_pen_here", "_law_others"] (defScope s__law_small_house) := ⟨rfl, rfl, rfl, by decide +kernel, rfl, by decide +kernel, by decide +kernel⟩
noncomputable def b__law_small_house : M Fl := (sSeq (sSet 2 (eTup aNil))
  (sSeq (sFor (iBy rng1 (aCons (bin ixD (frzM (oLst (aCons (M.ret (.int 1)) (aCons (M.ret (.int 2)) (aCons (M.ret (.int 3)) (aCons (M.ret (.int 0)) (aCons (M.ret (.int 4)) aNil))))))) (frzM (cCallI 0 m__law_draw (aCons (M.ret (.int 5)) aNil)))) aNil)) (gN 3)
  (sSeq (sSet 4 (bin ixD (frzM (oLst (aCons (M.ret (.int 2)) (aCons (M.ret (.int 3)) (aCons (M.ret (.int 4)) (aCons (M.ret (.int 1)) (aCons (M.ret (.int 5)) (aCons (M.ret (.int 6)) (aCons (M.ret (.int 8)) (aCons (M.ret (.int 9)) (aCons (M.ret (.int 12)) (aCons (M.ret (.int 25)) (aCons (M.ret (.int 999983)) (aCons (M.ret (.int 1000000)) aNil)))))))))))))) (frzM (cCallI 0 m__law_draw (aCons (M.ret (.int 12)) aNil)))))
  (sSeq (sSet 5 (bin addD (getS 2) (eTup (aCons (getS 4) aNil))))
  (sSeq (sSet 6 (nry (one allD) (aCons (frzM (oComp (iSeq (getS 1)) [7] (gN 7) yes (eAnd (bin leD (frzM (cCall m__law_count (aCons (getS 5) (aCons (getS 7) aNil)))) (M.ret (.int 64))) (bin leD (bin mulD (nry (one lenD) (aCons (getS 5) aNil)) (nry (one lenD) (aCons (getS 7) aNil))) (M.ret (.int 6)))))) aNil)))
  (sIf (tTru (getS 6))
  (sSet 2 (getS 5))
  sNil)))))
  (sRet ((getS 2).bind fun d => M.ret (.v d)))))
noncomputable def m__law_small_house : List Sl → Re RV := fnOf 8 b__law_small_house
theorem ok__law_small_house {f : Addr} {fd : FuncData} (Fu : FnP K "_law_small_house" s__law_small_house f fd) (B : Bz K w mg) (NS : SeerK P base) (G__law_draw : Fn P w K mg base 1 "_law_draw" 2 m__law_draw) (G__law_count : Fn P w K mg base 2 "_law_count" 2 m__law_count) : FnG P w K mg base 3 f fd ["_law_pen_here", "_law_others"] (spG K mg 2 m__law_small_house) :=
  mk_fn Fu sc__law_small_house fun cdv A outer s H E hr =>
  (ss_cons (s_set (i := 2) (e_tup a_nil) sc__law_small_house.nd)
  (ss_cons (s_for (i_rng1 (a_cons (e_ix ix_data (e_val (o_lst (a_cons e_int (a_cons e_int (a_cons e_int (a_cons e_int (a_cons e_int a_nil))))))) (e_val (o_callI 0 G__law_draw (hr.mono (by decide : 1 ≤ 2)) (takes_of rfl rfl rfl rfl) (a_cons e_int a_nil) (fun r ds r' h => congrArg Nat.succ ((aCons_len aNil_len) r ds r' h))))) a_nil) B.b_range) (g_name 3 sc__law_small_house.nd)
  (ss_cons (s_set (i := 4) (e_ix ix_data (e_val (o_lst (a_cons e_int (a_cons e_int (a_cons e_int (a_cons e_int (a_cons e_int (a_cons e_int (a_cons e_int (a_cons e_int (a_cons e_int (a_cons e_int (a_cons e_int (a_cons e_int a_nil)))))))))))))) (e_val (o_callI 0 G__law_draw (hr.mono (by decide : 1 ≤ 2)) (takes_of rfl rfl rfl rfl) (a_cons e_int a_nil) (fun r ds r' h => congrArg Nat.succ ((aCons_len aNil_len) r ds r' h))))) sc__law_small_house.nd)
  (ss_cons (s_set (i := 5) (e_op add_data (e_var 2) (e_tup (a_cons (e_var 4) a_nil))) sc__law_small_house.nd)
  (ss_cons (s_set (i := 6) (e_callB all_data B.b_all (a_cons (e_val (o_lc (own := [("_law_house", 7)]) (i_seq (e_var 1)) (blkOk_by (show blkC N__law_small_house (defScope s__law_small_house) _ [("_law_house", 7)] = true from by decide +kernel)) (fun _ _ _ _ _ => (g_name 7 sc__law_small_house.nd)) (fun _ _ _ _ _ => ts_nil) (fun _ _ _ _ _ => (e_and (e_cmp le_data (e_val (o_call G__law_count (hr.mono (by decide : 2 ≤ 2)) takes0 (a_cons (e_var 5) (a_cons (e_var 7) a_nil)) (hnm := (aCons_len (aCons_len aNil_len))))) e_int) (e_one (e_cmp le_data (e_op mul_data (e_callB len_data B.b_len (a_cons (e_var 5) a_nil)) (e_callB len_data B.b_len (a_cons (e_var 7) a_nil))) e_int)))) sc__law_small_house.nd)) a_nil)) sc__law_small_house.nd)
  (ss_one (s_if (t_tru (e_var 6))
  (ss_one (s_set (i := 2) (e_var 5) sc__law_small_house.nd))
  ss_nil))))) (passes_of rfl))
  (ss_one (s_ret (o_val (e_var 2))))))
abbrev s_plus : Stmt := topS 15
abbrev N_plus : List Str := ["house", "a", "b", "at"]
theorem sc_plus : FnScope N_plus ["house", "a", "b"] (defScope s_plus) := ⟨rfl, rfl, rfl, by decide +kernel, rfl, by decide +kernel, by decide +kernel⟩
noncomputable def b_plus : M Fl := (sSeq (sDropO (cCall m_need_things (aCons (getS 0) (aCons (frzM (oLst (aCons (getS 1) (aCons (getS 2) aNil)))) aNil))))
  (sRet (cCall m_by_rounds (aCons (getS 0) (aCons (frzM (oComp (iBy rng1 (aCons (nry (one lenD) (aCons (getS 0) aNil)) aNil)) [3] (gN 3) yes (bin addD (bin ixD (getS 1) (getS 3)) (bin ixD (getS 2) (getS 3))))) aNil)))))
noncomputable def m_plus : List Sl → Re RV := fnOf 4 b_plus
theorem ok_plus {f : Addr} {fd : FuncData} (Fu : FnP K "plus" s_plus f fd) (B : Bz K w mg) (NS : SeerK P base) (G_need_things : Fn P w K mg base 3 "need_things" 2 m_need_things) (G_by_rounds : Fn P w K mg base 1 "by_rounds" 2 m_by_rounds) : FnG P w K mg base 4 f fd ["house", "a", "b"] (spG K mg 3 m_plus) :=
  mk_fn Fu sc_plus fun cdv A outer s H E hr =>
  (ss_cons (s_exprO (o_call G_need_things (hr.mono (by decide : 3 ≤ 3)) (takes_of rfl rfl rfl rfl) (a_cons (e_var 0) (a_cons (e_val (o_lst (a_cons (e_var 1) (a_cons (e_var 2) a_nil)))) a_nil)) (hnm := (aCons_len (aCons_len aNil_len)))))
  (ss_one (s_ret (o_call G_by_rounds (hr.mono (by decide : 1 ≤ 3)) (takes_of rfl rfl rfl rfl) (a_cons (e_var 0) (a_cons (e_val (o_lc (own := [("at", 3)]) (i_rng1 (a_cons (e_callB len_data B.b_len (a_cons (e_var 0) a_nil)) a_nil) B.b_range) (blkOk_by (show blkC N_plus (defScope s_plus) _ [("at", 3)] = true from by decide +kernel)) (fun _ _ _ _ _ => (g_name 3 sc_plus.nd)) (fun _ _ _ _ _ => ts_nil) (fun _ _ _ _ _ => (e_op add_data (e_ix ix_data (e_var 1) (e_var 3)) (e_ix ix_data (e_var 2) (e_var 3)))) sc_plus.nd)) a_nil)) (hnm := (aCons_len (aCons_len aNil_len)))))))
abbrev s_minus : Stmt := topS 16
abbrev N_minus : List Str := ["house", "a", "b", "at"]
theorem sc_minus : FnScope N_minus ["house", "a", "b"] (defScope s_minus) := ⟨rfl, rfl, rfl, by decide +kernel, rfl, by decide +kernel, by decide +kernel⟩
noncomputable def b_minus : M Fl := (sSeq (sDropO (cCall m_need_things (aCons (getS 0) (aCons (frzM (oLst (aCons (getS 1) (aCons (getS 2) aNil)))) aNil))))
  (sRet (cCall m_by_rounds (aCons (getS 0) (aCons (frzM (oComp (iBy rng1 (aCons (nry (one lenD) (aCons (getS 0) aNil)) aNil)) [3] (gN 3) yes (bin subD (bin ixD (getS 1) (getS 3)) (bin ixD (getS 2) (getS 3))))) aNil)))))
noncomputable def m_minus : List Sl → Re RV := fnOf 4 b_minus
theorem ok_minus {f : Addr} {fd : FuncData} (Fu : FnP K "minus" s_minus f fd) (B : Bz K w mg) (NS : SeerK P base) (G_need_things : Fn P w K mg base 3 "need_things" 2 m_need_things) (G_by_rounds : Fn P w K mg base 1 "by_rounds" 2 m_by_rounds) : FnG P w K mg base 4 f fd ["house", "a", "b"] (spG K mg 3 m_minus) :=
  mk_fn Fu sc_minus fun cdv A outer s H E hr =>
  (ss_cons (s_exprO (o_call G_need_things (hr.mono (by decide : 3 ≤ 3)) (takes_of rfl rfl rfl rfl) (a_cons (e_var 0) (a_cons (e_val (o_lst (a_cons (e_var 1) (a_cons (e_var 2) a_nil)))) a_nil)) (hnm := (aCons_len (aCons_len aNil_len)))))
  (ss_one (s_ret (o_call G_by_rounds (hr.mono (by decide : 1 ≤ 3)) (takes_of rfl rfl rfl rfl) (a_cons (e_var 0) (a_cons (e_val (o_lc (own := [("at", 3)]) (i_rng1 (a_cons (e_callB len_data B.b_len (a_cons (e_var 0) a_nil)) a_nil) B.b_range) (blkOk_by (show blkC N_minus (defScope s_minus) _ [("at", 3)] = true from by decide +kernel)) (fun _ _ _ _ _ => (g_name 3 sc_minus.nd)) (fun _ _ _ _ _ => ts_nil) (fun _ _ _ _ _ => (e_op sub_data (e_ix ix_data (e_var 1) (e_var 3)) (e_ix ix_data (e_var 2) (e_var 3)))) sc_minus.nd)) a_nil)) (hnm := (aCons_len (aCons_len aNil_len)))))))
abbrev s_times : Stmt := topS 17
abbrev N_times : List Str := ["house", "many", "a", "one"]
theorem sc_times : FnScope N_times ["house", "many", "a"] (defScope s_times) := ⟨rfl, rfl, rfl, by decide +kernel, rfl, by decide +kernel, by decide +kernel⟩
noncomputable def b_times : M Fl := (sSeq (sDropO (cCall m_need_things (aCons (getS 0) (aCons (frzM (oLst (aCons (getS 2) aNil))) aNil))))
  (sRet (cCall m_by_rounds (aCons (getS 0) (aCons (frzM (oComp (iSeq (getS 2)) [3] (gN 3) yes (bin mulD (getS 1) (getS 3)))) aNil)))))
noncomputable def m_times : List Sl → Re RV := fnOf 4 b_times
theorem ok_times {f : Addr} {fd : FuncData} (Fu : FnP K "times" s_times f fd) (B : Bz K w mg) (NS : SeerK P base) (G_need_things : Fn P w K mg base 3 "need_things" 2 m_need_things) (G_by_rounds : Fn P w K mg base 1 "by_rounds" 2 m_by_rounds) : FnG P w K mg base 4 f fd ["house", "many", "a"] (spG K mg 3 m_times) :=
  mk_fn Fu sc_times fun cdv A outer s H E hr =>
  (ss_cons (s_exprO (o_call G_need_things (hr.mono (by decide : 3 ≤ 3)) (takes_of rfl rfl rfl rfl) (a_cons (e_var 0) (a_cons (e_val (o_lst (a_cons (e_var 2) a_nil))) a_nil)) (hnm := (aCons_len (aCons_len aNil_len)))))
  (ss_one (s_ret (o_call G_by_rounds (hr.mono (by decide : 1 ≤ 3)) (takes_of rfl rfl rfl rfl) (a_cons (e_var 0) (a_cons (e_val (o_lc (own := [("one", 3)]) (i_seq (e_var 2)) (blkOk_by (show blkC N_times (defScope s_times) _ [("one", 3)] = true from by decide +kernel)) (fun _ _ _ _ _ => (g_name 3 sc_times.nd)) (fun _ _ _ _ _ => ts_nil) (fun _ _ _ _ _ => (e_op mul_data (e_var 1) (e_var 3))) sc_times.nd)) a_nil)) (hnm := (aCons_len (aCons_len aNil_len)))))))
abbrev s_way_of : Stmt := topS 24
abbrev N_way_of : List Str := ["one", "other", "a", "images", "at", "here", "numbers", "shares", "there", "place", "number"]
theorem sc_way_of : FnScope N_way_of ["one", "other", "a"] (defScope s_way_of) := ⟨rfl, rfl, rfl, by decide +kernel, rfl, by decide +kernel, by decide +kernel⟩
noncomputable def b_way_of : M Fl := (sSeq (sDropO (cCall m_need_things (aCons (frzM (cCall m_ways_house (aCons (getS 0) (aCons (getS 1) aNil)))) (aCons (frzM (oLst (aCons (getS 2) aNil))) aNil))))
  (sSeq (sSetO 3 (oLst aNil))
  (sSeq (sFor (iBy enOf (aCons (getS 0) aNil)) (gT (gCn (gN 4) (gCn (gN 5) gNl)))
  (sSeq (sSet 6 (eSl (getS 2) (pSome (bin mulD (getS 4) (nry (one lenD) (aCons (getS 1) aNil)))) (pSome (bin mulD (bin addD (getS 4) (M.ret (.int 1))) (nry (one lenD) (aCons (getS 1) aNil))))))
  (sSeq (sSet 7 (frzM (oComp (iSeq (getS 1)) [8] (gN 8) yes (bin fdivD (getS 8) (frzM (cCall m_common_measure (aCons (getS 5) (aCons (getS 8) aNil))))))))
  (sAppend 3 (nry (one tupD) (aCons (frzM (oComp (iBy enOf (aCons (getS 6) aNil)) [9, 10] (gT (gCn (gN 9) (gCn (gN 10) gNl))) yes (bin mulD (getS 10) (bin ixD (getS 7) (getS 9))))) aNil))))))
  (sRet ((eTup (aCons (getS 0) (aCons (getS 1) (aCons (eTupS 3) aNil)))).bind fun d => M.ret (.v d))))))
noncomputable def m_way_of : List Sl → Re RV := fnOf 11 b_way_of
theorem ok_way_of {f : Addr} {fd : FuncData} (Fu : FnP K "way_of" s_way_of f fd) (B : Bz K w mg) (NS : SeerK P base) (G_need_things : Fn P w K mg base 3 "need_things" 2 m_need_things) (G_ways_house : Fn P w K mg base 2 "ways_house" 2 m_ways_house) (G_common_measure : Fn P w K mg base 1 "common_measure" 2 m_common_measure) : FnG P w K mg base 4 f fd ["one", "other", "a"] (spG K mg 3 m_way_of) :=
  mk_fn Fu sc_way_of fun cdv A outer s H E hr =>
  (ss_cons (s_exprO (o_call G_need_things (hr.mono (by decide : 3 ≤ 3)) (takes_of rfl rfl rfl rfl) (a_cons (e_val (o_call G_ways_house (hr.mono (by decide : 2 ≤ 3)) (takes_of rfl rfl rfl rfl) (a_cons (e_var 0) (a_cons (e_var 1) a_nil)) (hnm := (aCons_len (aCons_len aNil_len))))) (a_cons (e_val (o_lst (a_cons (e_var 2) a_nil))) a_nil)) (hnm := (aCons_len (aCons_len aNil_len)))))
  (ss_cons (s_setO (i := 3) (o_lst a_nil) sc_way_of.nd)
  (ss_cons (s_for (i_enum (a_cons (e_var 0) a_nil) B.b_enumerate) (g_tup (g_cons (g_name 4 sc_way_of.nd) (g_cons (g_name 5 sc_way_of.nd) g_nil)) (gCn_len (gCn_len gNl_len)))
  (ss_cons (s_set (i := 6) (e_sl (e_var 2) (p_some (e_op mul_data (e_var 4) (e_callB len_data B.b_len (a_cons (e_var 1) a_nil)))) (p_some (e_op mul_data (e_op add_data (e_var 4) e_int) (e_callB len_data B.b_len (a_cons (e_var 1) a_nil))))) sc_way_of.nd)
  (ss_cons (s_set (i := 7) (e_val (o_lc (own := [("there", 8)]) (i_seq (e_var 1)) (blkOk_by (show blkC N_way_of (defScope s_way_of) _ [("there", 8)] = true from by decide +kernel)) (fun _ _ _ _ _ => (g_name 8 sc_way_of.nd)) (fun _ _ _ _ _ => ts_nil) (fun _ _ _ _ _ => (e_op fdiv_data (e_var 8) (e_val (o_call G_common_measure (hr.mono (by decide : 1 ≤ 3)) takes0 (a_cons (e_var 5) (a_cons (e_var 8) a_nil)) (hnm := (aCons_len (aCons_len aNil_len))))))) sc_way_of.nd)) sc_way_of.nd)
  (ss_one (s_append 3 (e_callT tup_data B.b_tuple (a_cons (e_val (o_lc (own := [("place", 9), ("number", 10)]) (i_enum (a_cons (e_var 6) a_nil) B.b_enumerate) (blkOk_by (show blkC N_way_of (defScope s_way_of) _ [("place", 9), ("number", 10)] = true from by decide +kernel)) (fun _ _ _ _ _ => (g_tup (g_cons (g_name 9 sc_way_of.nd) (g_cons (g_name 10 sc_way_of.nd) g_nil)) (gCn_len (gCn_len gNl_len)))) (fun _ _ _ _ _ => ts_nil) (fun _ _ _ _ _ => (e_op mul_data (e_var 10) (e_ix ix_data (e_var 7) (e_var 9)))) sc_way_of.nd)) a_nil)))))) (passes_of rfl))
  (ss_one (s_ret (o_val (e_tup (a_cons (e_var 0) (a_cons (e_var 1) (a_cons (e_tupS 3 B.b_tuple) a_nil))))))))))
abbrev s_then : Stmt := topS 33
abbrev N_then : List Str := ["first", "second", "image"]
theorem sc_then : FnScope N_then ["first", "second"] (defScope s_then) := ⟨rfl, rfl, rfl, by decide +kernel, rfl, by decide +kernel, by decide +kernel⟩
noncomputable def b_then : M Fl := (sSeq (sIf (tBool (bin neD (bin ixD (getS 0) (M.ret (.int 1))) (bin ixD (getS 1) (M.ret (.int 0)))))
  sNever
  sNil)
  (sRet ((eTup (aCons (bin ixD (getS 0) (M.ret (.int 0))) (aCons (bin ixD (getS 1) (M.ret (.int 1))) (aCons (nry (one tupD) (aCons (frzM (oComp (iSeq (bin ixD (getS 0) (M.ret (.int 2)))) [2] (gN 2) yes (frzM (cCall m_led (aCons (getS 1) (aCons (getS 2) aNil)))))) aNil)) aNil)))).bind fun d => M.ret (.v d))))
noncomputable def m_then : List Sl → Re RV := fnOf 3 b_then
theorem ok_then {f : Addr} {fd : FuncData} (Fu : FnP K "then" s_then f fd) (B : Bz K w mg) (NS : SeerK P base) (G_led : Fn P w K mg base 3 "led" 2 m_led) : FnG P w K mg base 4 f fd ["first", "second"] (spG K mg 2 m_then) :=
  mk_fn Fu sc_then fun cdv A outer s H E hr =>
  (ss_cons (s_if (t_cmp (ne_data hr.units) (e_ix ix_data (e_var 0) e_int) (e_ix ix_data (e_var 1) e_int))
  (ss_one s_never)
  ss_nil)
  (ss_one (s_ret (o_val (e_tup (a_cons (e_ix ix_data (e_var 0) e_int) (a_cons (e_ix ix_data (e_var 1) e_int) (a_cons (e_callT tup_data B.b_tuple (a_cons (e_val (o_lc (own := [("image", 2)]) (i_seq (e_ix ix_data (e_var 0) e_int)) (blkOk_by (show blkC N_then (defScope s_then) _ [("image", 2)] = true from by decide +kernel)) (fun _ _ _ _ _ => (g_name 2 sc_then.nd)) (fun _ _ _ _ _ => ts_nil) (fun _ _ _ _ _ => (e_val (o_call G_led (hr.mono (by decide : 3 ≤ 3)) takes0 (a_cons (e_var 1) (a_cons (e_var 2) a_nil)) (hnm := (aCons_len (aCons_len aNil_len)))))) sc_then.nd)) a_nil)) a_nil))))))))
abbrev s_is_way : Stmt := topS 27
abbrev N_is_way : List Str := ["thing", "one", "other", "images", "at", "image"]
theorem sc_is_way : FnScope N_is_way ["thing"] (defScope s_is_way) := ⟨rfl, rfl, rfl, by decide +kernel, rfl, by decide +kernel, by decide +kernel⟩
noncomputable def b_is_way : M Fl := (sSeq (sIf (tOrM (tNotM (tTru (una (isiD "tuple") (getS 0)))) (tBool (bin neD (nry (one lenD) (aCons (getS 0) aNil)) (M.ret (.int 3)))))
  (sRet ((M.ret (.bool false)).bind fun d => M.ret (.v d)))
  sNil)
  (sSeq (sAsg (gT (gCn (gN 1) (gCn (gN 2) (gCn (gN 3) gNl)))) (getS 0))
  (sSeq (sIf (tOrM (tNotM (tTru (frzM (cCall m_is_house (aCons (getS 1) aNil))))) (tNotM (tTru (frzM (cCall m_is_house (aCons (getS 2) aNil))))))
  (sRet ((M.ret (.bool false)).bind fun d => M.ret (.v d)))
  sNil)
  (sSeq (sIf (tOrM (tNotM (tTru (una (isiD "tuple") (getS 3)))) (tBool (bin neD (nry (one lenD) (aCons (getS 3) aNil)) (nry (one lenD) (aCons (getS 1) aNil)))))
  (sRet ((M.ret (.bool false)).bind fun d => M.ret (.v d)))
  sNil)
  (sSeq (sFor (iBy enOf (aCons (getS 3) aNil)) (gT (gCn (gN 4) (gCn (gN 5) gNl)))
  (sIf (tOrM (tNotM (tTru (frzM (cCall m_is_thing (aCons (getS 2) (aCons (getS 5) aNil)))))) (tBool (bin neD (frzM (cCall m_times (aCons (getS 2) (aCons (bin ixD (getS 1) (getS 4)) (aCons (getS 5) aNil))))) (frzM (cCall m_nought (aCons (getS 2) aNil))))))
  (sRet ((M.ret (.bool false)).bind fun d => M.ret (.v d)))
  sNil))
  (sRet ((M.ret (.bool true)).bind fun d => M.ret (.v d))))))))
noncomputable def m_is_way : List Sl → Re RV := fnOf 6 b_is_way
theorem ok_is_way {f : Addr} {fd : FuncData} (Fu : FnP K "is_way" s_is_way f fd) (B : Bz K w mg) (NS : SeerK P base) (G_is_house : Fn P w K mg base 2 "is_house" 1 m_is_house) (G_is_thing : Fn P w K mg base 2 "is_thing" 2 m_is_thing) (G_times : Fn P w K mg base 4 "times" 3 m_times) (G_nought : Fn P w K mg base 1 "nought" 1 m_nought) : FnG P w K mg base 5 f fd ["thing"] (spG K mg 1 m_is_way) :=
  mk_fn Fu sc_is_way fun cdv A outer s H E hr =>
  (ss_cons (s_if (PW.pt (w_or (t_not (t_tru (e_isi (T := "tuple") (e_var 0) B.b_isinstance B.b_tuple))) (w_or1 (t_cmp (ne_data hr.units) (e_callB len_data B.b_len (a_cons (e_var 0) a_nil)) e_int))))
  (ss_one (s_ret (o_val e_bl)))
  ss_nil)
  (ss_cons (s_asg (e_var 0) (g_tup (g_cons (g_name 1 sc_is_way.nd) (g_cons (g_name 2 sc_is_way.nd) (g_cons (g_name 3 sc_is_way.nd) g_nil))) (gCn_len (gCn_len (gCn_len gNl_len)))))
  (ss_cons (s_if (PW.pt (w_or (t_not (t_tru (e_val (o_call G_is_house (hr.mono (by decide : 2 ≤ 4)) (takes_of rfl rfl rfl rfl) (a_cons (e_var 1) a_nil) (hnm := (aCons_len aNil_len)))))) (w_or1 (t_not (t_tru (e_val (o_call G_is_house (hr.mono (by decide : 2 ≤ 4)) (takes_of rfl rfl rfl rfl) (a_cons (e_var 2) a_nil) (hnm := (aCons_len aNil_len)))))))))
  (ss_one (s_ret (o_val e_bl)))
  ss_nil)
  (ss_cons (s_if (PW.pt (w_or (t_not (t_tru (e_isi (T := "tuple") (e_var 3) B.b_isinstance B.b_tuple))) (w_or1 (t_cmp (ne_data hr.units) (e_callB len_data B.b_len (a_cons (e_var 3) a_nil)) (e_callB len_data B.b_len (a_cons (e_var 1) a_nil))))))
  (ss_one (s_ret (o_val e_bl)))
  ss_nil)
  (ss_cons (s_for (i_enum (a_cons (e_var 3) a_nil) B.b_enumerate) (g_tup (g_cons (g_name 4 sc_is_way.nd) (g_cons (g_name 5 sc_is_way.nd) g_nil)) (gCn_len (gCn_len gNl_len)))
  (ss_one (s_if (PW.pt (w_or (t_not (t_tru (e_val (o_call G_is_thing (hr.mono (by decide : 2 ≤ 4)) (takes_of rfl rfl rfl rfl) (a_cons (e_var 2) (a_cons (e_var 5) a_nil)) (hnm := (aCons_len (aCons_len aNil_len))))))) (w_or1 (t_cmp (ne_data hr.units) (e_val (o_call G_times (hr.mono (by decide : 4 ≤ 4)) (takes_of rfl rfl rfl rfl) (a_cons (e_var 2) (a_cons (e_ix ix_data (e_var 1) (e_var 4)) (a_cons (e_var 5) a_nil))) (hnm := (aCons_len (aCons_len (aCons_len aNil_len)))))) (e_val (o_call G_nought (hr.mono (by decide : 1 ≤ 4)) (takes_of rfl rfl rfl rfl) (a_cons (e_var 2) a_nil) (hnm := (aCons_len aNil_len))))))))
  (ss_one (s_ret (o_val e_bl)))
  ss_nil)) (passes_of rfl))
  (ss_one (s_ret (o_val e_bl))))))))
abbrev s_plus_ways : Stmt := topS 35
abbrev N_plus_ways : List Str := ["first", "second", "images", "at", "image"]
theorem sc_plus_ways : FnScope N_plus_ways ["first", "second"] (defScope s_plus_ways) := ⟨rfl, rfl, rfl, by decide +kernel, rfl, by decide +kernel, by decide +kernel⟩
noncomputable def b_plus_ways : M Fl := (sSeq (sDropO (cCall m_need_alike (aCons (getS 0) (aCons (getS 1) aNil))))
  (sSeq (sSet 2 (frzM (oComp (iBy enOf (aCons (bin ixD (getS 0) (M.ret (.int 2))) aNil)) [3, 4] (gT (gCn (gN 3) (gCn (gN 4) gNl))) yes (frzM (cCall m_plus (aCons (bin ixD (getS 0) (M.ret (.int 1))) (aCons (getS 4) (aCons (bin ixD (bin ixD (getS 1) (M.ret (.int 2))) (getS 3)) aNil))))))))
  (sRet ((eTup (aCons (bin ixD (getS 0) (M.ret (.int 0))) (aCons (bin ixD (getS 0) (M.ret (.int 1))) (aCons (nry (one tupD) (aCons (getS 2) aNil)) aNil)))).bind fun d => M.ret (.v d)))))
noncomputable def m_plus_ways : List Sl → Re RV := fnOf 5 b_plus_ways
theorem ok_plus_ways {f : Addr} {fd : FuncData} (Fu : FnP K "plus_ways" s_plus_ways f fd) (B : Bz K w mg) (NS : SeerK P base) (G_need_alike : Fn P w K mg base 1 "need_alike" 2 m_need_alike) (G_plus : Fn P w K mg base 4 "plus" 3 m_plus) : FnG P w K mg base 5 f fd ["first", "second"] (spG K mg 2 m_plus_ways) :=
  mk_fn Fu sc_plus_ways fun cdv A outer s H E hr =>
  (ss_cons (s_exprO (o_call G_need_alike (hr.mono (by decide : 1 ≤ 4)) (takes_of rfl rfl rfl rfl) (a_cons (e_var 0) (a_cons (e_var 1) a_nil)) (hnm := (aCons_len (aCons_len aNil_len)))))
  (ss_cons (s_setLcV (i := 2) (own := [("at", 3), ("image", 4)]) (i_enum (a_cons (e_ix ix_data (e_var 0) e_int) a_nil) B.b_enumerate) (blkOk_by (show blkC N_plus_ways (defScope s_plus_ways) _ [("at", 3), ("image", 4)] = true from by decide +kernel)) (fun _ _ _ _ _ => (g_tup (g_cons (g_name 3 sc_plus_ways.nd) (g_cons (g_name 4 sc_plus_ways.nd) g_nil)) (gCn_len (gCn_len gNl_len)))) (fun _ _ _ _ _ => ts_nil) (fun _ _ _ _ _ => (e_val (o_call G_plus (hr.mono (by decide : 4 ≤ 4)) takes0 (a_cons (e_ix ix_data (e_var 0) e_int) (a_cons (e_var 4) (a_cons (e_ix ix_data (e_ix ix_data (e_var 1) e_int) (e_var 3)) a_nil))) (hnm := (aCons_len (aCons_len (aCons_len aNil_len))))))) sc_plus_ways.nd)
  (ss_one (s_ret (o_val (e_tup (a_cons (e_ix ix_data (e_var 0) e_int) (a_cons (e_ix ix_data (e_var 0) e_int) (a_cons (e_callT tup_data B.b_tuple (a_cons (e_var 2) a_nil)) a_nil)))))))))
abbrev s_minus_ways : Stmt := topS 36
abbrev N_minus_ways : List Str := ["first", "second", "images", "at", "image"]
theorem sc_minus_ways : FnScope N_minus_ways ["first", "second"] (defScope s_minus_ways) := ⟨rfl, rfl, rfl, by decide +kernel, rfl, by decide +kernel, by decide +kernel⟩
noncomputable def b_minus_ways : M Fl := (sSeq (sDropO (cCall m_need_alike (aCons (getS 0) (aCons (getS 1) aNil))))
  (sSeq (sSet 2 (frzM (oComp (iBy enOf (aCons (bin ixD (getS 0) (M.ret (.int 2))) aNil)) [3, 4] (gT (gCn (gN 3) (gCn (gN 4) gNl))) yes (frzM (cCall m_minus (aCons (bin ixD (getS 0) (M.ret (.int 1))) (aCons (getS 4) (aCons (bin ixD (bin ixD (getS 1) (M.ret (.int 2))) (getS 3)) aNil))))))))
  (sRet ((eTup (aCons (bin ixD (getS 0) (M.ret (.int 0))) (aCons (bin ixD (getS 0) (M.ret (.int 1))) (aCons (nry (one tupD) (aCons (getS 2) aNil)) aNil)))).bind fun d => M.ret (.v d)))))
noncomputable def m_minus_ways : List Sl → Re RV := fnOf 5 b_minus_ways
theorem ok_minus_ways {f : Addr} {fd : FuncData} (Fu : FnP K "minus_ways" s_minus_ways f fd) (B : Bz K w mg) (NS : SeerK P base) (G_need_alike : Fn P w K mg base 1 "need_alike" 2 m_need_alike) (G_minus : Fn P w K mg base 4 "minus" 3 m_minus) : FnG P w K mg base 5 f fd ["first", "second"] (spG K mg 2 m_minus_ways) :=
  mk_fn Fu sc_minus_ways fun cdv A outer s H E hr =>
  (ss_cons (s_exprO (o_call G_need_alike (hr.mono (by decide : 1 ≤ 4)) (takes_of rfl rfl rfl rfl) (a_cons (e_var 0) (a_cons (e_var 1) a_nil)) (hnm := (aCons_len (aCons_len aNil_len)))))
  (ss_cons (s_setLcV (i := 2) (own := [("at", 3), ("image", 4)]) (i_enum (a_cons (e_ix ix_data (e_var 0) e_int) a_nil) B.b_enumerate) (blkOk_by (show blkC N_minus_ways (defScope s_minus_ways) _ [("at", 3), ("image", 4)] = true from by decide +kernel)) (fun _ _ _ _ _ => (g_tup (g_cons (g_name 3 sc_minus_ways.nd) (g_cons (g_name 4 sc_minus_ways.nd) g_nil)) (gCn_len (gCn_len gNl_len)))) (fun _ _ _ _ _ => ts_nil) (fun _ _ _ _ _ => (e_val (o_call G_minus (hr.mono (by decide : 4 ≤ 4)) takes0 (a_cons (e_ix ix_data (e_var 0) e_int) (a_cons (e_var 4) (a_cons (e_ix ix_data (e_ix ix_data (e_var 1) e_int) (e_var 3)) a_nil))) (hnm := (aCons_len (aCons_len (aCons_len aNil_len))))))) sc_minus_ways.nd)
  (ss_one (s_ret (o_val (e_tup (a_cons (e_ix ix_data (e_var 0) e_int) (a_cons (e_ix ix_data (e_var 0) e_int) (a_cons (e_callT tup_data B.b_tuple (a_cons (e_var 2) a_nil)) a_nil)))))))))
abbrev s_times_way : Stmt := topS 37
abbrev N_times_way : List Str := ["many", "way", "image"]
theorem sc_times_way : FnScope N_times_way ["many", "way"] (defScope s_times_way) := ⟨rfl, rfl, rfl, by decide +kernel, rfl, by decide +kernel, by decide +kernel⟩
noncomputable def b_times_way : M Fl := (sRet ((eTup (aCons (bin ixD (getS 1) (M.ret (.int 0))) (aCons (bin ixD (getS 1) (M.ret (.int 1))) (aCons (nry (one tupD) (aCons (frzM (oComp (iSeq (bin ixD (getS 1) (M.ret (.int 2)))) [2] (gN 2) yes (frzM (cCall m_times (aCons (bin ixD (getS 1) (M.ret (.int 1))) (aCons (getS 0) (aCons (getS 2) aNil))))))) aNil)) aNil)))).bind fun d => M.ret (.v d)))
noncomputable def m_times_way : List Sl → Re RV := fnOf 3 b_times_way
theorem ok_times_way {f : Addr} {fd : FuncData} (Fu : FnP K "times_way" s_times_way f fd) (B : Bz K w mg) (NS : SeerK P base) (G_times : Fn P w K mg base 4 "times" 3 m_times) : FnG P w K mg base 5 f fd ["many", "way"] (spG K mg 2 m_times_way) :=
  mk_fn Fu sc_times_way fun cdv A outer s H E hr =>
  (ss_one (s_ret (o_val (e_tup (a_cons (e_ix ix_data (e_var 1) e_int) (a_cons (e_ix ix_data (e_var 1) e_int) (a_cons (e_callT tup_data B.b_tuple (a_cons (e_val (o_lc (own := [("image", 2)]) (i_seq (e_ix ix_data (e_var 1) e_int)) (blkOk_by (show blkC N_times_way (defScope s_times_way) _ [("image", 2)] = true from by decide +kernel)) (fun _ _ _ _ _ => (g_name 2 sc_times_way.nd)) (fun _ _ _ _ _ => ts_nil) (fun _ _ _ _ _ => (e_val (o_call G_times (hr.mono (by decide : 4 ≤ 4)) takes0 (a_cons (e_ix ix_data (e_var 1) e_int) (a_cons (e_var 0) (a_cons (e_var 2) a_nil))) (hnm := (aCons_len (aCons_len (aCons_len aNil_len))))))) sc_times_way.nd)) a_nil)) a_nil)))))))
abbrev s__law_all : Stmt := topS 45
abbrev N__law_all : List Str := ["_law_one", "_law_other", "_law_some", "_law_house", "_law_many", "_law_here", "_law_got", "_law_way", "_law_a", "_law_k"]
theorem sc__law_all : FnScope N__law_all ["_law_one", "_law_other"] (defScope s__law_all) := ⟨rfl, rfl, rfl, by decide +kernel, rfl, by decide +kernel, by decide +kernel⟩
noncomputable def b__law_all : M Fl := (sSeq (sSet 2 (frzM (cCall m_ways (aCons (getS 0) (aCons (getS 1) aNil)))))
  (sSeq (sSet 3 (frzM (cCall m_ways_house (aCons (getS 0) (aCons (getS 1) aNil)))))
  (sSeq (sSet 4 (M.ret (.int 1)))
  (sSeq (sFor (iSeq (getS 3)) (gN 5)
  (sSet 4 (bin mulD (getS 4) (getS 5))))
  (sSeq (sIf (tOrM (tBool (bin neD (nry (one lenD) (aCons (getS 2) aNil)) (getS 4))) (tOrM (tBool (bin neD (frzM (cCall m_many_ways (aCons (getS 0) (aCons (getS 1) aNil)))) (getS 4))) (tBool (bin neD (una lsetND (getS 2)) (getS 4)))))
  (sRet ((M.ret .none).bind fun d => M.ret (.v d)))
  sNil)
  (sSeq (sSet 6 (frzM (oComp (iSeq (getS 2)) [7] (gN 7) yes (frzM (cCall m_thing_of (aCons (getS 7) aNil))))))
  (sSeq (sIf (tBool (bin neD (una lsetND (getS 6)) (getS 4)))
  (sRet ((M.ret .none).bind fun d => M.ret (.v d)))
  sNil)
  (sSeq (sFor (iBy zipOf (aCons (getS 2) (aCons (getS 6) aNil))) (gT (gCn (gN 7) (gCn (gN 8) gNl)))
  (sSeq (sIf (tOrM (tBool (bin isntD (frzM (cCall m_is_way (aCons (getS 7) aNil))) (M.ret (.bool true)))) (tBool (bin neD (frzM (cCall m_way_of (aCons (getS 0) (aCons (getS 1) (aCons (getS 8) aNil))))) (getS 7))))
  (sRet ((M.ret .none).bind fun d => M.ret (.v d)))
  sNil)
  (sIf (tBool (bin neD (frzM (oComp (iBy rng1 (aCons (nry (one lenD) (aCons (getS 3) aNil)) aNil)) [9] (gN 9) (tNotM (tBool (eChain leD ltD (M.ret (.int 0)) (bin ixD (getS 8) (getS 9)) (bin ixD (getS 3) (getS 9))))) (getS 9))) (frzM (oLst aNil))))
  (sRet ((M.ret .none).bind fun d => M.ret (.v d)))
  sNil)))
  (sRet ((getS 2).bind fun d => M.ret (.v d)))))))))))
noncomputable def m__law_all : List Sl → Re RV := fnOf 10 b__law_all
theorem ok__law_all {f : Addr} {fd : FuncData} (Fu : FnP K "_law_all" s__law_all f fd) (B : Bz K w mg) (NS : SeerK P base) (G_ways : Fn P w K mg base 3 "ways" 2 m_ways) (G_ways_house : Fn P w K mg base 2 "ways_house" 2 m_ways_house) (G_many_ways : Fn P w K mg base 2 "many_ways" 2 m_many_ways) (G_thing_of : Fn P w K mg base 2 "thing_of" 1 m_thing_of) (G_is_way : Fn P w K mg base 5 "is_way" 1 m_is_way) (G_way_of : Fn P w K mg base 4 "way_of" 3 m_way_of) : FnG P w K mg base 6 f fd ["_law_one", "_law_other"] (spG K mg 2 m__law_all) :=
  mk_fn Fu sc__law_all fun cdv A outer s H E hr =>
  (ss_cons (s_set (i := 2) (e_val (o_call G_ways (hr.mono (by decide : 3 ≤ 5)) (takes_of rfl rfl rfl rfl) (a_cons (e_var 0) (a_cons (e_var 1) a_nil)) (hnm := (aCons_len (aCons_len aNil_len))))) sc__law_all.nd)
  (ss_cons (s_set (i := 3) (e_val (o_call G_ways_house (hr.mono (by decide : 2 ≤ 5)) (takes_of rfl rfl rfl rfl) (a_cons (e_var 0) (a_cons (e_var 1) a_nil)) (hnm := (aCons_len (aCons_len aNil_len))))) sc__law_all.nd)
  (ss_cons (s_set (i := 4) e_int sc__law_all.nd)
  (ss_cons (s_for (i_seq (e_var 3)) (g_name 5 sc__law_all.nd)
  (ss_one (s_set (i := 4) (e_op mul_data (e_var 4) (e_var 5)) sc__law_all.nd)) (passes_of rfl))
  (ss_cons (s_if (PW.pt (w_or (t_cmp (ne_data hr.units) (e_callB len_data B.b_len (a_cons (e_var 2) a_nil)) (e_var 4)) (w_or (t_cmp (ne_data hr.units) (e_val (o_call G_many_ways (hr.mono (by decide : 2 ≤ 5)) (takes_of rfl rfl rfl rfl) (a_cons (e_var 0) (a_cons (e_var 1) a_nil)) (hnm := (aCons_len (aCons_len aNil_len))))) (e_var 4)) (w_or1 (t_cmp (ne_data hr.units) (e_lsetN B.b_len B.b_set (e_var 2) hr.units) (e_var 4))))))
  (ss_one (s_ret (o_val e_non)))
  ss_nil)
  (ss_cons (s_setLcV (i := 6) (own := [("_law_way", 7)]) (i_seq (e_var 2)) (blkOk_by (show blkC N__law_all (defScope s__law_all) _ [("_law_way", 7)] = true from by decide +kernel)) (fun _ _ _ _ _ => (g_name 7 sc__law_all.nd)) (fun _ _ _ _ _ => ts_nil) (fun _ _ _ _ _ => (e_val (o_call G_thing_of (hr.mono (by decide : 2 ≤ 5)) takes0 (a_cons (e_var 7) a_nil) (hnm := (aCons_len aNil_len))))) sc__law_all.nd)
  (ss_cons (s_if (t_cmp (ne_data hr.units) (e_lsetN B.b_len B.b_set (e_var 6) hr.units) (e_var 4))
  (ss_one (s_ret (o_val e_non)))
  ss_nil)
  (ss_cons (s_for (i_zip (a_cons (e_var 2) (a_cons (e_var 6) a_nil)) B.b_zip) (g_tup (g_cons (g_name 7 sc__law_all.nd) (g_cons (g_name 8 sc__law_all.nd) g_nil)) (gCn_len (gCn_len gNl_len)))
  (ss_cons (s_if (PW.pt (w_or (t_cmp isnt_data (e_val (o_call G_is_way (hr.mono (by decide : 5 ≤ 5)) (takes_of rfl rfl rfl rfl) (a_cons (e_var 7) a_nil) (hnm := (aCons_len aNil_len)))) e_bl) (w_or1 (t_cmp (ne_data hr.units) (e_val (o_call G_way_of (hr.mono (by decide : 4 ≤ 5)) (takes_of rfl rfl rfl rfl) (a_cons (e_var 0) (a_cons (e_var 1) (a_cons (e_var 8) a_nil))) (hnm := (aCons_len (aCons_len (aCons_len aNil_len)))))) (e_var 7)))))
  (ss_one (s_ret (o_val e_non)))
  ss_nil)
  (ss_one (s_if (t_cmp (ne_data hr.units) (e_val (o_lc (own := [("_law_k", 9)]) (i_rng1 (a_cons (e_callB len_data B.b_len (a_cons (e_var 3) a_nil)) a_nil) B.b_range) (blkOk_by (show blkC N__law_all (defScope s__law_all) _ [("_law_k", 9)] = true from by decide +kernel)) (fun _ _ _ _ _ => (g_name 9 sc__law_all.nd)) (fun _ _ _ _ _ => (ts_one (t_not (t_chain le_data lt_data e_int (e_ix ix_data (e_var 8) (e_var 9)) (e_ix ix_data (e_var 3) (e_var 9)))))) (fun _ _ _ _ _ => (e_var 9)) sc__law_all.nd)) (e_val (o_lst a_nil)))
  (ss_one (s_ret (o_val e_non)))
  ss_nil))) (passes_of rfl))
  (ss_one (s_ret (o_val (e_var 2))))))))))))
abbrev s__law_sums_right : Stmt := topS 46
abbrev N__law_sums_right : List Str := ["_law_pen_here", "_law_some", "_law_first", "_law_second", "_law_one", "_law_other", "_law_images", "_law_house", "_law_a", "_law_b", "_law_due", "_law_added", "_law_k"]
theorem sc__law_sums_right : FnScope N__law_sums_right ["_law_pen_here", "_law_some"] (defScope s__law_sums_right) := ⟨rfl, rfl, rfl, by decide +kernel, rfl, by decide +kernel, by decide +kernel⟩
noncomputable def b__law_sums_right : M Fl := (sSeq (sSet 2 (bin ixD (getS 1) (frzM (cCallI 0 m__law_draw (aCons (nry (one lenD) (aCons (getS 1) aNil)) aNil)))))
  (sSeq (sSet 3 (bin ixD (getS 1) (frzM (cCallI 0 m__law_draw (aCons (nry (one lenD) (aCons (getS 1) aNil)) aNil)))))
  (sSeq (sAsg (gT (gCn (gN 4) (gCn (gN 5) (gCn (gN 6) gNl)))) (getS 2))
  (sSeq (sSet 7 (frzM (cCall m_ways_house (aCons (getS 4) (aCons (getS 5) aNil)))))
  (sSeq (sSet 8 (frzM (cCall m_thing_of (aCons (getS 2) aNil))))
  (sSeq (sSet 9 (frzM (cCall m_thing_of (aCons (getS 3) aNil))))
  (sSeq (sSet 10 (frzM (cCall m_way_of (aCons (getS 4) (aCons (getS 5) (aCons (nry (one tupD) (aCons (frzM (oComp (iBy rng1 (aCons (nry (one lenD) (aCons (getS 7) aNil)) aNil)) [12] (gN 12) yes (bin modD (bin addD (bin ixD (getS 8) (getS 12)) (bin ixD (getS 9) (getS 12))) (bin ixD (getS 7) (getS 12))))) aNil)) aNil))))))
  (sSeq (sSet 11 (frzM (cCall m_plus_ways (aCons (getS 2) (aCons (getS 3) aNil)))))
  (sSeq (sIf (tOrM (tBool (bin neD (getS 11) (getS 10))) (tOrM (tBool (bin ninD (getS 11) (getS 1))) (tBool (bin neD (frzM (cCall m_minus_ways (aCons (getS 11) (aCons (getS 3) aNil)))) (getS 2)))))
  (sRet ((M.ret (.bool false)).bind fun d => M.ret (.v d)))
  sNil)
  (sRet ((eAnd (bin eqD (frzM (cCall m_times_way (aCons (M.ret (.int 2)) (aCons (getS 2) aNil)))) (frzM (cCall m_plus_ways (aCons (getS 2) (aCons (getS 2) aNil))))) (bin inD (frzM (cCall m_none_way (aCons (getS 4) (aCons (getS 5) aNil)))) (getS 1))).bind fun d => M.ret (.v d))))))))))))
noncomputable def m__law_sums_right : List Sl → Re RV := fnOf 13 b__law_sums_right
theorem ok__law_sums_right {f : Addr} {fd : FuncData} (Fu : FnP K "_law_sums_right" s__law_sums_right f fd) (B : Bz K w mg) (NS : SeerK P base) (G__law_draw : Fn P w K mg base 1 "_law_draw" 2 m__law_draw) (G_ways_house : Fn P w K mg base 2 "ways_house" 2 m_ways_house) (G_thing_of : Fn P w K mg base 2 "thing_of" 1 m_thing_of) (G_way_of : Fn P w K mg base 4 "way_of" 3 m_way_of) (G_plus_ways : Fn P w K mg base 5 "plus_ways" 2 m_plus_ways) (G_minus_ways : Fn P w K mg base 5 "minus_ways" 2 m_minus_ways) (G_times_way : Fn P w K mg base 5 "times_way" 2 m_times_way) (G_none_way : Fn P w K mg base 2 "none_way" 2 m_none_way) : FnG P w K mg base 6 f fd ["_law_pen_here", "_law_some"] (spG K mg 2 m__law_sums_right) :=
  mk_fn Fu sc__law_sums_right fun cdv A outer s H E hr =>
  (ss_cons (s_set (i := 2) (e_ix ix_data (e_var 1) (e_val (o_callI 0 G__law_draw (hr.mono (by decide : 1 ≤ 5)) (takes_of rfl rfl rfl rfl) (a_cons (e_callB len_data B.b_len (a_cons (e_var 1) a_nil)) a_nil) (fun r ds r' h => congrArg Nat.succ ((aCons_len aNil_len) r ds r' h))))) sc__law_sums_right.nd)
  (ss_cons (s_set (i := 3) (e_ix ix_data (e_var 1) (e_val (o_callI 0 G__law_draw (hr.mono (by decide : 1 ≤ 5)) (takes_of rfl rfl rfl rfl) (a_cons (e_callB len_data B.b_len (a_cons (e_var 1) a_nil)) a_nil) (fun r ds r' h => congrArg Nat.succ ((aCons_len aNil_len) r ds r' h))))) sc__law_sums_right.nd)
  (ss_cons (s_asg (e_var 2) (g_tup (g_cons (g_name 4 sc__law_sums_right.nd) (g_cons (g_name 5 sc__law_sums_right.nd) (g_cons (g_name 6 sc__law_sums_right.nd) g_nil))) (gCn_len (gCn_len (gCn_len gNl_len)))))
  (ss_cons (s_set (i := 7) (e_val (o_call G_ways_house (hr.mono (by decide : 2 ≤ 5)) (takes_of rfl rfl rfl rfl) (a_cons (e_var 4) (a_cons (e_var 5) a_nil)) (hnm := (aCons_len (aCons_len aNil_len))))) sc__law_sums_right.nd)
  (ss_cons (s_set (i := 8) (e_val (o_call G_thing_of (hr.mono (by decide : 2 ≤ 5)) (takes_of rfl rfl rfl rfl) (a_cons (e_var 2) a_nil) (hnm := (aCons_len aNil_len)))) sc__law_sums_right.nd)
  (ss_cons (s_set (i := 9) (e_val (o_call G_thing_of (hr.mono (by decide : 2 ≤ 5)) (takes_of rfl rfl rfl rfl) (a_cons (e_var 3) a_nil) (hnm := (aCons_len aNil_len)))) sc__law_sums_right.nd)
  (ss_cons (s_set (i := 10) (e_val (o_call G_way_of (hr.mono (by decide : 4 ≤ 5)) (takes_of rfl rfl rfl rfl) (a_cons (e_var 4) (a_cons (e_var 5) (a_cons (e_callT tup_data B.b_tuple (a_cons (e_val (o_lc (own := [("_law_k", 12)]) (i_rng1 (a_cons (e_callB len_data B.b_len (a_cons (e_var 7) a_nil)) a_nil) B.b_range) (blkOk_by (show blkC N__law_sums_right (defScope s__law_sums_right) _ [("_law_k", 12)] = true from by decide +kernel)) (fun _ _ _ _ _ => (g_name 12 sc__law_sums_right.nd)) (fun _ _ _ _ _ => ts_nil) (fun _ _ _ _ _ => (e_op mod_data (e_op add_data (e_ix ix_data (e_var 8) (e_var 12)) (e_ix ix_data (e_var 9) (e_var 12))) (e_ix ix_data (e_var 7) (e_var 12)))) sc__law_sums_right.nd)) a_nil)) a_nil))) (hnm := (aCons_len (aCons_len (aCons_len aNil_len)))))) sc__law_sums_right.nd)
  (ss_cons (s_set (i := 11) (e_val (o_call G_plus_ways (hr.mono (by decide : 5 ≤ 5)) (takes_of rfl rfl rfl rfl) (a_cons (e_var 2) (a_cons (e_var 3) a_nil)) (hnm := (aCons_len (aCons_len aNil_len))))) sc__law_sums_right.nd)
  (ss_cons (s_if (PW.pt (w_or (t_cmp (ne_data hr.units) (e_var 11) (e_var 10)) (w_or (t_cmp (nin_data hr.in65) (e_var 11) (e_var 1)) (w_or1 (t_cmp (ne_data hr.units) (e_val (o_call G_minus_ways (hr.mono (by decide : 5 ≤ 5)) (takes_of rfl rfl rfl rfl) (a_cons (e_var 11) (a_cons (e_var 3) a_nil)) (hnm := (aCons_len (aCons_len aNil_len))))) (e_var 2))))))
  (ss_one (s_ret (o_val e_bl)))
  ss_nil)
  (ss_one (s_ret (o_val (e_and (e_cmp (eq_data hr.units) (e_val (o_call G_times_way (hr.mono (by decide : 5 ≤ 5)) (takes_of rfl rfl rfl rfl) (a_cons e_int (a_cons (e_var 2) a_nil)) (hnm := (aCons_len (aCons_len aNil_len))))) (e_val (o_call G_plus_ways (hr.mono (by decide : 5 ≤ 5)) (takes_of rfl rfl rfl rfl) (a_cons (e_var 2) (a_cons (e_var 2) a_nil)) (hnm := (aCons_len (aCons_len aNil_len)))))) (e_one (e_cmp (in_data hr.in65) (e_val (o_call G_none_way (hr.mono (by decide : 2 ≤ 5)) (takes_of rfl rfl rfl rfl) (a_cons (e_var 4) (a_cons (e_var 5) a_nil)) (hnm := (aCons_len (aCons_len aNil_len))))) (e_var 1))))))))))))))))
abbrev s__law_chains_right : Stmt := topS 47
abbrev N__law_chains_right : List Str := ["_law_pen_here", "_law_lists", "_law_drawn", "_law_first", "_law_second", "_law_third", "_law_more", "_law_any_one", "_law_chain", "_law_a", "_law_some"]
theorem sc__law_chains_right : FnScope N__law_chains_right ["_law_pen_here", "_law_lists"] (defScope s__law_chains_right) := ⟨rfl, rfl, rfl, by decide +kernel, rfl, by decide +kernel, by decide +kernel⟩
noncomputable def b__law_chains_right : M Fl := (sSeq (sSet 2 (frzM (oComp (iSeq (getS 1)) [10] (gN 10) yes (bin ixD (getS 10) (frzM (cCallI 0 m__law_draw (aCons (nry (one lenD) (aCons (getS 10) aNil)) aNil)))))))
  (sSeq (sAsg (gT (gCn (gN 3) (gCn (gN 4) (gCn (gN 5) (gCn (gN 6) (gCn (gN 7) gNl)))))) (getS 2))
  (sSeq (sSet 8 (frzM (cCall m_then (aCons (getS 3) (aCons (getS 4) aNil)))))
  (sSeq (sIf (tOrM (tBool (bin neD (frzM (cCall m_then (aCons (getS 8) (aCons (getS 5) aNil)))) (frzM (cCall m_then (aCons (getS 3) (aCons (frzM (cCall m_then (aCons (getS 4) (aCons (getS 5) aNil)))) aNil)))))) (tBool (bin ninD (getS 8) (bin ixD (getS 1) (M.ret (.int 4))))))
  (sRet ((M.ret (.bool false)).bind fun d => M.ret (.v d)))
  sNil)
  (sSeq (sIf (tBool (bin neD (frzM (cCall m_then (aCons (getS 3) (aCons (frzM (cCall m_plus_ways (aCons (getS 4) (aCons (getS 6) aNil)))) aNil)))) (frzM (cCall m_plus_ways (aCons (getS 8) (aCons (frzM (cCall m_then (aCons (getS 3) (aCons (getS 6) aNil)))) aNil))))))
  (sRet ((M.ret (.bool false)).bind fun d => M.ret (.v d)))
  sNil)
  (sSeq (sIf (tOrM (tBool (bin neD (frzM (cCall m_then (aCons (frzM (cCall m_stay (aCons (bin ixD (getS 3) (M.ret (.int 0))) aNil))) (aCons (getS 3) aNil)))) (getS 3))) (tBool (bin neD (frzM (cCall m_then (aCons (getS 3) (aCons (frzM (cCall m_stay (aCons (bin ixD (getS 3) (M.ret (.int 1))) aNil))) aNil)))) (getS 3))))
  (sRet ((M.ret (.bool false)).bind fun d => M.ret (.v d)))
  sNil)
  (sSeq (sSet 9 (frzM (cCallI 0 m__law_thing (aCons (bin ixD (getS 3) (M.ret (.int 0))) aNil))))
  (sRet ((eAnd (bin eqD (frzM (cCall m_led (aCons (getS 8) (aCons (getS 9) aNil)))) (frzM (cCall m_led (aCons (getS 4) (aCons (frzM (cCall m_led (aCons (getS 3) (aCons (getS 9) aNil)))) aNil))))) (bin eqD (frzM (cCall m_led (aCons (getS 7) (aCons (getS 9) aNil)))) (frzM (cCall m_led (aCons (frzM (cCall m_then (aCons (getS 7) (aCons (frzM (cCall m_stay (aCons (bin ixD (getS 7) (M.ret (.int 1))) aNil))) aNil)))) (aCons (getS 9) aNil)))))).bind fun d => M.ret (.v d))))))))))
noncomputable def m__law_chains_right : List Sl → Re RV := fnOf 11 b__law_chains_right
theorem ok__law_chains_right {f : Addr} {fd : FuncData} (Fu : FnP K "_law_chains_right" s__law_chains_right f fd) (B : Bz K w mg) (NS : SeerK P base) (G__law_draw : Fn P w K mg base 1 "_law_draw" 2 m__law_draw) (G_then : Fn P w K mg base 4 "then" 2 m_then) (G_plus_ways : Fn P w K mg base 5 "plus_ways" 2 m_plus_ways) (G_stay : Fn P w K mg base 2 "stay" 1 m_stay) (G__law_thing : Fn P w K mg base 2 "_law_thing" 2 m__law_thing) (G_led : Fn P w K mg base 3 "led" 2 m_led) : FnG P w K mg base 6 f fd ["_law_pen_here", "_law_lists"] (spG K mg 2 m__law_chains_right) :=
  mk_fn Fu sc__law_chains_right fun cdv A outer s H E hr =>
  (ss_cons (s_setLcV (i := 2) (own := [("_law_some", 10)]) (i_seq (e_var 1)) (blkOk_by (show blkC N__law_chains_right (defScope s__law_chains_right) _ [("_law_some", 10)] = true from by decide +kernel)) (fun _ _ _ _ _ => (g_name 10 sc__law_chains_right.nd)) (fun _ _ _ _ _ => ts_nil) (fun _ _ _ _ _ => (e_ix ix_data (e_var 10) (e_val (o_callI 0 G__law_draw (hr.mono (by decide : 1 ≤ 5)) takes0 (a_cons (e_callB len_data B.b_len (a_cons (e_var 10) a_nil)) a_nil) (fun r ds r' h => congrArg Nat.succ ((aCons_len aNil_len) r ds r' h)))))) sc__law_chains_right.nd)
  (ss_cons (s_asg (e_var 2) (g_tup (g_cons (g_name 3 sc__law_chains_right.nd) (g_cons (g_name 4 sc__law_chains_right.nd) (g_cons (g_name 5 sc__law_chains_right.nd) (g_cons (g_name 6 sc__law_chains_right.nd) (g_cons (g_name 7 sc__law_chains_right.nd) g_nil))))) (gCn_len (gCn_len (gCn_len (gCn_len (gCn_len gNl_len)))))))
  (ss_cons (s_set (i := 8) (e_val (o_call G_then (hr.mono (by decide : 4 ≤ 5)) (takes_of rfl rfl rfl rfl) (a_cons (e_var 3) (a_cons (e_var 4) a_nil)) (hnm := (aCons_len (aCons_len aNil_len))))) sc__law_chains_right.nd)
  (ss_cons (s_if (PW.pt (w_or (t_cmp (ne_data hr.units) (e_val (o_call G_then (hr.mono (by decide : 4 ≤ 5)) (takes_of rfl rfl rfl rfl) (a_cons (e_var 8) (a_cons (e_var 5) a_nil)) (hnm := (aCons_len (aCons_len aNil_len))))) (e_val (o_call G_then (hr.mono (by decide : 4 ≤ 5)) (takes_of rfl rfl rfl rfl) (a_cons (e_var 3) (a_cons (e_val (o_call G_then (hr.mono (by decide : 4 ≤ 5)) (takes_of rfl rfl rfl rfl) (a_cons (e_var 4) (a_cons (e_var 5) a_nil)) (hnm := (aCons_len (aCons_len aNil_len))))) a_nil)) (hnm := (aCons_len (aCons_len aNil_len)))))) (w_or1 (t_cmp (nin_data hr.in65) (e_var 8) (e_ix ix_data (e_var 1) e_int)))))
  (ss_one (s_ret (o_val e_bl)))
  ss_nil)
  (ss_cons (s_if (t_cmp (ne_data hr.units) (e_val (o_call G_then (hr.mono (by decide : 4 ≤ 5)) (takes_of rfl rfl rfl rfl) (a_cons (e_var 3) (a_cons (e_val (o_call G_plus_ways (hr.mono (by decide : 5 ≤ 5)) (takes_of rfl rfl rfl rfl) (a_cons (e_var 4) (a_cons (e_var 6) a_nil)) (hnm := (aCons_len (aCons_len aNil_len))))) a_nil)) (hnm := (aCons_len (aCons_len aNil_len))))) (e_val (o_call G_plus_ways (hr.mono (by decide : 5 ≤ 5)) (takes_of rfl rfl rfl rfl) (a_cons (e_var 8) (a_cons (e_val (o_call G_then (hr.mono (by decide : 4 ≤ 5)) (takes_of rfl rfl rfl rfl) (a_cons (e_var 3) (a_cons (e_var 6) a_nil)) (hnm := (aCons_len (aCons_len aNil_len))))) a_nil)) (hnm := (aCons_len (aCons_len aNil_len))))))
  (ss_one (s_ret (o_val e_bl)))
  ss_nil)
  (ss_cons (s_if (PW.pt (w_or (t_cmp (ne_data hr.units) (e_val (o_call G_then (hr.mono (by decide : 4 ≤ 5)) (takes_of rfl rfl rfl rfl) (a_cons (e_val (o_call G_stay (hr.mono (by decide : 2 ≤ 5)) (takes_of rfl rfl rfl rfl) (a_cons (e_ix ix_data (e_var 3) e_int) a_nil) (hnm := (aCons_len aNil_len)))) (a_cons (e_var 3) a_nil)) (hnm := (aCons_len (aCons_len aNil_len))))) (e_var 3)) (w_or1 (t_cmp (ne_data hr.units) (e_val (o_call G_then (hr.mono (by decide : 4 ≤ 5)) (takes_of rfl rfl rfl rfl) (a_cons (e_var 3) (a_cons (e_val (o_call G_stay (hr.mono (by decide : 2 ≤ 5)) (takes_of rfl rfl rfl rfl) (a_cons (e_ix ix_data (e_var 3) e_int) a_nil) (hnm := (aCons_len aNil_len)))) a_nil)) (hnm := (aCons_len (aCons_len aNil_len))))) (e_var 3)))))
  (ss_one (s_ret (o_val e_bl)))
  ss_nil)
  (ss_cons (s_set (i := 9) (e_val (o_callI 0 G__law_thing (hr.mono (by decide : 2 ≤ 5)) (takes_of rfl rfl rfl rfl) (a_cons (e_ix ix_data (e_var 3) e_int) a_nil) (fun r ds r' h => congrArg Nat.succ ((aCons_len aNil_len) r ds r' h)))) sc__law_chains_right.nd)
  (ss_one (s_ret (o_val (e_and (e_cmp (eq_data hr.units) (e_val (o_call G_led (hr.mono (by decide : 3 ≤ 5)) (takes_of rfl rfl rfl rfl) (a_cons (e_var 8) (a_cons (e_var 9) a_nil)) (hnm := (aCons_len (aCons_len aNil_len))))) (e_val (o_call G_led (hr.mono (by decide : 3 ≤ 5)) (takes_of rfl rfl rfl rfl) (a_cons (e_var 4) (a_cons (e_val (o_call G_led (hr.mono (by decide : 3 ≤ 5)) (takes_of rfl rfl rfl rfl) (a_cons (e_var 3) (a_cons (e_var 9) a_nil)) (hnm := (aCons_len (aCons_len aNil_len))))) a_nil)) (hnm := (aCons_len (aCons_len aNil_len)))))) (e_one (e_cmp (eq_data hr.units) (e_val (o_call G_led (hr.mono (by decide : 3 ≤ 5)) (takes_of rfl rfl rfl rfl) (a_cons (e_var 7) (a_cons (e_var 9) a_nil)) (hnm := (aCons_len (aCons_len aNil_len))))) (e_val (o_call G_led (hr.mono (by decide : 3 ≤ 5)) (takes_of rfl rfl rfl rfl) (a_cons (e_val (o_call G_then (hr.mono (by decide : 4 ≤ 5)) (takes_of rfl rfl rfl rfl) (a_cons (e_var 7) (a_cons (e_val (o_call G_stay (hr.mono (by decide : 2 ≤ 5)) (takes_of rfl rfl rfl rfl) (a_cons (e_ix ix_data (e_var 7) e_int) a_nil) (hnm := (aCons_len aNil_len)))) a_nil)) (hnm := (aCons_len (aCons_len aNil_len))))) (a_cons (e_var 9) a_nil)) (hnm := (aCons_len (aCons_len aNil_len))))))))))))))))))
abbrev s_law : Stmt := topS 48
abbrev N_law : List Str := ["_law_script", "_law_pen_here", "_law_one", "_law_other", "_law_last", "_law_first", "_law_second", "_law_third", "_law_whole", "_law_some", "_law_k"]
theorem sc_law : FnScope N_law ["_law_script"] (defScope s_law) := ⟨rfl, rfl, rfl, by decide +kernel, rfl, by decide +kernel, by decide +kernel⟩
noncomputable def b_law : M Fl := (sSeq (sSetO 1 (cCall m__law_pen (aCons (getS 0) aNil)))
  (sSeq (sSet 2 (frzM (cCallI 1 m__law_small_house (aCons (frzM (oLst aNil)) aNil))))
  (sSeq (sSet 3 (frzM (cCallI 1 m__law_small_house (aCons (frzM (oLst (aCons (getS 2) aNil))) aNil))))
  (sSeq (sSet 4 (frzM (cCallI 1 m__law_small_house (aCons (frzM (oLst (aCons (getS 2) (aCons (getS 3) aNil)))) aNil))))
  (sSeq (sSet 5 (frzM (cCall m__law_all (aCons (getS 2) (aCons (getS 3) aNil)))))
  (sSeq (sSet 6 (frzM (cCall m__law_all (aCons (getS 3) (aCons (getS 4) aNil)))))
  (sSeq (sSet 7 (frzM (cCall m__law_all (aCons (getS 4) (aCons (getS 2) aNil)))))
  (sSeq (sSet 8 (frzM (cCall m__law_all (aCons (getS 2) (aCons (getS 4) aNil)))))
  (sSeq (sIf (tOrM (tBool (bin isD (getS 5) (M.ret .none))) (tOrM (tBool (bin isD (getS 6) (M.ret .none))) (tOrM (tBool (bin isD (getS 7) (M.ret .none))) (tBool (bin isD (getS 8) (M.ret .none))))))
  (sRet ((M.ret (.bool false)).bind fun d => M.ret (.v d)))
  sNil)
  (sSeq (sIf (tAndM (tBool (bin leD (frzM (cCall m__law_count (aCons (getS 2) (aCons (getS 2) aNil)))) (M.ret (.int 520)))) (tBool (bin ninD (frzM (cCall m_stay (aCons (getS 2) aNil))) (frzM (cCall m_ways (aCons (getS 2) (aCons (getS 2) aNil)))))))
  (sRet ((M.ret (.bool false)).bind fun d => M.ret (.v d)))
  sNil)
  (sSeq (sFor (iSeq (eTup (aCons (getS 5) (aCons (getS 6) (aCons (getS 7) (aCons (getS 8) aNil)))))) (gN 9)
  (sIf (tNotM (tTru (frzM (cCallI 1 m__law_sums_right (aCons (getS 9) aNil)))))
  (sRet ((M.ret (.bool false)).bind fun d => M.ret (.v d)))
  sNil))
  (sRet ((nry (one allD) (aCons (frzM (oComp (iBy rng1 (aCons (M.ret (.int 3)) aNil)) [10] (gN 10) yes (frzM (cCallI 1 m__law_chains_right (aCons (frzM (oLst (aCons (getS 5) (aCons (getS 6) (aCons (getS 7) (aCons (getS 6) (aCons (getS 8) aNil))))))) aNil))))) aNil)).bind fun d => M.ret (.v d))))))))))))))
noncomputable def m_law : List Sl → Re RV := fnOf 11 b_law
theorem ok_law {f : Addr} {fd : FuncData} (Fu : FnP K "law" s_law f fd) (B : Bz K w mg) (NS : SeerK P base) (G__law_pen : Fn P w K mg base 1 "_law_pen" 1 m__law_pen) (G__law_small_house : Fn P w K mg base 3 "_law_small_house" 2 m__law_small_house) (G__law_all : Fn P w K mg base 6 "_law_all" 2 m__law_all) (G__law_count : Fn P w K mg base 2 "_law_count" 2 m__law_count) (G_stay : Fn P w K mg base 2 "stay" 1 m_stay) (G_ways : Fn P w K mg base 3 "ways" 2 m_ways) (G__law_sums_right : Fn P w K mg base 6 "_law_sums_right" 2 m__law_sums_right) (G__law_chains_right : Fn P w K mg base 6 "_law_chains_right" 2 m__law_chains_right) : FnG P w K mg base 7 f fd ["_law_script"] (spG K mg 1 m_law) :=
  mk_fn Fu sc_law fun cdv A outer s H E hr =>
  (ss_cons (s_setO (i := 1) (o_call G__law_pen (hr.mono (by decide : 1 ≤ 6)) (takes_of rfl rfl rfl rfl) (a_cons (e_var 0) a_nil) (hnm := (aCons_len aNil_len))) sc_law.nd)
  (ss_cons (s_set (i := 2) (e_val (o_callI 1 G__law_small_house (hr.mono (by decide : 3 ≤ 6)) (takes_of rfl rfl rfl rfl) (a_cons (e_val (o_lst a_nil)) a_nil) (fun r ds r' h => congrArg Nat.succ ((aCons_len aNil_len) r ds r' h)))) sc_law.nd)
  (ss_cons (s_set (i := 3) (e_val (o_callI 1 G__law_small_house (hr.mono (by decide : 3 ≤ 6)) (takes_of rfl rfl rfl rfl) (a_cons (e_val (o_lst (a_cons (e_var 2) a_nil))) a_nil) (fun r ds r' h => congrArg Nat.succ ((aCons_len aNil_len) r ds r' h)))) sc_law.nd)
  (ss_cons (s_set (i := 4) (e_val (o_callI 1 G__law_small_house (hr.mono (by decide : 3 ≤ 6)) (takes_of rfl rfl rfl rfl) (a_cons (e_val (o_lst (a_cons (e_var 2) (a_cons (e_var 3) a_nil)))) a_nil) (fun r ds r' h => congrArg Nat.succ ((aCons_len aNil_len) r ds r' h)))) sc_law.nd)
  (ss_cons (s_set (i := 5) (e_val (o_call G__law_all (hr.mono (by decide : 6 ≤ 6)) (takes_of rfl rfl rfl rfl) (a_cons (e_var 2) (a_cons (e_var 3) a_nil)) (hnm := (aCons_len (aCons_len aNil_len))))) sc_law.nd)
  (ss_cons (s_set (i := 6) (e_val (o_call G__law_all (hr.mono (by decide : 6 ≤ 6)) (takes_of rfl rfl rfl rfl) (a_cons (e_var 3) (a_cons (e_var 4) a_nil)) (hnm := (aCons_len (aCons_len aNil_len))))) sc_law.nd)
  (ss_cons (s_set (i := 7) (e_val (o_call G__law_all (hr.mono (by decide : 6 ≤ 6)) (takes_of rfl rfl rfl rfl) (a_cons (e_var 4) (a_cons (e_var 2) a_nil)) (hnm := (aCons_len (aCons_len aNil_len))))) sc_law.nd)
  (ss_cons (s_set (i := 8) (e_val (o_call G__law_all (hr.mono (by decide : 6 ≤ 6)) (takes_of rfl rfl rfl rfl) (a_cons (e_var 2) (a_cons (e_var 4) a_nil)) (hnm := (aCons_len (aCons_len aNil_len))))) sc_law.nd)
  (ss_cons (s_if (PW.pt (w_or (t_cmp is_data (e_var 5) e_non) (w_or (t_cmp is_data (e_var 6) e_non) (w_or (t_cmp is_data (e_var 7) e_non) (w_or1 (t_cmp is_data (e_var 8) e_non))))))
  (ss_one (s_ret (o_val e_bl)))
  ss_nil)
  (ss_cons (s_if (PW.pt (w_and (t_cmp le_data (e_val (o_call G__law_count (hr.mono (by decide : 2 ≤ 6)) (takes_of rfl rfl rfl rfl) (a_cons (e_var 2) (a_cons (e_var 2) a_nil)) (hnm := (aCons_len (aCons_len aNil_len))))) e_int) (w_and1 (t_cmp (nin_data hr.in65) (e_val (o_call G_stay (hr.mono (by decide : 2 ≤ 6)) (takes_of rfl rfl rfl rfl) (a_cons (e_var 2) a_nil) (hnm := (aCons_len aNil_len)))) (e_val (o_call G_ways (hr.mono (by decide : 3 ≤ 6)) (takes_of rfl rfl rfl rfl) (a_cons (e_var 2) (a_cons (e_var 2) a_nil)) (hnm := (aCons_len (aCons_len aNil_len)))))))))
  (ss_one (s_ret (o_val e_bl)))
  ss_nil)
  (ss_cons (s_for (i_seq (e_tup (a_cons (e_var 5) (a_cons (e_var 6) (a_cons (e_var 7) (a_cons (e_var 8) a_nil)))))) (g_name 9 sc_law.nd)
  (ss_one (s_if (t_not (t_tru (e_val (o_callI 1 G__law_sums_right (hr.mono (by decide : 6 ≤ 6)) (takes_of rfl rfl rfl rfl) (a_cons (e_var 9) a_nil) (fun r ds r' h => congrArg Nat.succ ((aCons_len aNil_len) r ds r' h))))))
  (ss_one (s_ret (o_val e_bl)))
  ss_nil)) (passes_of rfl))
  (ss_one (s_ret (o_val (e_callB all_data B.b_all (a_cons (e_val (o_lc (own := [("_law_k", 10)]) (i_rng1 (a_cons e_int a_nil) B.b_range) (blkOk_by (show blkC N_law (defScope s_law) _ [("_law_k", 10)] = true from by decide +kernel)) (fun _ _ _ _ _ => (g_name 10 sc_law.nd)) (fun _ _ _ _ _ => ts_nil) (fun _ _ _ _ _ => (e_val (o_callI 1 G__law_chains_right (hr.mono (by decide : 6 ≤ 6)) takes0 (a_cons (e_val (o_lst (a_cons (e_var 5) (a_cons (e_var 6) (a_cons (e_var 7) (a_cons (e_var 6) (a_cons (e_var 8) a_nil))))))) a_nil) (fun r ds r' h => congrArg Nat.succ ((aCons_len aNil_len) r ds r' h))))) sc_law.nd)) a_nil))))))))))))))))
end
/-! ### the head -/
def d_is_whole : He.DefD := ⟨("is_whole", none), "is_whole", "is_whole", defArgs s_is_whole, defBody s_is_whole, defScope s_is_whole, [], []⟩
def d_common_measure : He.DefD := ⟨("common_measure", none), "common_measure", "common_measure", defArgs s_common_measure, defBody s_common_measure, defScope s_common_measure, [], []⟩
def d_by_rounds : He.DefD := ⟨("by_rounds", none), "by_rounds", "by_rounds", defArgs s_by_rounds, defBody s_by_rounds, defScope s_by_rounds, [], []⟩
def d_nought : He.DefD := ⟨("nought", none), "nought", "nought", defArgs s_nought, defBody s_nought, defScope s_nought, [], []⟩
def d_need_alike : He.DefD := ⟨("need_alike", none), "need_alike", "need_alike", defArgs s_need_alike, defBody s_need_alike, defScope s_need_alike, [], []⟩
def d__law_pen : He.DefD := ⟨("_law_pen", none), "_law_pen", "_law_pen", defArgs s__law_pen, defBody s__law_pen, defScope s__law_pen, [], []⟩
def d__law_draw : He.DefD := ⟨("_law_draw", none), "_law_draw", "_law_draw", defArgs s__law_draw, defBody s__law_draw, defScope s__law_draw, [], []⟩
def d__law_measure : He.DefD := ⟨("_law_measure", none), "_law_measure", "_law_measure", defArgs s__law_measure, defBody s__law_measure, defScope s__law_measure, [], []⟩
def d_is_house : He.DefD := ⟨("is_house", none), "is_house", "is_house", defArgs s_is_house, defBody s_is_house, defScope s_is_house, [], []⟩
def d_is_thing : He.DefD := ⟨("is_thing", none), "is_thing", "is_thing", defArgs s_is_thing, defBody s_is_thing, defScope s_is_thing, [], []⟩
def d_ways_house : He.DefD := ⟨("ways_house", none), "ways_house", "ways_house", defArgs s_ways_house, defBody s_ways_house, defScope s_ways_house, [], []⟩
def d_many_ways : He.DefD := ⟨("many_ways", none), "many_ways", "many_ways", defArgs s_many_ways, defBody s_many_ways, defScope s_many_ways, [], []⟩
def d_images_for : He.DefD := ⟨("images_for", none), "images_for", "images_for", defArgs s_images_for, defBody s_images_for, defScope s_images_for, [], []⟩
def d_thing_of : He.DefD := ⟨("thing_of", none), "thing_of", "thing_of", defArgs s_thing_of, defBody s_thing_of, defScope s_thing_of, [], []⟩
def d_led_word : He.DefD := ⟨("led_word", none), "led_word", "led_word", defArgs s_led_word, defBody s_led_word, defScope s_led_word, [], []⟩
def d_stay : He.DefD := ⟨("stay", none), "stay", "stay", defArgs s_stay, defBody s_stay, defScope s_stay, [], []⟩
def d_none_way : He.DefD := ⟨("none_way", none), "none_way", "none_way", defArgs s_none_way, defBody s_none_way, defScope s_none_way, [], []⟩
def d__law_thing : He.DefD := ⟨("_law_thing", none), "_law_thing", "_law_thing", defArgs s__law_thing, defBody s__law_thing, defScope s__law_thing, [], []⟩
def d__law_count : He.DefD := ⟨("_law_count", none), "_law_count", "_law_count", defArgs s__law_count, defBody s__law_count, defScope s__law_count, [], []⟩
def d_need_things : He.DefD := ⟨("need_things", none), "need_things", "need_things", defArgs s_need_things, defBody s_need_things, defScope s_need_things, [], []⟩
def d_ways : He.DefD := ⟨("ways", none), "ways", "ways", defArgs s_ways, defBody s_ways, defScope s_ways, [], []⟩
def d_led : He.DefD := ⟨("led", none), "led", "led", defArgs s_led, defBody s_led, defScope s_led, [], []⟩
def d__law_small_house : He.DefD := ⟨("_law_small_house", none), "_law_small_house", "_law_small_house", defArgs s__law_small_house, defBody s__law_small_house, defScope s__law_small_house, [], []⟩
def d_plus : He.DefD := ⟨("plus", none), "plus", "plus", defArgs s_plus, defBody s_plus, defScope s_plus, [], []⟩
def d_minus : He.DefD := ⟨("minus", none), "minus", "minus", defArgs s_minus, defBody s_minus, defScope s_minus, [], []⟩
def d_times : He.DefD := ⟨("times", none), "times", "times", defArgs s_times, defBody s_times, defScope s_times, [], []⟩
def d_way_of : He.DefD := ⟨("way_of", none), "way_of", "way_of", defArgs s_way_of, defBody s_way_of, defScope s_way_of, [], []⟩
def d_then : He.DefD := ⟨("then", none), "then", "then", defArgs s_then, defBody s_then, defScope s_then, [], []⟩
def d_is_way : He.DefD := ⟨("is_way", none), "is_way", "is_way", defArgs s_is_way, defBody s_is_way, defScope s_is_way, [], []⟩
def d_plus_ways : He.DefD := ⟨("plus_ways", none), "plus_ways", "plus_ways", defArgs s_plus_ways, defBody s_plus_ways, defScope s_plus_ways, [], []⟩
def d_minus_ways : He.DefD := ⟨("minus_ways", none), "minus_ways", "minus_ways", defArgs s_minus_ways, defBody s_minus_ways, defScope s_minus_ways, [], []⟩
def d_times_way : He.DefD := ⟨("times_way", none), "times_way", "times_way", defArgs s_times_way, defBody s_times_way, defScope s_times_way, [], []⟩
def d__law_all : He.DefD := ⟨("_law_all", none), "_law_all", "_law_all", defArgs s__law_all, defBody s__law_all, defScope s__law_all, [], []⟩
def d__law_sums_right : He.DefD := ⟨("_law_sums_right", none), "_law_sums_right", "_law_sums_right", defArgs s__law_sums_right, defBody s__law_sums_right, defScope s__law_sums_right, [], []⟩
def d__law_chains_right : He.DefD := ⟨("_law_chains_right", none), "_law_chains_right", "_law_chains_right", defArgs s__law_chains_right, defBody s__law_chains_right, defScope s__law_chains_right, [], []⟩
def d_law : He.DefD := ⟨("law", none), "law", "law", defArgs s_law, defBody s_law, defScope s_law, [], []⟩
def fn : List He.DefD := [d_is_whole, d_common_measure, d_by_rounds, d_nought, d_need_alike, d__law_pen, d__law_draw, d__law_measure, d_is_house, d_is_thing, d_ways_house, d_many_ways, d_images_for, d_thing_of, d_led_word, d_stay, d_none_way, d__law_thing, d__law_count, d_need_things, d_ways, d_led, d__law_small_house, d_plus, d_minus, d_times, d_way_of, d_then, d_is_way, d_plus_ways, d_minus_ways, d_times_way, d__law_all, d__law_sums_right, d__law_chains_right, d_law]
def fa : List He.Fa := [.glo "is_whole", .glo "common_measure", .glo "by_rounds", .glo "nought", .glo "need_alike", .glo "_law_pen", .glo "_law_draw", .glo "_law_measure", .glo "is_house", .glo "is_thing", .glo "ways_house", .glo "many_ways", .glo "images_for", .glo "thing_of", .glo "led_word", .glo "stay", .glo "none_way", .glo "_law_thing", .glo "_law_count", .glo "need_things", .glo "ways", .glo "led", .glo "_law_small_house", .glo "plus", .glo "minus", .glo "times", .glo "way_of", .glo "then", .glo "is_way", .glo "plus_ways", .glo "minus_ways", .glo "times_way", .glo "_law_all", .glo "_law_sums_right", .glo "_law_chains_right", .glo "law", .free "isinstance", .free "int", .free "bool", .free "abs", .free "enumerate", .free "tuple", .free "len", .free "all", .free "range", .free "sum", .free "set", .free "zip", .int "MOST_ROUNDS" 6, .int "MOST_WAYS" 520]
abbrev R : PySem.W.OpenRow := PySem.W.OpenLaw.row PySem.Challenge.rw_commonhouse_k33_whole_ways_are_a_house
abbrev hk : PySem.W.Hook := hookL 5 fa fn (fun _ => true) ln
def ob (s : PySem.W.SharedT) : AlB := obsLG 5 fa fn (fun _ => true) ln (HandSHeadRun.getT s)
theorem ob_eq (s : PySem.W.SharedT) : ob s = hk.obs s.abs := obsLG_eq (HandSHeadRun.getT_eq s)
abbrev lo0 : List Str := ["is_whole", "common_measure", "is_house", "is_thing", "need_things", "by_rounds", "nought", "plus", "minus", "times", "ways_house", "many_ways", "images_for", "ways", "way_of", "thing_of", "is_way", "led_word", "led", "stay", "none_way", "then", "need_alike", "plus_ways", "minus_ways", "times_way", "_law_pen", "_law_draw", "_law_measure", "_law_thing"]
abbrev lo1 : List Str := ["_law_count", "_law_small_house", "_law_all", "_law_sums_right", "_law_chains_right", "MOST_ROUNDS", "MOST_WAYS", "HouseError", "NoThing", "TooGreat", "NoFit"]
abbrev lo : List Str := lo0 ++ lo1
theorem run (w : World) : HandSHeadRun.RunEq R (PySem.W.view R.prog [48]) hk ob 31400 lo w := by
  intro os
  kernel_rfl
theorem facts {P : Program} {w : World} {K : PySem.W.Frag} {h : Heap} {mg : Str → Option Value} {f : Addr} (X : K.In h) (G : h.Ns mainGlobals mg) (hfa : mg ("law" : Str) = some (.ref f)) (hP : P.given.tree = none) (c0 : SaysB fa fn (fun _ => true) K) (l : LamOk ln K h) :
    ∃ fd : FuncData, (∀ (s : Shared) (v : Value), BindsTo s fd ⟨[v], []⟩ [("_law_script", v)]) ∧ ∀ base : Heap, K.In base → base.Ns mainGlobals mg → base.NoSeer → (∀ p ∈ csN ln K, LamX.TabB base mg p.1 p.2) → FnG P w K mg base 7 f fd ["_law_script"] (spG K mg 1 m_law) := by
  have c := c0.1
  obtain ⟨fd_is_whole, F_is_whole⟩ := c.def_ 0 (d := d_is_whole) rfl
  obtain ⟨fd_common_measure, F_common_measure⟩ := c.def_ 1 (d := d_common_measure) rfl
  obtain ⟨fd_by_rounds, F_by_rounds⟩ := c.def_ 2 (d := d_by_rounds) rfl
  obtain ⟨fd_nought, F_nought⟩ := c.def_ 3 (d := d_nought) rfl
  obtain ⟨fd_need_alike, F_need_alike⟩ := c.def_ 4 (d := d_need_alike) rfl
  obtain ⟨fd__law_pen, F__law_pen⟩ := c.def_ 5 (d := d__law_pen) rfl
  obtain ⟨fd__law_draw, F__law_draw⟩ := c.def_ 6 (d := d__law_draw) rfl
  obtain ⟨fd__law_measure, F__law_measure⟩ := c.def_ 7 (d := d__law_measure) rfl
  obtain ⟨fd_is_house, F_is_house⟩ := c.def_ 8 (d := d_is_house) rfl
  obtain ⟨fd_is_thing, F_is_thing⟩ := c.def_ 9 (d := d_is_thing) rfl
  obtain ⟨fd_ways_house, F_ways_house⟩ := c.def_ 10 (d := d_ways_house) rfl
  obtain ⟨fd_many_ways, F_many_ways⟩ := c.def_ 11 (d := d_many_ways) rfl
  obtain ⟨fd_images_for, F_images_for⟩ := c.def_ 12 (d := d_images_for) rfl
  obtain ⟨fd_thing_of, F_thing_of⟩ := c.def_ 13 (d := d_thing_of) rfl
  obtain ⟨fd_led_word, F_led_word⟩ := c.def_ 14 (d := d_led_word) rfl
  obtain ⟨fd_stay, F_stay⟩ := c.def_ 15 (d := d_stay) rfl
  obtain ⟨fd_none_way, F_none_way⟩ := c.def_ 16 (d := d_none_way) rfl
  obtain ⟨fd__law_thing, F__law_thing⟩ := c.def_ 17 (d := d__law_thing) rfl
  obtain ⟨fd__law_count, F__law_count⟩ := c.def_ 18 (d := d__law_count) rfl
  obtain ⟨fd_need_things, F_need_things⟩ := c.def_ 19 (d := d_need_things) rfl
  obtain ⟨fd_ways, F_ways⟩ := c.def_ 20 (d := d_ways) rfl
  obtain ⟨fd_led, F_led⟩ := c.def_ 21 (d := d_led) rfl
  obtain ⟨fd__law_small_house, F__law_small_house⟩ := c.def_ 22 (d := d__law_small_house) rfl
  obtain ⟨fd_plus, F_plus⟩ := c.def_ 23 (d := d_plus) rfl
  obtain ⟨fd_minus, F_minus⟩ := c.def_ 24 (d := d_minus) rfl
  obtain ⟨fd_times, F_times⟩ := c.def_ 25 (d := d_times) rfl
  obtain ⟨fd_way_of, F_way_of⟩ := c.def_ 26 (d := d_way_of) rfl
  obtain ⟨fd_then, F_then⟩ := c.def_ 27 (d := d_then) rfl
  obtain ⟨fd_is_way, F_is_way⟩ := c.def_ 28 (d := d_is_way) rfl
  obtain ⟨fd_plus_ways, F_plus_ways⟩ := c.def_ 29 (d := d_plus_ways) rfl
  obtain ⟨fd_minus_ways, F_minus_ways⟩ := c.def_ 30 (d := d_minus_ways) rfl
  obtain ⟨fd_times_way, F_times_way⟩ := c.def_ 31 (d := d_times_way) rfl
  obtain ⟨fd__law_all, F__law_all⟩ := c.def_ 32 (d := d__law_all) rfl
  obtain ⟨fd__law_sums_right, F__law_sums_right⟩ := c.def_ 33 (d := d__law_sums_right) rfl
  obtain ⟨fd__law_chains_right, F__law_chains_right⟩ := c.def_ 34 (d := d__law_chains_right) rfl
  obtain ⟨fd_law, F_law⟩ := c.def_ 35 (d := d_law) rfl
  have e := hfa.symm.trans (He.glo_ok X G (c.fact 35 (f := .glo "law") rfl))
  cases e
  have b := FunD.bindsA (ps := ["_law_script"]) F_law fun _ _ _ _ _ _ us hl => match us, hl with | [_], _ => rfl
  have B : Bz K w mg := ⟨He.free_ok X G (c.fact 36 (f := .free "isinstance") rfl), He.free_ok X G (c.fact 37 (f := .free "int") rfl), He.free_ok X G (c.fact 38 (f := .free "bool") rfl), He.free_ok X G (c.fact 39 (f := .free "abs") rfl), He.free_ok X G (c.fact 40 (f := .free "enumerate") rfl), He.free_ok X G (c.fact 41 (f := .free "tuple") rfl), He.free_ok X G (c.fact 42 (f := .free "len") rfl), He.free_ok X G (c.fact 43 (f := .free "all") rfl), He.free_ok X G (c.fact 44 (f := .free "range") rfl), He.free_ok X G (c.fact 45 (f := .free "sum") rfl), He.free_ok X G (c.fact 46 (f := .free "set") rfl), He.free_ok X G (c.fact 47 (f := .free "zip") rfl), He.int_ok X G (c.fact 48 (f := .int "MOST_ROUNDS" 6) rfl), He.int_ok X G (c.fact 49 (f := .int "MOST_WAYS" 520) rfl)⟩
  refine ⟨fd_law, fun s v => b s [v] rfl, fun base _ _ sr TB => ?_⟩
  have NS : SeerK P base := ⟨hP, sr⟩
  have G_is_whole : Fn P w K mg base 1 "is_whole" 1 m_is_whole := ⟨⟨_, fd_is_whole, ["thing"], He.glo_ok X G (c.fact 0 (f := .glo "is_whole") rfl), F_is_whole.kp, F_is_whole.bindsN (fun _ _ _ _ _ _ us hl => match us, hl with | [_], _ => rfl), ok_is_whole F_is_whole B NS⟩⟩
  have G_common_measure : Fn P w K mg base 1 "common_measure" 2 m_common_measure := ⟨⟨_, fd_common_measure, ["a", "b"], He.glo_ok X G (c.fact 1 (f := .glo "common_measure") rfl), F_common_measure.kp, F_common_measure.bindsN (fun _ _ _ _ _ _ us hl => match us, hl with | [_, _], _ => rfl), ok_common_measure F_common_measure B NS⟩⟩
  have G_by_rounds : Fn P w K mg base 1 "by_rounds" 2 m_by_rounds := ⟨⟨_, fd_by_rounds, ["house", "numbers"], He.glo_ok X G (c.fact 2 (f := .glo "by_rounds") rfl), F_by_rounds.kp, F_by_rounds.bindsN (fun _ _ _ _ _ _ us hl => match us, hl with | [_, _], _ => rfl), ok_by_rounds F_by_rounds B NS⟩⟩
  have G_nought : Fn P w K mg base 1 "nought" 1 m_nought := ⟨⟨_, fd_nought, ["house"], He.glo_ok X G (c.fact 3 (f := .glo "nought") rfl), F_nought.kp, F_nought.bindsN (fun _ _ _ _ _ _ us hl => match us, hl with | [_], _ => rfl), ok_nought F_nought B NS⟩⟩
  have G_need_alike : Fn P w K mg base 1 "need_alike" 2 m_need_alike := ⟨⟨_, fd_need_alike, ["first", "second"], He.glo_ok X G (c.fact 4 (f := .glo "need_alike") rfl), F_need_alike.kp, F_need_alike.bindsN (fun _ _ _ _ _ _ us hl => match us, hl with | [_, _], _ => rfl), ok_need_alike F_need_alike B NS⟩⟩
  have G__law_pen : Fn P w K mg base 1 "_law_pen" 1 m__law_pen := ⟨⟨_, fd__law_pen, ["_law_script"], He.glo_ok X G (c.fact 5 (f := .glo "_law_pen") rfl), F__law_pen.kp, F__law_pen.bindsN (fun _ _ _ _ _ _ us hl => match us, hl with | [_], _ => rfl), ok__law_pen F__law_pen B NS⟩⟩
  have G__law_draw : Fn P w K mg base 1 "_law_draw" 2 m__law_draw := ⟨⟨_, fd__law_draw, ["_law_pen_here", "_law_many"], He.glo_ok X G (c.fact 6 (f := .glo "_law_draw") rfl), F__law_draw.kp, F__law_draw.bindsN (fun _ _ _ _ _ _ us hl => match us, hl with | [_, _], _ => rfl), ok__law_draw F__law_draw B NS⟩⟩
  have G__law_measure : Fn P w K mg base 1 "_law_measure" 2 m__law_measure := ⟨⟨_, fd__law_measure, ["_law_a", "_law_b"], He.glo_ok X G (c.fact 7 (f := .glo "_law_measure") rfl), F__law_measure.kp, F__law_measure.bindsN (fun _ _ _ _ _ _ us hl => match us, hl with | [_, _], _ => rfl), ok__law_measure F__law_measure B NS⟩⟩
  have G_is_house : Fn P w K mg base 2 "is_house" 1 m_is_house := ⟨⟨_, fd_is_house, ["thing"], He.glo_ok X G (c.fact 8 (f := .glo "is_house") rfl), F_is_house.kp, F_is_house.bindsN (fun _ _ _ _ _ _ us hl => match us, hl with | [_], _ => rfl), ok_is_house F_is_house B NS G_is_whole⟩⟩
  have G_is_thing : Fn P w K mg base 2 "is_thing" 2 m_is_thing := ⟨⟨_, fd_is_thing, ["house", "thing"], He.glo_ok X G (c.fact 9 (f := .glo "is_thing") rfl), F_is_thing.kp, F_is_thing.bindsN (fun _ _ _ _ _ _ us hl => match us, hl with | [_, _], _ => rfl), ok_is_thing F_is_thing B NS G_is_whole⟩⟩
  have G_ways_house : Fn P w K mg base 2 "ways_house" 2 m_ways_house := ⟨⟨_, fd_ways_house, ["one", "other"], He.glo_ok X G (c.fact 10 (f := .glo "ways_house") rfl), F_ways_house.kp, F_ways_house.bindsN (fun _ _ _ _ _ _ us hl => match us, hl with | [_, _], _ => rfl), ok_ways_house F_ways_house B NS G_common_measure⟩⟩
  have G_many_ways : Fn P w K mg base 2 "many_ways" 2 m_many_ways := ⟨⟨_, fd_many_ways, ["one", "other"], He.glo_ok X G (c.fact 11 (f := .glo "many_ways") rfl), F_many_ways.kp, F_many_ways.bindsN (fun _ _ _ _ _ _ us hl => match us, hl with | [_, _], _ => rfl), ok_many_ways F_many_ways B NS G_common_measure⟩⟩
  have G_images_for : Fn P w K mg base 2 "images_for" 2 m_images_for := ⟨⟨_, fd_images_for, ["here", "other"], He.glo_ok X G (c.fact 12 (f := .glo "images_for") rfl), F_images_for.kp, F_images_for.bindsN (fun _ _ _ _ _ _ us hl => match us, hl with | [_, _], _ => rfl), ok_images_for F_images_for B NS G_common_measure⟩⟩
  have G_thing_of : Fn P w K mg base 2 "thing_of" 1 m_thing_of := ⟨⟨_, fd_thing_of, ["way"], He.glo_ok X G (c.fact 13 (f := .glo "thing_of") rfl), F_thing_of.kp, F_thing_of.bindsN (fun _ _ _ _ _ _ us hl => match us, hl with | [_], _ => rfl), ok_thing_of F_thing_of B NS G_common_measure⟩⟩
  have G_led_word : Fn P w K mg base 2 "led_word" 2 m_led_word := ⟨⟨_, fd_led_word, ["way", "word"], He.glo_ok X G (c.fact 14 (f := .glo "led_word") rfl), F_led_word.kp, F_led_word.bindsN (fun _ _ _ _ _ _ us hl => match us, hl with | [_, _], _ => rfl), ok_led_word F_led_word B NS G_by_rounds⟩⟩
  have G_stay : Fn P w K mg base 2 "stay" 1 m_stay := ⟨⟨_, fd_stay, ["house"], He.glo_ok X G (c.fact 15 (f := .glo "stay") rfl), F_stay.kp, F_stay.bindsN (fun _ _ _ _ _ _ us hl => match us, hl with | [_], _ => rfl), ok_stay F_stay B NS G_by_rounds⟩⟩
  have G_none_way : Fn P w K mg base 2 "none_way" 2 m_none_way := ⟨⟨_, fd_none_way, ["one", "other"], He.glo_ok X G (c.fact 16 (f := .glo "none_way") rfl), F_none_way.kp, F_none_way.bindsN (fun _ _ _ _ _ _ us hl => match us, hl with | [_, _], _ => rfl), ok_none_way F_none_way B NS G_nought⟩⟩
  have G__law_thing : Fn P w K mg base 2 "_law_thing" 2 m__law_thing := ⟨⟨_, fd__law_thing, ["_law_pen_here", "_law_house"], He.glo_ok X G (c.fact 17 (f := .glo "_law_thing") rfl), F__law_thing.kp, F__law_thing.bindsN (fun _ _ _ _ _ _ us hl => match us, hl with | [_, _], _ => rfl), ok__law_thing F__law_thing B NS G__law_draw⟩⟩
  have G__law_count : Fn P w K mg base 2 "_law_count" 2 m__law_count := ⟨⟨_, fd__law_count, ["_law_one", "_law_other"], He.glo_ok X G (c.fact 18 (f := .glo "_law_count") rfl), F__law_count.kp, F__law_count.bindsN (fun _ _ _ _ _ _ us hl => match us, hl with | [_, _], _ => rfl), ok__law_count F__law_count B NS G__law_measure⟩⟩
  have G_need_things : Fn P w K mg base 3 "need_things" 2 m_need_things := ⟨⟨_, fd_need_things, ["house", "some"], He.glo_ok X G (c.fact 19 (f := .glo "need_things") rfl), F_need_things.kp, F_need_things.bindsN (fun _ _ _ _ _ _ us hl => match us, hl with | [_, _], _ => rfl), ok_need_things F_need_things B NS G_is_thing⟩⟩
  have G_ways : Fn P w K mg base 3 "ways" 2 m_ways := ⟨⟨_, fd_ways, ["one", "other"], He.glo_ok X G (c.fact 20 (f := .glo "ways") rfl), F_ways.kp, F_ways.bindsN (fun _ _ _ _ _ _ us hl => match us, hl with | [_, _], _ => rfl), ok_ways F_ways B NS G_many_ways G_images_for⟩⟩
  have G_led : Fn P w K mg base 3 "led" 2 m_led := ⟨⟨_, fd_led, ["way", "a"], He.glo_ok X G (c.fact 21 (f := .glo "led") rfl), F_led.kp, F_led.bindsN (fun _ _ _ _ _ _ us hl => match us, hl with | [_, _], _ => rfl), ok_led F_led B NS G_is_thing G_led_word⟩⟩
  have G__law_small_house : Fn P w K mg base 3 "_law_small_house" 2 m__law_small_house := ⟨⟨_, fd__law_small_house, ["_law_pen_here", "_law_others"], He.glo_ok X G (c.fact 22 (f := .glo "_law_small_house") rfl), F__law_small_house.kp, F__law_small_house.bindsN (fun _ _ _ _ _ _ us hl => match us, hl with | [_, _], _ => rfl), ok__law_small_house F__law_small_house B NS G__law_draw G__law_count⟩⟩
  have G_plus : Fn P w K mg base 4 "plus" 3 m_plus := ⟨⟨_, fd_plus, ["house", "a", "b"], He.glo_ok X G (c.fact 23 (f := .glo "plus") rfl), F_plus.kp, F_plus.bindsN (fun _ _ _ _ _ _ us hl => match us, hl with | [_, _, _], _ => rfl), ok_plus F_plus B NS G_need_things G_by_rounds⟩⟩
  have G_minus : Fn P w K mg base 4 "minus" 3 m_minus := ⟨⟨_, fd_minus, ["house", "a", "b"], He.glo_ok X G (c.fact 24 (f := .glo "minus") rfl), F_minus.kp, F_minus.bindsN (fun _ _ _ _ _ _ us hl => match us, hl with | [_, _, _], _ => rfl), ok_minus F_minus B NS G_need_things G_by_rounds⟩⟩
  have G_times : Fn P w K mg base 4 "times" 3 m_times := ⟨⟨_, fd_times, ["house", "many", "a"], He.glo_ok X G (c.fact 25 (f := .glo "times") rfl), F_times.kp, F_times.bindsN (fun _ _ _ _ _ _ us hl => match us, hl with | [_, _, _], _ => rfl), ok_times F_times B NS G_need_things G_by_rounds⟩⟩
  have G_way_of : Fn P w K mg base 4 "way_of" 3 m_way_of := ⟨⟨_, fd_way_of, ["one", "other", "a"], He.glo_ok X G (c.fact 26 (f := .glo "way_of") rfl), F_way_of.kp, F_way_of.bindsN (fun _ _ _ _ _ _ us hl => match us, hl with | [_, _, _], _ => rfl), ok_way_of F_way_of B NS G_need_things G_ways_house G_common_measure⟩⟩
  have G_then : Fn P w K mg base 4 "then" 2 m_then := ⟨⟨_, fd_then, ["first", "second"], He.glo_ok X G (c.fact 27 (f := .glo "then") rfl), F_then.kp, F_then.bindsN (fun _ _ _ _ _ _ us hl => match us, hl with | [_, _], _ => rfl), ok_then F_then B NS G_led⟩⟩
  have G_is_way : Fn P w K mg base 5 "is_way" 1 m_is_way := ⟨⟨_, fd_is_way, ["thing"], He.glo_ok X G (c.fact 28 (f := .glo "is_way") rfl), F_is_way.kp, F_is_way.bindsN (fun _ _ _ _ _ _ us hl => match us, hl with | [_], _ => rfl), ok_is_way F_is_way B NS G_is_house G_is_thing G_times G_nought⟩⟩
  have G_plus_ways : Fn P w K mg base 5 "plus_ways" 2 m_plus_ways := ⟨⟨_, fd_plus_ways, ["first", "second"], He.glo_ok X G (c.fact 29 (f := .glo "plus_ways") rfl), F_plus_ways.kp, F_plus_ways.bindsN (fun _ _ _ _ _ _ us hl => match us, hl with | [_, _], _ => rfl), ok_plus_ways F_plus_ways B NS G_need_alike G_plus⟩⟩
  have G_minus_ways : Fn P w K mg base 5 "minus_ways" 2 m_minus_ways := ⟨⟨_, fd_minus_ways, ["first", "second"], He.glo_ok X G (c.fact 30 (f := .glo "minus_ways") rfl), F_minus_ways.kp, F_minus_ways.bindsN (fun _ _ _ _ _ _ us hl => match us, hl with | [_, _], _ => rfl), ok_minus_ways F_minus_ways B NS G_need_alike G_minus⟩⟩
  have G_times_way : Fn P w K mg base 5 "times_way" 2 m_times_way := ⟨⟨_, fd_times_way, ["many", "way"], He.glo_ok X G (c.fact 31 (f := .glo "times_way") rfl), F_times_way.kp, F_times_way.bindsN (fun _ _ _ _ _ _ us hl => match us, hl with | [_, _], _ => rfl), ok_times_way F_times_way B NS G_times⟩⟩
  have G__law_all : Fn P w K mg base 6 "_law_all" 2 m__law_all := ⟨⟨_, fd__law_all, ["_law_one", "_law_other"], He.glo_ok X G (c.fact 32 (f := .glo "_law_all") rfl), F__law_all.kp, F__law_all.bindsN (fun _ _ _ _ _ _ us hl => match us, hl with | [_, _], _ => rfl), ok__law_all F__law_all B NS G_ways G_ways_house G_many_ways G_thing_of G_is_way G_way_of⟩⟩
  have G__law_sums_right : Fn P w K mg base 6 "_law_sums_right" 2 m__law_sums_right := ⟨⟨_, fd__law_sums_right, ["_law_pen_here", "_law_some"], He.glo_ok X G (c.fact 33 (f := .glo "_law_sums_right") rfl), F__law_sums_right.kp, F__law_sums_right.bindsN (fun _ _ _ _ _ _ us hl => match us, hl with | [_, _], _ => rfl), ok__law_sums_right F__law_sums_right B NS G__law_draw G_ways_house G_thing_of G_way_of G_plus_ways G_minus_ways G_times_way G_none_way⟩⟩
  have G__law_chains_right : Fn P w K mg base 6 "_law_chains_right" 2 m__law_chains_right := ⟨⟨_, fd__law_chains_right, ["_law_pen_here", "_law_lists"], He.glo_ok X G (c.fact 34 (f := .glo "_law_chains_right") rfl), F__law_chains_right.kp, F__law_chains_right.bindsN (fun _ _ _ _ _ _ us hl => match us, hl with | [_, _], _ => rfl), ok__law_chains_right F__law_chains_right B NS G__law_draw G_then G_plus_ways G_stay G__law_thing G_led⟩⟩
  exact ok_law F_law B NS G__law_pen G__law_small_house G__law_all G__law_count G_stay G_ways G__law_sums_right G__law_chains_right
theorem sp_law {K : PySem.W.Frag} {mg : Str → Option Value} {ns : List Int} (hl : ∃ r, m_law [.v (.list (ns.map .int))] = .ok (.v (.bool true)) r) (H : Hp) (a : Addr) (hS : SqL K H a (ns.map V.int)) (tb : LamX.Tabs (TabT.T K) H) : spG K mg 1 m_law [.ref a] H (fun v _ => v = .bl true) fun _ _ _ => False :=
  sp_start hl hS tb
end K33
namespace K33
open PySem Pu L2
theorem draw_ok {X : Exn → En → Prop} {cs : List Int} {p : Ct} {n : Int} (hp : PenOk cs p) (hn : 0 < n) (hn2 : n < 2 ^ 63) : Wp X (m__law_draw [.io p, .v (.int n)]) (Dr cs n) := by
  obtain ⟨a, l, rfl, ha, hl⟩ := hp
  refine po_fn ?_
  unfold b__law_draw Dr
  rw [pen_eq]
  have hp1 : ∀ x : Int, 0 ≤ x.fmod n := fun x => (fmod_pos x hn).1
  have hp2 : ∀ x : Int, x.fmod n < n := fun x => (fmod_pos x hn).2
  have hn' : ¬ n = 0 := by omega
  have hlog : n.natAbs.log2 < 9000 := log2_64 (by omega)
  have fin1 : PenOk cs (.d (penL cs (a + 1) l)) := .mk (by omega) hl
  have fin2 : ∀ x : Int, 0 ≤ x → PenOk cs (.d (penL cs (a + 1) (x.fdiv n))) := fun x hx => .mk (by omega) (fdiv_nn hx hn)
  have fin3 : PenOk cs (.d (penL cs a (l.fdiv n))) := .mk ha (fdiv_nn hl hn)
  by_cases hc : cs = []
  · subst hc
    simp [po_seq, Int.fmod_eq_emod_of_nonneg, Int.fdiv_eq_ediv_of_nonneg, hn', hlog, hp1, hp2, fin1, fin2, fin3, ha, Int.not_lt.mpr ha]
  · have hlen : 0 < cs.length := List.length_pos_iff.mpr hc
    obtain ⟨c, hc1, -⟩ := atI_nn (xs := cs) (n := a % cs.length) (Int.emod_nonneg _ (by omega)) (Int.emod_lt_of_pos _ (by omega))
    simp [po_seq, Int.fmod_eq_emod_of_nonneg, Int.fdiv_eq_ediv_of_nonneg, hn', hlog, hp1, hp2, fin1, fin2, fin3, hc, hc1, hlen]
theorem pen_start {X : Exn → En → Prop} (ns : List Int) : Wp X (m__law_pen [.v (.list (ns.map .int))]) fun rv _ => ∃ cs c, rv = .o c ∧ PenOk cs c := by
  refine po_fn ?_
  unfold b__law_pen oDict prs
  simp [prs]
  rw [cutL_map, pen_new]
  exact ⟨_, 0, 0, rfl, by decide, by decide⟩
abbrev T (xs : List Int) : D := .tuple (xs.map .int)
def BB : Nat := 2 ^ 1900
def Ho (hs : List Int) : Prop := hs.length ≤ 6 ∧ ∀ h ∈ hs, 1 ≤ h ∧ h.natAbs < BB
def Th (hs as : List Int) : Prop := as.length = hs.length ∧ ∀ (i : Nat) (a h : Int), as[i]? = some a → hs[i]? = some h → 0 ≤ a ∧ a < h
theorem Ho.at {hs : List Int} (H : Ho hs) {i : Nat} {h : Int} (e : hs[i]? = some h) : 1 ≤ h ∧ h.natAbs < BB := H.2 h (List.mem_of_getElem? e)
theorem zip_at {as : List Int} {p : Int × Nat} (h : p ∈ as.zipIdx 0) : as[p.2]? = some p.1 := by
  have := List.mem_zipIdx h
  simp at this
  rw [List.getElem?_eq_getElem (by omega), this.2]
theorem at_len {hs : List Int} {i : Nat} (h : i < hs.length) : ∃ x, hs[i]? = some x := ⟨_, List.getElem?_eq_getElem h⟩
theorem lt_of_at {as : List Int} {i : Nat} {a : Int} (h : as[i]? = some a) : i < as.length := (List.getElem?_eq_some_iff.mp h).1
theorem mul_big {i j : Int} (h1 : i.natAbs < BB) (h2 : j.natAbs < BB) : mulOk i j := .inr (.inr (by
  have a1 : i.natAbs.log2 < 1900 := PySem.Flt.log2_lt_of (by decide) h1
  have a2 : j.natAbs.log2 < 1900 := PySem.Flt.log2_lt_of (by decide) h2
  omega))
def mods (hs xs : List Int) : List Int := List.zipWith (fun x h => x % h) xs hs
theorem mods_len {hs xs : List Int} (h : xs.length = hs.length) : (mods hs xs).length = hs.length := by
  unfold mods
  rw [List.length_zipWith, h]
  omega
theorem mods_at {hs xs : List Int} (i : Nat) : (mods hs xs)[i]? = (xs[i]?).bind fun x => (hs[i]?).map fun h => x % h := by
  unfold mods
  rw [List.getElem?_zipWith]
  cases xs[i]? <;> cases hs[i]? <;> rfl
theorem mods_th {hs xs : List Int} (H : Ho hs) (h : xs.length = hs.length) : Th hs (mods hs xs) := ⟨mods_len h, fun i a k e1 e2 => by
  rw [mods_at, e2] at e1
  cases hx : xs[i]? with
  | none =>
    rw [hx] at e1
    cases e1
  | some x =>
    rw [hx] at e1
    cases e1
    have := H.at e2
    exact ⟨Int.emod_nonneg _ (by omega), Int.emod_lt_of_pos _ (by omega)⟩⟩
theorem by_rounds_ok {X : Exn → En → Prop} {hs xs : List Int} (H : Ho hs) (hl : xs.length = hs.length) : Wp X (m_by_rounds [.v (T hs), .v (.list (xs.map .int))]) fun rv _ => rv = .v (T (mods hs xs)) := by
  refine po_fnK fun Y K hY hK _ => ?_
  unfold b_by_rounds
  simp
  refine po_compM (g := fun p : Int × Nat => PyData.int (p.1 % ((hs[p.2]?).getD 1))) (fun r => ∃ a b, r = [.v (T hs), .v (.list (xs.map .int)), a, b]) (xs.zipIdx 0) [] _ ⟨_, _, rfl⟩ (by have := H.1; simp [hl]; omega) ?_ ?_
  · rintro p hp r ⟨a, b, rfl⟩
    have e1 := zip_at hp
    obtain ⟨h, e2⟩ := at_len (hs := hs) (i := p.2) (by rw [← hl]; exact lt_of_at e1)
    have hh := H.at e2
    have h0 : ¬ h = 0 := by omega
    refine ⟨[.v (T hs), .v (.list (xs.map .int)), .v (.int p.2), .v (.int p.1)], by simp, ?_⟩
    simp [e2, h0]
    exact Int.fmod_eq_emod_of_nonneg _ (by omega)
  · rintro r ⟨a, b, rfl⟩
    simp
    refine hK _ _ _ rfl ?_
    have e : (xs.zipIdx.map fun p : Int × Nat => PyData.int (p.1 % ((hs[p.2]?).getD 1))) = (mods hs xs).map .int := by
      apply List.ext_getElem?
      intro i
      rw [List.getElem?_map, List.getElem?_map, mods_at, List.getElem?_zipIdx]
      cases hx : xs[i]? with
      | none => rfl
      | some x =>
        obtain ⟨h, e2⟩ := at_len (hs := hs) (i := i) (by rw [← hl]; exact lt_of_at hx)
        simp [e2]
    rw [e]
def wh : D → Bool
  | .int _ => true
  | _ => false
def okA (hs : List Int) (ds : List D) (i : Nat) : Bool := match ds[i]? with
  | some (.int a) => (match hs[i]? with
    | some h => decide (0 ≤ a) && decide (a < h)
    | none => false)
  | _ => false
def thg (hs : List Int) : D → Bool
  | .tuple ds => decide (ds.length = hs.length) && (List.range hs.length).all (okA hs ds)
  | _ => false
theorem whole_ok {X : Exn → En → Prop} (d : D) : Wp X (m_is_whole [.v d]) fun rv _ => rv = .v (.bool (wh d)) := by
  refine po_fn ?_
  unfold b_is_whole
  cases d <;> simp [wh]
theorem all_zip (ds : List D) (f : Nat → Bool) : (ds.zipIdx.map fun p => f p.2).all id = (List.range ds.length).all f := by
  have : (ds.zipIdx.map fun p => f p.2) = (List.range ds.length).map f := by
    apply List.ext_getElem?
    intro i
    rw [List.getElem?_map, List.getElem?_map, List.getElem?_zipIdx]
    by_cases h : i < ds.length
    · rw [List.getElem?_eq_getElem h, List.getElem?_range h]
      simp
    · rw [List.getElem?_eq_none (by omega), List.getElem?_eq_none (by simp; omega)]
      rfl
  rw [this, List.all_map]
  rfl
theorem is_thing_ok {X : Exn → En → Prop} {hs : List Int} (H : hs.length ≤ 6) (d : D) : Wp X (m_is_thing [.v (T hs), .v d]) fun rv _ => rv = .v (.bool (thg hs d)) := by
  refine po_fnK fun Y K hY hK _ => ?_
  unfold b_is_thing
  refine po_step fun K1 h1 r1 _ _ => ?_
  cases d with
  | tuple ds =>
    by_cases hl : ds.length = hs.length
    · simp [hl]
      refine h1 _ ?_
      have e : enOf [.tuple ds] = some ((ds.zipIdx 0).map fun p => .tuple [.int (p.2 : Nat), p.1]) := by
        have := enOf_t (fun d : D => d) ds
        simpa using this
      simp [e]
      refine po_compM (g := fun p : D × Nat => PyData.bool (okA hs ds p.2)) (fun r => ∃ a b, r = [.v (T hs), .v (.tuple ds), a, b]) (ds.zipIdx 0) [] _ ⟨_, _, rfl⟩ (by simp; omega) ?_ ?_
      · rintro ⟨x, i⟩ hp r ⟨a, b, rfl⟩
        have e1 : ds[i]? = some x := by
          have := List.mem_zipIdx hp
          simp at this
          rw [List.getElem?_eq_getElem this.1]
          exact congrArg some this.2.symm
        obtain ⟨h, e2⟩ := at_len (hs := hs) (i := i) (by rw [← hl]; exact (List.getElem?_eq_some_iff.mp e1).1)
        refine ⟨[.v (T hs), .v (.tuple ds), .v (.int i), .v x], by simp, ?_⟩
        simp
        refine po_mono (whole_ok x) ?_
        rintro _ _ rfl
        cases x with
        | int a =>
          by_cases h0 : 0 ≤ a
          · simp [wh, okA, e1, e2, h0]
          · simp [wh, okA, e1, e2, h0]
        | _ => simp [wh, okA, e1]
      · rintro r ⟨a, b, rfl⟩
        have e3 := all_zip ds (okA hs ds)
        have e4 : boolsOf (ds.zipIdx.map fun p => PyData.bool (okA hs ds p.2)) = some (ds.zipIdx.map fun p => okA hs ds p.2) := boolsOf_map (fun p : D × Nat => okA hs ds p.2) _
        simp [e4]
        refine hK _ _ _ rfl ?_
        rw [hl] at e3
        rw [List.all_map] at e3
        simp [thg, hl]
        first | exact e3 | (simpa using e3)
    · have hl2 : ¬ ((ds.length : Int) = (hs.length : Int)) := by omega
      simp [hl2]
      refine r1 _ _ ?_
      exact hK _ _ _ rfl (by simp [thg, hl])
  | _ =>
    simp
    exact r1 _ _ (hK _ _ _ rfl rfl)
theorem thg_T {hs as : List Int} (h : Th hs as) : thg hs (T as) = true := by
  unfold thg
  simp [h.1]
  intro i hi
  obtain ⟨a, ea⟩ := at_len (hs := as) (i := i) (by rw [h.1]; exact hi)
  obtain ⟨k, ek⟩ := at_len hi
  have := h.2 _ _ _ ea ek
  simp [okA, ea, ek, this]
theorem getD_at {α : Type} {xs : List α} {i : Nat} {x d : α} (h : xs[i]? = some x) : xs.getD i d = x := by
  rw [List.getD, h]
  rfl
theorem at0 (x y z : D) : atI [x, y, z] 0 = some x := rfl
theorem at1 (x y z : D) : atI [x, y, z] 1 = some y := rfl
theorem at2 (x y z : D) : atI [x, y, z] 2 = some z := rfl
theorem gcd_step (x y : Nat) : Nat.gcd y (x % y) = Nat.gcd x y := by
  rw [Nat.gcd_comm y (x % y), ← Nat.gcd_rec, Nat.gcd_comm]
theorem measure_ok {X : Exn → En → Prop} (a b : Nat) : Wp X (m__law_measure [.v (.int a), .v (.int b)]) fun rv _ => rv = .v (.int (Nat.gcd a b)) := by
  refine po_fn ?_
  unfold b__law_measure
  rw [po_seq]
  refine po_while (fun n r => ∃ x y : Nat, r = [.v (.int x), .v (.int y)] ∧ n = y ∧ Nat.gcd x y = Nat.gcd a b) ?_ b _ ⟨a, b, rfl, rfl, rfl⟩
  rintro n r ⟨x, y, rfl, hn, hg⟩
  simp
  split
  · refine ⟨by omega, x % y, by rw [hn]; exact Nat.mod_lt _ (by omega), y, x % y, ⟨rfl, ?_⟩, rfl, by rw [gcd_step]; exact hg⟩
    rw [Int.fmod_eq_emod_of_nonneg _ (by omega)]
    rfl
  · have : y = 0 := by omega
    subst this
    rw [Nat.gcd_zero_right] at hg
    rw [hg]
def Hq (hs : List Int) : Prop := hs.length ≤ 6 ∧ ∀ h ∈ hs, 1 ≤ h ∧ h ≤ 10 ^ 30
theorem small_BB {x : Int} (h0 : -(10 ^ 40) ≤ x) (h1 : x ≤ 10 ^ 40) : x.natAbs < BB := by
  have h2 : x.natAbs ≤ 10 ^ 40 := by omega
  refine Nat.lt_of_le_of_lt h2 ?_
  unfold BB
  decide +kernel
theorem Hq.ho {hs : List Int} (h : Hq hs) : Ho hs := ⟨h.1, fun x hx => ⟨(h.2 x hx).1, small_BB (by have := (h.2 x hx).1; omega) (by have := (h.2 x hx).2; omega)⟩⟩
def Im (h : Int) (ps as : List Int) : Prop := as.length = ps.length ∧ ∀ (i : Nat) (a k : Int), as[i]? = some a → ps[i]? = some k → (0 ≤ a ∧ a < k) ∧ (h * a) % k = 0
abbrev TT (rs : List (List Int)) : D := .tuple (rs.map fun r => T r)
theorem im_th {h : Int} {ps as : List Int} (I : Im h ps as) : Th ps as := ⟨I.1, fun i a k e1 e2 => (I.2 i a k e1 e2).1⟩
def gi (xs : List Int) (i : Nat) : Int := xs.getD i 0
theorem gi_at {xs : List Int} {i : Nat} (h : i < xs.length) : xs[i]? = some (gi xs i) := by
  unfold gi
  rw [List.getD_eq_getElem?_getD, List.getElem?_eq_getElem h]
  rfl
def gr (rs : List (List Int)) (i : Nat) : List Int := rs.getD i []
theorem gr_at {rs : List (List Int)} {i : Nat} (h : i < rs.length) : rs[i]? = some (gr rs i) := by
  unfold gr
  rw [List.getD_eq_getElem?_getD, List.getElem?_eq_getElem h]
  rfl
def dt (a : List Int) (ims : List (List Int)) (j : Nat) : Nat → Int
  | 0 => 0
  | n + 1 => dt a ims j n + gi a n * gi (gr ims n) j
def ledL (os ps : List Int) (ims : List (List Int)) (a : List Int) : List Int := mods ps ((List.range ps.length).map fun j => dt a ims j os.length)
abbrev WD (os ps : List Int) (ims : List (List Int)) : D := .tuple [T os, T ps, TT ims]
structure Wy (os ps : List Int) (ims : List (List Int)) : Prop where
  o : Hq os
  p : Hq ps
  l : ims.length = os.length
  im : ∀ i, i < os.length → Im (gi os i) ps (gr ims i)
theorem small_mul {x y : Int} (h1 : -(10 ^ 40) ≤ x ∧ x ≤ 10 ^ 40) (h2 : -(10 ^ 40) ≤ y ∧ y ≤ 10 ^ 40) : mulOk x y := mul_big (small_BB h1.1 h1.2) (small_BB h2.1 h2.2)
theorem Wy.num {os ps : List Int} {ims : List (List Int)} (W : Wy os ps ims) {i j : Nat} (hi : i < os.length) (hj : j < ps.length) : 0 ≤ gi (gr ims i) j ∧ gi (gr ims i) j ≤ 10 ^ 40 ∧ (gr ims i)[j]? = some (gi (gr ims i) j) := by
  have I := W.im i hi
  have e := gi_at (xs := gr ims i) (i := j) (by rw [I.1]; exact hj)
  have := (I.2 j _ _ e (gi_at hj)).1
  have := W.p.2 _ (List.mem_of_getElem? (gi_at hj))
  exact ⟨by omega, by omega, e⟩
theorem led_eq (os ps : List Int) (ims : List (List Int)) (a : List Int) : ledL os ps ims a = (List.range ps.length).map fun j => dt a ims j os.length % gi ps j := by
  unfold ledL
  apply List.ext_getElem?
  intro j
  rw [mods_at]
  by_cases hj : j < ps.length
  · rw [List.getElem?_map, List.getElem?_map, List.getElem?_range hj, gi_at hj]
    rfl
  · have e1 : ((List.range ps.length).map fun j => dt a ims j os.length)[j]? = none := List.getElem?_eq_none (by simp; omega)
    have e2 : ((List.range ps.length).map fun j => dt a ims j os.length % gi ps j)[j]? = none := List.getElem?_eq_none (by simp; omega)
    rw [e1, e2]
    rfl
theorem gi_map {n k : Nat} (f : Nat → Int) (h : k < n) : gi ((List.range n).map f) k = f k := by
  unfold gi
  simp [List.getD_eq_getElem?_getD, h]
def suL (os a b : List Int) : List Int := (List.range os.length).map fun k => (gi a k + gi b k) % gi os k
theorem gi_of {xs : List Int} {i : Nat} {x : Int} (h : xs[i]? = some x) : gi xs i = x := by
  unfold gi
  rw [List.getD_eq_getElem?_getD, h]
  rfl
theorem Hq.gi {os : List Int} (H : Hq os) {i : Nat} (h : i < os.length) : 1 ≤ gi os i ∧ gi os i ≤ 10 ^ 30 := H.2 _ (List.mem_of_getElem? (gi_at h))
theorem Wy.zero {os ps : List Int} {ims : List (List Int)} (W : Wy os ps ims) {i j : Nat} (hi : i < os.length) (hj : j < ps.length) : (gi os i * gi (gr ims i) j) % gi ps j = 0 := by
  have I := W.im i hi
  have e := gi_at (xs := gr ims i) (i := j) (by rw [I.1]; exact hj)
  exact (I.2 j _ _ e (gi_at hj)).2
theorem emod_eq_of_dvd {a b p : Int} (h : p ∣ a - b) : a % p = b % p := Int.emod_eq_emod_iff_emod_sub_eq_zero.mpr (Int.emod_eq_zero_of_dvd h)
theorem led_th {os ps : List Int} {ims : List (List Int)} (H : Hq ps) (a : List Int) : Th ps (ledL os ps ims a) := mods_th H.ho (by simp)
def idL (os : List Int) : List (List Int) := (List.range os.length).map fun i => mods os ((List.range os.length).map fun j => if j = i then 1 else 0)
theorem gr_map {n k : Nat} (f : Nat → List Int) (h : k < n) : gr ((List.range n).map f) k = f k := by
  unfold gr
  simp [List.getD_eq_getElem?_getD, h]
theorem id_gi {os : List Int} {i j : Nat} (hi : i < os.length) (hj : j < os.length) : gi (gr (idL os) i) j = (if j = i then 1 else 0) % gi os j := by
  unfold idL
  rw [gr_map _ hi]
  refine gi_of ?_
  rw [mods_at, List.getElem?_map, List.getElem?_range hj, gi_at hj]
  rfl
theorem wy_id {os : List Int} (H : Hq os) : Wy os os (idL os) := ⟨H, H, by simp [idL], fun i hi => by
  have hl : (gr (idL os) i).length = os.length := by
    unfold idL
    rw [gr_map _ hi]
    exact mods_len (by simp)
  refine ⟨hl, fun j a k e1 e2 => ?_⟩
  have hj := lt_of_at e2
  have h1 := gi_of e1
  have h2 := gi_of e2
  rw [id_gi hi hj, h2] at h1
  have h3 := H.gi hj
  rw [h2] at h3
  refine ⟨?_, ?_⟩
  · rw [← h1]
    exact ⟨Int.emod_nonneg _ (by omega), Int.emod_lt_of_pos _ (by omega)⟩
  · by_cases h : j = i
    · subst h
      rw [h2]
      exact Int.mul_emod_right ..
    · rw [if_neg h] at h1
      rw [← h1]
      simp⟩
theorem dt_id {os a : List Int} (H : Hq os) {j : Nat} (hj : j < os.length) : ∀ n, n ≤ os.length → dt a (idL os) j n = if j < n then gi a j * (1 % gi os j) else 0
  | 0, _ => by simp [dt]
  | n + 1, h => by
    rw [dt, dt_id H hj n (by omega), id_gi (by omega) hj]
    by_cases h1 : j < n
    · rw [if_pos h1, if_neg (by omega), if_pos (by omega)]
      simp
    · rw [if_neg h1]
      by_cases h2 : j = n
      · subst h2
        simp
      · rw [if_neg h2, if_neg (by omega)]
        simp
theorem led_id {os a : List Int} (H : Hq os) (A : Th os a) : ledL os os (idL os) a = a := by
  rw [led_eq]
  apply List.ext_getElem?
  intro j
  by_cases hj : j < os.length
  · rw [List.getElem?_map, List.getElem?_range hj, gi_at (xs := a) (i := j) (by rw [A.1]; exact hj)]
    show some _ = some _
    congr 1
    show dt a (idL os) j os.length % gi os j = gi a j
    rw [dt_id H hj _ (Nat.le_refl _), if_pos hj]
    have ha := A.2 j _ _ (gi_at (xs := a) (by rw [A.1]; exact hj)) (gi_at hj)
    rw [Int.mul_emod, Int.emod_emod_of_dvd _ (Int.dvd_refl _), ← Int.mul_emod, Int.mul_one]
    exact Int.emod_eq_of_lt ha.1 ha.2
  · rw [List.getElem?_eq_none (by simp; omega), List.getElem?_eq_none (by rw [A.1]; omega)]
theorem wy_no {os ps : List Int} (H : Hq os) (HP : Hq ps) : Wy os ps (os.map fun _ => ps.map fun _ => 0) := ⟨H, HP, by simp, fun i hi => by
  have e : gr (os.map fun _ => ps.map fun _ => (0 : Int)) i = ps.map fun _ => 0 := by
    unfold gr
    simp [List.getD_eq_getElem?_getD, hi]
  rw [e]
  refine ⟨by simp, fun j a k e1 e2 => ?_⟩
  rw [List.getElem?_map, e2] at e1
  have e3 : (0 : Int) = a := Option.some.inj e1
  subst e3
  have := HP.2 k (List.mem_of_getElem? e2)
  exact ⟨⟨by omega, by omega⟩, by simp⟩⟩
end K33
namespace K33
open PySem Pu L2
@[simp] theorem sumD_g {γ : Type} (f : γ → Int) (xs : List γ) : sumD (.list (xs.map fun x => .int (f x))) = some (.int (xs.map f).sum) := by
  have e := intsOf_mp (xs.map f)
  rw [List.map_map] at e
  show (intsOf (xs.map fun x => .int (f x))).map (fun ns : List Int => PyData.int ns.sum) = _
  have e2 : intsOf (xs.map fun x => .int (f x)) = some (xs.map f) := e
  rw [e2]
  rfl
@[simp] theorem intD_b (b : Bool) : intD (.bool b) = some (.int (if b then 1 else 0)) := rfl
theorem dt_sum (a : List Int) (ims : List (List Int)) (j : Nat) : ((ims.zipIdx 0).map fun p : List Int × Nat => gi a p.2 * gi p.1 j).sum = dt a ims j ims.length := by
  have e : ((ims.zipIdx 0).map fun p : List Int × Nat => gi a p.2 * gi p.1 j) = (List.range ims.length).map fun i => gi a i * gi (gr ims i) j := by
    apply List.ext_getElem?
    intro i
    rw [List.getElem?_map, List.getElem?_map, List.getElem?_zipIdx]
    by_cases h : i < ims.length
    · rw [gr_at h, List.getElem?_range h]
      simp
    · rw [List.getElem?_eq_none (by omega), List.getElem?_eq_none (by simp; omega)]
      rfl
  rw [e]
  generalize ims.length = n
  induction n with
  | zero => rfl
  | succ n ih => rw [List.range_succ, List.map_append, List.sum_append, ih]; simp [dt]
theorem zip_atR {ims : List (List Int)} {p : List Int × Nat} (h : p ∈ ims.zipIdx 0) : p.2 < ims.length ∧ gr ims p.2 = p.1 := by
  have := List.mem_zipIdx h
  simp at this
  refine ⟨this.1, ?_⟩
  have e := gr_at this.1
  rw [List.getElem?_eq_getElem this.1] at e
  rw [this.2]
  exact (Option.some.inj e).symm
theorem led_word_ok {X : Exn → En → Prop} {os ps : List Int} {ims : List (List Int)} {a : List Int} (W : Wy os ps ims) (A : Th os a) : Wp X (m_led_word [.v (WD os ps ims), .v (T a)]) fun rv _ => rv = .v (T (ledL os ps ims a)) := by
  refine po_fnK fun Y K hY hK _ => ?_
  unfold b_led_word
  refine po_step fun K1 h1 _ _ _ => ?_
  simp
  refine h1 _ ?_
  refine po_step fun K2 h2 _ _ _ => ?_
  simp
  refine h2 _ ?_
  refine po_step fun K3 h3 _ _ _ => ?_
  simp
  have hp6 := W.p.1
  have ho6 := W.o.1
  refine ⟨by omega, ?_⟩
  refine po_rngK (fun j r => ∃ s6, r = [.v (WD os ps ims), .v (T a), .v (T os), .v (T ps), .v (TT ims), .o (.l (((List.range j).map fun j => dt a ims j os.length).map .int)), s6, .unk, .unk] ∧ s6.isIo = false) _ _ ⟨.unk, rfl, rfl⟩ ?_ ?_
  · rintro j r hj ⟨s6, rfl, q6⟩
    refine ⟨[.v (WD os ps ims), .v (T a), .v (T os), .v (T ps), .v (TT ims), .o (.l (((List.range j).map fun j => dt a ims j os.length).map .int)), .v (.int j), .unk, .unk], by simp [q6], fun K4 h4 _ _ _ => ?_⟩
    simp
    have hl := W.l
    refine po_compM (g := fun p : List Int × Nat => PyData.int (gi a p.2 * gi p.1 j)) (fun r => ∃ x y, r = [.v (WD os ps ims), .v (T a), .v (T os), .v (T ps), .v (TT ims), .o (.l (((List.range j).map fun j => dt a ims j os.length).map .int)), .v (.int j), x, y]) (ims.zipIdx 0) [] _ ⟨.unk, .unk, by simp⟩ (by simp [hl]; omega) ?_ ?_
    · rintro ⟨row, i⟩ hp r ⟨x, y, rfl⟩
      obtain ⟨hi, er⟩ := zip_atR hp
      rw [hl] at hi
      change i < os.length at hi
      obtain ⟨n0, n1, ne⟩ := W.num hi hj
      have ea := gi_at (xs := a) (i := i) (by rw [A.1]; exact hi)
      have ha := A.2 i _ _ ea (gi_at hi)
      have hoi := W.o.2 _ (List.mem_of_getElem? (gi_at hi))
      have m1 : mulOk (gi a i) (gi (gr ims i) j) := small_mul ⟨by omega, by omega⟩ ⟨by omega, by omega⟩
      simp at er
      rw [er] at ne m1
      refine ⟨[.v (WD os ps ims), .v (T a), .v (T os), .v (T ps), .v (TT ims), .o (.l (((List.range j).map fun j => dt a ims j os.length).map .int)), .v (.int j), .v (.int i), .v (T row)], by simp, ?_⟩
      simp [ea, ne, m1]
    · rintro r ⟨x, y, rfl⟩
      have e := dt_sum a ims j
      have hl2 : (List.range j).length < 16777216 := by simp; omega
      simp only [List.nil_append, sumD_g, e, hl]
      simp [e, hl]
      refine ⟨by omega, ?_⟩
      refine h4 _ ⟨.v (.int j), ?_, rfl⟩
      simp [List.range_succ]
  · rintro r ⟨s6, rfl, q6⟩
    refine h3 _ ?_
    simp
    have := by_rounds_ok (X := fun e _ => Y e [.v (WD os ps ims), .v (T a), .v (T os), .v (T ps), .v (TT ims), .v (.list (((List.range ps.length).map fun j => dt a ims j os.length).map .int)), s6, .unk, .unk]) (xs := (List.range ps.length).map fun j => dt a ims j os.length) W.p.ho (by simp)
    simp at this
    refine po_mono this ?_
    rintro _ _ rfl
    refine hK _ _ _ rfl ?_
    simp [ledL]
theorem led_ok {X : Exn → En → Prop} {os ps : List Int} {ims : List (List Int)} {a : List Int} (W : Wy os ps ims) (A : Th os a) : Wp X (m_led [.v (WD os ps ims), .v (T a)]) fun rv _ => rv = .v (T (ledL os ps ims a)) := by
  refine po_fnK fun Y K hY hK _ => ?_
  unfold b_led
  refine po_step fun K1 h1 _ _ _ => ?_
  simp [at0]
  refine po_mono (is_thing_ok W.o.1 _) ?_
  rintro _ _ rfl
  simp [thg_T A]
  refine h1 _ ?_
  simp
  refine po_mono (led_word_ok W A) ?_
  rintro _ _ rfl
  exact hK _ _ _ rfl rfl
def gd : Nat → D → Prop
  | 0, _ => False
  | _ + 1, .int _ => True
  | n + 1, .tuple ds => ds.length ≤ 600 ∧ ∀ d ∈ ds, gd n d
  | n + 1, .list ds => ds.length ≤ 600 ∧ ∀ d ∈ ds, gd n d
  | _ + 1, _ => False
@[simp] theorem isT_t (ds : List D) : isiTD ["tuple", "list"] (.tuple ds) = some (.bool true) := by simp [isiTD]
@[simp] theorem isT_l (ds : List D) : isiTD ["tuple", "list"] (.list ds) = some (.bool true) := by simp [isiTD]
@[simp] theorem isT_i (i : Int) : isiTD ["tuple", "list"] (.int i) = some (.bool false) := by simp [isiTD]
theorem bools_tt (n : Nat) : boolsOf ((List.range n).map fun _ => PyData.bool true) = some ((List.range n).map fun _ => true) := boolsOf_map (fun _ => true) _
end K33
namespace K33
open PySem Pu L2
theorem nought_ok {X : Exn → En → Prop} {hs : List Int} (H : Ho hs) : Wp X (m_nought [.v (T hs)]) fun rv _ => rv = .v (T (hs.map fun _ => 0)) := by
  refine po_fnK fun Y K hY hK _ => ?_
  unfold b_nought
  simp
  refine po_compM (g := fun _ : Int => PyData.int 0) (fun r => ∃ a, r = [.v (T hs), a]) hs [] _ ⟨_, rfl⟩ (by have := H.1; simp; omega) ?_ ?_
  · rintro p hp r ⟨a, rfl⟩
    exact ⟨[.v (T hs), .v (.int p)], by simp, by simp⟩
  · rintro r ⟨a, rfl⟩
    simp
    exact hK _ _ _ rfl (by simp)
end K33
namespace K33
open PySem Pu L2
theorem by_rounds_g {X : Exn → En → Prop} {γ : Type} {hs : List Int} {xs : List γ} (g : γ → Int) (H : Ho hs) (hl : xs.length = hs.length) : Wp X (m_by_rounds [.v (T hs), .v (.list (xs.map fun x => .int (g x)))]) fun rv _ => rv = .v (T (mods hs (xs.map g))) := by
  have := by_rounds_ok (X := X) (xs := xs.map g) H (by simpa using hl)
  rw [List.map_map] at this
  exact this
theorem stay_ok {X : Exn → En → Prop} {os : List Int} (H : Hq os) : Wp X (m_stay [.v (T os)]) fun rv _ => rv = .v (WD os os (idL os)) := by
  refine po_fnK fun Y K hY hK _ => ?_
  unfold b_stay
  have h6 := H.1
  refine po_step fun K1 h1 _ _ _ => ?_
  simp [-po_comp]
  refine h1 _ ?_
  refine po_step fun K2 h2 _ _ _ => ?_
  simp [-po_comp]
  refine po_LC1 (fun k : Nat => .int k) (fun i : Nat => T (mods os ((List.range os.length).map fun j => if j = i then 1 else 0))) (List.range os.length) ?_ ?_ ?_ ?_ ?_
  · simp [-po_comp, rng_map]
    omega
  · simp [-po_comp]
  · simp [-po_comp]
    omega
  · intro i hi
    simp [-po_comp]
    refine po_LC1 (fun k : Nat => .int k) (fun j : Nat => .int (if j = i then 1 else 0)) (List.range os.length) ?_ ?_ ?_ ?_ ?_
    · simp [-po_comp, rng_map]
      omega
    · simp [-po_comp]
    · simp [-po_comp]
      omega
    · intro j hj
      by_cases h : j = i
      · simp [-po_comp, h]
      · simp [-po_comp, h, show ¬ (j : Int) = i by omega]
    · simp [-po_comp]
      refine po_mono (by_rounds_g (fun j : Nat => if j = i then 1 else 0) H.ho (by simp [-po_comp])) ?_
      rintro _ _ rfl
      simp [-po_comp]
  · simp [-po_comp]
    refine h2 _ ?_
    simp [-po_comp]
    refine hK _ _ _ rfl ?_
    simp [-po_comp, idL]
theorem none_ok {X : Exn → En → Prop} {os ps : List Int} (H : Hq os) (HP : Hq ps) : Wp X (m_none_way [.v (T os), .v (T ps)]) fun rv _ => rv = .v (WD os ps (os.map fun _ => ps.map fun _ => 0)) := by
  refine po_fnK fun Y K hY hK _ => ?_
  unfold b_none_way
  have h6 := H.1
  simp [-po_comp]
  refine po_LC1 (fun o : Int => .int o) (fun _ : Int => T (ps.map fun _ => 0)) os ?_ ?_ ?_ ?_ ?_
  · simp [-po_comp]
  · simp [-po_comp]
  · omega
  · intro o ho
    simp [-po_comp]
    refine po_mono (nought_ok HP.ho) ?_
    rintro _ _ rfl
    simp [-po_comp]
  · simp [-po_comp]
    exact hK _ _ _ rfl (by simp [-po_comp])
end K33
namespace K33
open PySem Pu L2
theorem need_ok {X : Exn → En → Prop} {hs : List Int} (H : Ho hs) (ts : List (List Int)) (ht : ∀ t ∈ ts, Th hs t) : Wp X (m_need_things [.v (T hs), .v (.list (ts.map T))]) fun rv _ => rv = .v .none := by
  refine po_fnK fun Y K hY _ hN => ?_
  unfold b_need_things
  simp
  refine po_forK (fun _ r => ∃ s, r = [.v (T hs), .v (.list (ts.map T)), s] ∧ s.isIo = false) ts _ ⟨_, rfl, rfl⟩ ?_ ?_
  · rintro done t rest r e ⟨s, rfl, q⟩
    refine ⟨[.v (T hs), .v (.list (ts.map T)), .v (T t)], by simp [q], fun K1 h1 _ _ _ => ?_⟩
    simp
    refine po_mono (is_thing_ok H.1 (T t)) ?_
    rintro _ _ rfl
    simp [thg_T (ht t (by rw [e]; simp))]
    exact h1 _ ⟨_, rfl, rfl⟩
  · rintro r ⟨s, rfl, q⟩
    exact hN _ _ rfl rfl
theorem plus_ok {X : Exn → En → Prop} {hs as bs : List Int} (H : Ho hs) (A : Th hs as) (B : Th hs bs) : Wp X (m_plus [.v (T hs), .v (T as), .v (T bs)]) fun rv _ => rv = .v (T (mods hs (List.zipWith (fun a b => a + b) as bs))) := by
  refine po_fnK fun Y K hY hK _ => ?_
  unfold b_plus
  refine po_step fun K1 h1 _ _ _ => ?_
  simp
  refine po_mono (need_ok H [as, bs] (by
    intro t ht
    simp at ht
    rcases ht with rfl | rfl
    · exact A
    · exact B)) ?_
  rintro _ _ rfl
  refine h1 _ ?_
  have hl6 := H.1
  simp
  refine ⟨by omega, ?_⟩
  rw [rng_map]
  refine po_compM (g := fun i : Nat => PyData.int ((as[i]?).getD 0 + (bs[i]?).getD 0)) (fun r => ∃ a, r = [.v (T hs), .v (T as), .v (T bs), a]) (List.range hs.length) [] _ ⟨_, rfl⟩ (by simp; omega) ?_ ?_
  · rintro i hi r ⟨a, rfl⟩
    have hi := List.mem_range.mp hi
    obtain ⟨x, e1⟩ := at_len (hs := as) (i := i) (by rw [A.1]; exact hi)
    obtain ⟨y, e2⟩ := at_len (hs := bs) (i := i) (by rw [B.1]; exact hi)
    refine ⟨[.v (T hs), .v (T as), .v (T bs), .v (.int i)], by simp, ?_⟩
    simp [e1, e2]
  · rintro r ⟨a, rfl⟩
    have e : ((List.range hs.length).map fun i : Nat => PyData.int ((as[i]?).getD 0 + (bs[i]?).getD 0)) = (List.zipWith (fun a b => a + b) as bs).map .int := by
      apply List.ext_getElem?
      intro i
      rw [List.getElem?_map, List.getElem?_map, List.getElem?_zipWith]
      by_cases hi : i < hs.length
      · obtain ⟨x, e1⟩ := at_len (hs := as) (i := i) (by rw [A.1]; exact hi)
        obtain ⟨y, e2⟩ := at_len (hs := bs) (i := i) (by rw [B.1]; exact hi)
        simp [List.getElem?_range hi, e1, e2]
      · have e1 : as[i]? = none := List.getElem?_eq_none (by rw [A.1]; omega)
        rw [List.getElem?_eq_none (by simp; omega), e1]
        rfl
    simp [e, -List.map_zipWith]
    refine po_mono (by_rounds_ok (xs := List.zipWith (fun a b => a + b) as bs) H (by have h1 := A.1; have h2 := B.1; rw [List.length_zipWith]; omega)) ?_
    rintro _ _ rfl
    exact hK _ _ _ rfl rfl
theorem minus_ok {X : Exn → En → Prop} {hs as bs : List Int} (H : Ho hs) (A : Th hs as) (B : Th hs bs) : Wp X (m_minus [.v (T hs), .v (T as), .v (T bs)]) fun rv _ => rv = .v (T (mods hs (List.zipWith (fun a b => a - b) as bs))) := by
  refine po_fnK fun Y K hY hK _ => ?_
  unfold b_minus
  refine po_step fun K1 h1 _ _ _ => ?_
  simp
  refine po_mono (need_ok H [as, bs] (by
    intro t ht
    simp at ht
    rcases ht with rfl | rfl
    · exact A
    · exact B)) ?_
  rintro _ _ rfl
  refine h1 _ ?_
  have hl6 := H.1
  simp
  refine ⟨by omega, ?_⟩
  rw [rng_map]
  refine po_compM (g := fun i : Nat => PyData.int ((as[i]?).getD 0 - (bs[i]?).getD 0)) (fun r => ∃ a, r = [.v (T hs), .v (T as), .v (T bs), a]) (List.range hs.length) [] _ ⟨_, rfl⟩ (by simp; omega) ?_ ?_
  · rintro i hi r ⟨a, rfl⟩
    have hi := List.mem_range.mp hi
    obtain ⟨x, e1⟩ := at_len (hs := as) (i := i) (by rw [A.1]; exact hi)
    obtain ⟨y, e2⟩ := at_len (hs := bs) (i := i) (by rw [B.1]; exact hi)
    refine ⟨[.v (T hs), .v (T as), .v (T bs), .v (.int i)], by simp, ?_⟩
    simp [e1, e2]
  · rintro r ⟨a, rfl⟩
    have e : ((List.range hs.length).map fun i : Nat => PyData.int ((as[i]?).getD 0 - (bs[i]?).getD 0)) = (List.zipWith (fun a b => a - b) as bs).map .int := by
      apply List.ext_getElem?
      intro i
      rw [List.getElem?_map, List.getElem?_map, List.getElem?_zipWith]
      by_cases hi : i < hs.length
      · obtain ⟨x, e1⟩ := at_len (hs := as) (i := i) (by rw [A.1]; exact hi)
        obtain ⟨y, e2⟩ := at_len (hs := bs) (i := i) (by rw [B.1]; exact hi)
        simp [List.getElem?_range hi, e1, e2]
      · have e1 : as[i]? = none := List.getElem?_eq_none (by rw [A.1]; omega)
        rw [List.getElem?_eq_none (by simp; omega), e1]
        rfl
    simp [e, -List.map_zipWith]
    refine po_mono (by_rounds_ok (xs := List.zipWith (fun a b => a - b) as bs) H (by have h1 := A.1; have h2 := B.1; rw [List.length_zipWith]; omega)) ?_
    rintro _ _ rfl
    exact hK _ _ _ rfl rfl
theorem times_ok {X : Exn → En → Prop} {hs as : List Int} (HQ : Hq hs) (A : Th hs as) (m : Int) (hm : -(10 ^ 40) ≤ m ∧ m ≤ 10 ^ 40) : Wp X (m_times [.v (T hs), .v (.int m), .v (T as)]) fun rv _ => rv = .v (T (mods hs (as.map fun a => m * a))) := by
  have H := HQ.ho
  refine po_fnK fun Y K hY hK _ => ?_
  unfold b_times
  refine po_step fun K1 h1 _ _ _ => ?_
  simp
  refine po_mono (need_ok H [as] (by
    intro t ht
    simp at ht
    rw [ht]
    exact A)) ?_
  rintro _ _ rfl
  refine h1 _ ?_
  have hl6 := H.1
  simp
  refine po_compM (g := fun a : Int => PyData.int (m * a)) (fun r => ∃ a, r = [.v (T hs), .v (.int m), .v (T as), a]) as [] _ ⟨_, rfl⟩ (by simp [A.1]; omega) ?_ ?_
  · rintro x hx r ⟨a, rfl⟩
    obtain ⟨i, hi, e⟩ := List.mem_iff_getElem?.mp hx |>.elim fun i e => (⟨i, lt_of_at e, e⟩ : ∃ i, i < as.length ∧ as[i]? = some x)
    obtain ⟨h, e2⟩ := at_len (hs := hs) (i := i) (by rw [← A.1]; exact hi)
    have := A.2 _ _ _ e e2
    have := HQ.2 h (List.mem_of_getElem? e2)
    refine ⟨[.v (T hs), .v (.int m), .v (T as), .v (.int x)], by simp, ?_⟩
    simp
    exact small_mul hm ⟨by omega, by omega⟩
  · rintro r ⟨a, rfl⟩
    have e : (as.map fun a : Int => PyData.int (m * a)) = (as.map fun a => m * a).map .int := by simp
    simp
    rw [e]
    refine po_mono (by_rounds_ok H (by rw [List.length_map, A.1])) ?_
    rintro _ _ rfl
    exact hK _ _ _ rfl rfl
def mixR (ps : List Int) (x y : Int) (a b : List Int) : List Int := (List.range ps.length).map fun k => (x * gi a k + y * gi b k) % gi ps k
def mixI (os ps : List Int) (x y : Int) (i1 i2 : List (List Int)) : List (List Int) := (List.range os.length).map fun i => mixR ps x y (gr i1 i) (gr i2 i)
theorem mods_eq {hs xs : List Int} (h : xs.length = hs.length) : mods hs xs = (List.range hs.length).map fun k => gi xs k % gi hs k := by
  apply List.ext_getElem?
  intro i
  rw [mods_at, List.getElem?_map]
  by_cases hi : i < hs.length
  · rw [gi_at (xs := xs) (by omega), gi_at hi, List.getElem?_range hi]
    rfl
  · rw [List.getElem?_eq_none (l := xs) (by omega), List.getElem?_eq_none (l := List.range hs.length) (by simp; omega)]
    rfl
theorem gi_zip {as bs : List Int} (f : Int → Int → Int) {k : Nat} (h1 : k < as.length) (h2 : k < bs.length) : gi (List.zipWith f as bs) k = f (gi as k) (gi bs k) := by
  refine gi_of ?_
  rw [List.getElem?_zipWith, gi_at h1, gi_at h2]
theorem plus_mix {hs as bs : List Int} (A : Th hs as) (B : Th hs bs) : mods hs (List.zipWith (fun a b => a + b) as bs) = mixR hs 1 1 as bs := by
  have h1 := A.1
  have h2 := B.1
  rw [mods_eq (by rw [List.length_zipWith]; omega)]
  unfold mixR
  refine List.map_congr_left fun k hk => ?_
  have hk := List.mem_range.mp hk
  rw [gi_zip _ (by omega) (by omega), Int.one_mul, Int.one_mul]
theorem minus_mix {hs as bs : List Int} (A : Th hs as) (B : Th hs bs) : mods hs (List.zipWith (fun a b => a - b) as bs) = mixR hs 1 (-1) as bs := by
  have h1 := A.1
  have h2 := B.1
  rw [mods_eq (by rw [List.length_zipWith]; omega)]
  unfold mixR
  refine List.map_congr_left fun k hk => ?_
  have hk := List.mem_range.mp hk
  rw [gi_zip _ (by omega) (by omega)]
  congr 1
  omega
theorem times_mix {hs as : List Int} (A : Th hs as) (m : Int) (bs : List Int) : mods hs (as.map fun a => m * a) = mixR hs m 0 as bs := by
  have h1 := A.1
  rw [mods_eq (by rw [List.length_map]; omega)]
  unfold mixR
  refine List.map_congr_left fun k hk => ?_
  have hk := List.mem_range.mp hk
  have : gi (as.map fun a => m * a) k = m * gi as k := gi_of (by rw [List.getElem?_map, gi_at (by omega)]; rfl)
  rw [this, Int.zero_mul, Int.add_zero]
end K33
namespace K33
open PySem Pu L2
theorem th_small {os as : List Int} (H : Hq os) (A : Th os as) : ∀ a ∈ as, 0 ≤ a ∧ a ≤ 10 ^ 30 := fun a ha => by
  obtain ⟨i, e⟩ := List.mem_iff_getElem?.mp ha
  obtain ⟨h, e2⟩ := at_len (hs := os) (i := i) (by rw [← A.1]; exact lt_of_at e)
  have := A.2 _ _ _ e e2
  have := H.2 _ (List.mem_of_getElem? e2)
  omega
theorem rq_i {i : Int} (h0 : -(10 ^ 40) ≤ i) (h1 : i ≤ 10 ^ 40) : Rq 1 0 (.int i) := Rq.int (small_BB h0 h1)
theorem rq_T {xs : List Int} (hl : xs.length ≤ 6) (h : ∀ x ∈ xs, 0 ≤ x ∧ x ≤ 10 ^ 30) : Rq 2 6 (T xs) := Rq.tup (n := 6) (ds := xs.map .int) (dp := 1) (bk := 0) (by simpa using hl) fun d hd => by
  obtain ⟨x, hx, rfl⟩ := List.mem_map.mp hd
  have := h x hx
  exact rq_i (by omega) (by omega)
theorem ne_two {a b c d : List Int} (h1 : Rq 3 14 (.tuple [T a, T b])) (h2 : Rq 3 14 (.tuple [T c, T d])) : neD (.tuple [T a, T b]) (.tuple [T c, T d]) = some (.bool (!(decide (a = c) && decide (b = d)))) := by
  rw [neD_tt (h1.shaped (by decide)) (h2.shaped (by decide))]
  congr 3
  show (PyData.eqvAll (a.map .int) (c.map .int) && (PyData.eqvAll (b.map .int) (d.map .int) && true)) = _
  rw [eqv_ints, eqv_ints, Bool.and_true]
theorem hq_small {hs : List Int} (H : Hq hs) : ∀ x ∈ hs, 0 ≤ x ∧ x ≤ 10 ^ 30 := fun x hx => by
  have := H.2 x hx
  omega
theorem rq_2 {a b : List Int} (A : Hq a) (B : Hq b) : Rq 3 14 (.tuple [T a, T b]) := by
  refine (Rq.tup (n := 2) (dp := 2) (bk := 6) (by simp [-po_comp]) fun d hd => ?_).mono (by decide) (by decide)
  rcases List.mem_cons.mp hd with rfl | hd
  · exact rq_T A.1 (hq_small A)
  · rw [List.mem_singleton.mp hd]
    exact rq_T B.1 (hq_small B)
theorem cut2 (x y z : D) : cutL [x, y, z] none (some 2) = [x, y] := by
  rw [show (2 : Int) = ((2 : Nat) : Int) from rfl, cutL_take]
  rfl
theorem alike_ok {X : Exn → En → Prop} {os ps gs qs : List Int} {x y : D} (A : Hq os) (B : Hq ps) (C : Hq gs) (E : Hq qs) (hX : os = gs ∧ ps = qs) : Wp X (m_need_alike [.v (.tuple [T os, T ps, x]), .v (.tuple [T gs, T qs, y])]) fun rv _ => rv = .v .none ∧ os = gs ∧ ps = qs := by
  refine po_fnK fun Y K hY _ hN => ?_
  unfold b_need_alike
  have e := ne_two (rq_2 A B) (rq_2 C E)
  by_cases h : os = gs ∧ ps = qs
  · obtain ⟨rfl, rfl⟩ := h
    simp [-po_comp, cut2, e]
    exact hN _ _ rfl ⟨rfl, rfl, rfl⟩
  · have e2 : (decide (os = gs) && decide (ps = qs)) = false := by simpa using h
    simp [-po_comp, cut2, e, e2]
    exact absurd hX h
theorem enum_rows (ims : List (List Int)) : (ims.zipIdx 0).map (fun p : List Int × Nat => PyData.tuple [.int (p.2 : Int), T p.1]) = (List.range ims.length).map fun i : Nat => PyData.tuple [.int (i : Int), T (gr ims i)] := by
  apply List.ext_getElem?
  intro i
  rw [List.getElem?_map, List.getElem?_map, List.getElem?_zipIdx]
  by_cases hi : i < ims.length
  · rw [gr_at hi, List.getElem?_range hi]
    simp [-po_comp]
  · rw [List.getElem?_eq_none (l := ims) (by omega), List.getElem?_eq_none (l := List.range ims.length) (by simp [-po_comp]; omega)]
    rfl
theorem plus_ways_ok {X : Exn → En → Prop} {os ps : List Int} {i1 i2 : List (List Int)} (W1 : Wy os ps i1) (W2 : Wy os ps i2) : Wp X (m_plus_ways [.v (WD os ps i1), .v (WD os ps i2)]) fun rv _ => rv = .v (WD os ps (mixI os ps 1 1 i1 i2)) := by
  refine po_fnK fun Y K hY hK _ => ?_
  unfold b_plus_ways
  refine po_step fun K1 h1 _ _ _ => ?_
  simp [-po_comp]
  refine po_mono (alike_ok W1.o W1.p W2.o W2.p ⟨rfl, rfl⟩) ?_
  rintro _ _ ⟨rfl, -, -⟩
  refine h1 _ ?_
  have hl1 := W1.l
  have hl2 := W2.l
  have ho := W1.o.1
  refine po_step fun K2 h2 _ _ _ => ?_
  simp [-po_comp]
  refine po_LC2 (fun i : Nat => .int (i : Int)) (fun i : Nat => T (gr i1 i)) (fun i : Nat => T (mixR ps 1 1 (gr i1 i) (gr i2 i))) (List.range os.length) ?_ (by simp [-po_comp]) (by decide) (by simp [-po_comp]; omega) (fun i hi => ?_) ?_
  · have e := enum_rows i1
    rw [hl1] at e
    simp [-po_comp, at2]
    exact e
  · have hi := List.mem_range.mp hi
    have a1 := im_th (W1.im i hi)
    have a2 := im_th (W2.im i hi)
    have eg : (i2.map fun r => T r)[i]? = some (T (gr i2 i)) := by rw [List.getElem?_map, gr_at (by omega)]; rfl
    simp [-po_comp, at1, at2, eg]
    refine po_mono (plus_ok W1.p.ho a1 a2) ?_
    rintro _ _ rfl
    rw [plus_mix a1 a2]
    simp [-po_comp]
  simp [-po_comp]
  refine h2 _ ?_
  simp [-po_comp, at0, at1]
  refine hK _ _ _ rfl ?_
  unfold mixI
  simp [-po_comp]
theorem minus_ways_ok {X : Exn → En → Prop} {os ps : List Int} {i1 i2 : List (List Int)} (W1 : Wy os ps i1) (W2 : Wy os ps i2) : Wp X (m_minus_ways [.v (WD os ps i1), .v (WD os ps i2)]) fun rv _ => rv = .v (WD os ps (mixI os ps 1 (-1) i1 i2)) := by
  refine po_fnK fun Y K hY hK _ => ?_
  unfold b_minus_ways
  refine po_step fun K1 h1 _ _ _ => ?_
  simp [-po_comp]
  refine po_mono (alike_ok W1.o W1.p W2.o W2.p ⟨rfl, rfl⟩) ?_
  rintro _ _ ⟨rfl, -, -⟩
  refine h1 _ ?_
  have hl1 := W1.l
  have hl2 := W2.l
  have ho := W1.o.1
  refine po_step fun K2 h2 _ _ _ => ?_
  simp [-po_comp]
  refine po_LC2 (fun i : Nat => .int (i : Int)) (fun i : Nat => T (gr i1 i)) (fun i : Nat => T (mixR ps 1 (-1) (gr i1 i) (gr i2 i))) (List.range os.length) ?_ (by simp [-po_comp]) (by decide) (by simp [-po_comp]; omega) (fun i hi => ?_) ?_
  · have e := enum_rows i1
    rw [hl1] at e
    simp [-po_comp, at2]
    exact e
  · have hi := List.mem_range.mp hi
    have a1 := im_th (W1.im i hi)
    have a2 := im_th (W2.im i hi)
    have eg : (i2.map fun r => T r)[i]? = some (T (gr i2 i)) := by rw [List.getElem?_map, gr_at (by omega)]; rfl
    simp [-po_comp, at1, at2, eg]
    refine po_mono (minus_ok W1.p.ho a1 a2) ?_
    rintro _ _ rfl
    rw [minus_mix a1 a2]
    simp [-po_comp]
  simp [-po_comp]
  refine h2 _ ?_
  simp [-po_comp, at0, at1]
  refine hK _ _ _ rfl ?_
  unfold mixI
  simp [-po_comp]
theorem times_way_ok {X : Exn → En → Prop} {os ps : List Int} {i1 : List (List Int)} (W1 : Wy os ps i1) (m : Int) (hm : -(10 ^ 40) ≤ m ∧ m ≤ 10 ^ 40) (i2 : List (List Int)) : Wp X (m_times_way [.v (.int m), .v (WD os ps i1)]) fun rv _ => rv = .v (WD os ps (mixI os ps m 0 i1 i2)) := by
  refine po_fnK fun Y K hY hK _ => ?_
  unfold b_times_way
  have hl1 := W1.l
  have ho := W1.o.1
  have er : i1 = (List.range os.length).map fun i => gr i1 i := by
    apply List.ext_getElem?
    intro i
    rw [List.getElem?_map]
    by_cases hi : i < os.length
    · rw [gr_at (by omega), List.getElem?_range hi]
      rfl
    · rw [List.getElem?_eq_none (l := i1) (by omega), List.getElem?_eq_none (l := List.range os.length) (by simp [-po_comp]; omega)]
      rfl
  simp [-po_comp, at0, at1]
  refine po_LC1 (fun i : Nat => T (gr i1 i)) (fun i : Nat => T (mixR ps m 0 (gr i1 i) (gr i2 i))) (List.range os.length) ?_ (by simp [-po_comp]) (by simp [-po_comp]; omega) (fun i hi => ?_) ?_
  · simp [-po_comp, at2]
    conv => lhs; rw [er]
    simp [-po_comp]
  · have hi := List.mem_range.mp hi
    have a1 := im_th (W1.im i hi)
    simp [-po_comp, at1]
    refine po_mono (times_ok W1.p a1 m hm) ?_
    rintro _ _ rfl
    rw [times_mix a1 m (gr i2 i)]
    simp [-po_comp]
  simp [-po_comp]
  refine hK _ _ _ rfl ?_
  unfold mixI
  simp [-po_comp]
def thI (os ps qs : List Int) (i1 i2 : List (List Int)) : List (List Int) := i1.map fun a => ledL ps qs i2 a
theorem gr_th {os ps qs : List Int} {i1 i2 : List (List Int)} {i : Nat} (h : i < i1.length) : gr (thI os ps qs i1 i2) i = ledL ps qs i2 (gr i1 i) := by
  unfold thI gr
  rw [List.getD_eq_getElem?_getD, List.getElem?_map, List.getD_eq_getElem?_getD, List.getElem?_eq_getElem h]
  rfl
theorem led_gi {os ps : List Int} {ims : List (List Int)} {a : List Int} {j : Nat} (hj : j < ps.length) : gi (ledL os ps ims a) j = dt a ims j os.length % gi ps j := by
  rw [led_eq, gi_map _ hj]
theorem dvd_sub_emod (a p : Int) : p ∣ a - a % p := by
  have := Int.mul_ediv_add_emod a p
  exact ⟨a / p, by omega⟩
theorem dt_mul (c : Int) (a b : List Int) (ims : List (List Int)) (j : Nat) : ∀ n, (∀ k, k < n → gi b k = c * gi a k) → dt b ims j n = c * dt a ims j n
  | 0, _ => by simp [-po_comp, dt]
  | n + 1, h => by
    have ih := dt_mul c a b ims j n fun k hk => h k (by omega)
    simp only [dt]
    rw [ih, h n (by omega), Int.mul_add, Int.mul_assoc]
theorem dt_add (a b d : List Int) (ims : List (List Int)) (j : Nat) : ∀ n, (∀ k, k < n → gi d k = gi a k + gi b k) → dt d ims j n = dt a ims j n + dt b ims j n
  | 0, _ => by simp [-po_comp, dt]
  | n + 1, h => by
    have ih := dt_add a b d ims j n fun k hk => h k (by omega)
    simp only [dt]
    rw [ih, h n (by omega), Int.add_mul]
    omega
theorem dt_cong {ps qs : List Int} {i2 : List (List Int)} (W : Wy ps qs i2) {j : Nat} (hj : j < qs.length) {a b : List Int} : ∀ n, n ≤ ps.length → (∀ k, k < n → gi ps k ∣ gi a k - gi b k) → gi qs j ∣ dt a i2 j n - dt b i2 j n
  | 0, _, _ => by simp [-po_comp, dt]
  | n + 1, hn, h => by
    have ih := dt_cong W hj n (by omega) fun k hk => h k (by omega)
    simp only [dt]
    have hz := W.zero (i := n) (by omega) hj
    obtain ⟨c, hc⟩ := h n (by omega)
    obtain ⟨e, he⟩ := Int.dvd_of_emod_eq_zero hz
    have : gi a n * gi (gr i2 n) j - gi b n * gi (gr i2 n) j = gi qs j * (c * e) := by
      rw [← Int.sub_mul, hc, Int.mul_comm (gi ps n) c, Int.mul_assoc, he, Int.mul_left_comm]
    obtain ⟨f, hf⟩ := ih
    exact ⟨f + c * e, by rw [Int.mul_add, ← hf, ← this]; omega⟩
theorem dt_then {os ps qs : List Int} {i1 i2 : List (List Int)} (W1 : Wy os ps i1) (W2 : Wy ps qs i2) {a : List Int} {j : Nat} (hj : j < qs.length) : ∀ n, n ≤ os.length → gi qs j ∣ dt a (thI os ps qs i1 i2) j n - dt ((List.range ps.length).map fun k => dt a i1 k n) i2 j ps.length
  | 0, _ => by
    have : dt ((List.range ps.length).map fun k => dt a i1 k 0) i2 j ps.length = 0 * dt a i2 j ps.length := dt_mul 0 a _ i2 j ps.length fun k hk => by rw [gi_map _ hk]; simp [-po_comp, dt]
    rw [this]
    simp [-po_comp, dt]
  | n + 1, hn => by
    have ih := dt_then W1 W2 (a := a) hj n (by omega)
    have hl1 := W1.l
    have e1 : dt ((List.range ps.length).map fun k => dt a i1 k (n + 1)) i2 j ps.length = dt ((List.range ps.length).map fun k => dt a i1 k n) i2 j ps.length + gi a n * dt (gr i1 n) i2 j ps.length := by
      rw [← dt_mul (gi a n) (gr i1 n) ((List.range ps.length).map fun k => gi a n * gi (gr i1 n) k) i2 j ps.length fun k hk => by rw [gi_map _ hk]]
      refine dt_add _ _ _ i2 j ps.length fun k hk => ?_
      rw [gi_map _ hk, gi_map _ hk, gi_map _ hk]
      rfl
    have e2 : dt a (thI os ps qs i1 i2) j (n + 1) = dt a (thI os ps qs i1 i2) j n + gi a n * (dt (gr i1 n) i2 j ps.length % gi qs j) := by
      show _ + gi a n * gi (gr (thI os ps qs i1 i2) n) j = _
      rw [gr_th (by omega), led_gi hj]
    rw [e1, e2]
    obtain ⟨c, hc⟩ := ih
    obtain ⟨d, hd⟩ := dvd_sub_emod (dt (gr i1 n) i2 j ps.length) (gi qs j)
    refine ⟨c - gi a n * d, ?_⟩
    have : gi a n * (dt (gr i1 n) i2 j ps.length % gi qs j) - gi a n * dt (gr i1 n) i2 j ps.length = - (gi qs j * (gi a n * d)) := by
      rw [← Int.mul_sub, show dt (gr i1 n) i2 j ps.length % gi qs j - dt (gr i1 n) i2 j ps.length = - (gi qs j * d) by omega, Int.mul_neg, Int.mul_left_comm]
    rw [Int.mul_sub, ← hc]
    omega
theorem led_then {os ps qs : List Int} {i1 i2 : List (List Int)} (W1 : Wy os ps i1) (W2 : Wy ps qs i2) (a : List Int) : ledL os qs (thI os ps qs i1 i2) a = ledL ps qs i2 (ledL os ps i1 a) := by
  rw [led_eq, led_eq]
  refine List.map_congr_left fun j hj => ?_
  have hj := List.mem_range.mp hj
  refine emod_eq_of_dvd ?_
  obtain ⟨c, hc⟩ := dt_then W1 W2 (a := a) hj os.length (Nat.le_refl _)
  obtain ⟨d, hd⟩ := dt_cong W2 hj (a := (List.range ps.length).map fun k => dt a i1 k os.length) (b := ledL os ps i1 a) ps.length (Nat.le_refl _) fun k hk => by
    rw [gi_map _ hk, led_gi hk]
    exact dvd_sub_emod _ _
  exact ⟨c + d, by rw [Int.mul_add, ← hc, ← hd]; omega⟩
theorem wy_then {os ps qs : List Int} {i1 i2 : List (List Int)} (W1 : Wy os ps i1) (W2 : Wy ps qs i2) : Wy os qs (thI os ps qs i1 i2) := by
  have hl1 := W1.l
  refine ⟨W1.o, W2.p, by unfold thI; rw [List.length_map]; exact W1.l, fun i hi => ?_⟩
  rw [gr_th (by omega)]
  have th := led_th (os := ps) (ims := i2) W2.p (gr i1 i)
  refine ⟨th.1, fun j a k ea ek => ⟨th.2 j a k ea ek, ?_⟩⟩
  have hj : j < qs.length := lt_of_at ek
  have e1 : a = dt (gr i1 i) i2 j ps.length % gi qs j := by rw [← led_gi hj]; exact (gi_of ea).symm
  have e2 : k = gi qs j := (gi_of ek).symm
  rw [e1, e2]
  obtain ⟨d, hd⟩ := dvd_sub_emod (dt (gr i1 i) i2 j ps.length) (gi qs j)
  obtain ⟨c, hc⟩ := dt_cong W2 hj (a := (List.range ps.length).map fun k => gi os i * gi (gr i1 i) k) (b := (List.range ps.length).map fun _ => 0) ps.length (Nat.le_refl _) fun k hk => by
    rw [gi_map _ hk, gi_map _ hk, Int.sub_zero]
    exact Int.dvd_of_emod_eq_zero (W1.zero hi hk)
  have z1 : dt ((List.range ps.length).map fun k => gi os i * gi (gr i1 i) k) i2 j ps.length = gi os i * dt (gr i1 i) i2 j ps.length := dt_mul _ _ _ i2 j ps.length fun k hk => by rw [gi_map _ hk]
  have z2 : dt ((List.range ps.length).map fun _ => (0 : Int)) i2 j ps.length = 0 * dt (gr i1 i) i2 j ps.length := dt_mul _ _ _ i2 j ps.length fun k hk => by rw [gi_map _ hk]; simp [-po_comp]
  rw [z1, z2, Int.zero_mul, Int.sub_zero] at hc
  refine Int.emod_eq_zero_of_dvd ⟨c - gi os i * d, ?_⟩
  rw [Int.mul_sub, ← hc, show dt (gr i1 i) i2 j ps.length % gi qs j = dt (gr i1 i) i2 j ps.length - gi qs j * d by omega, Int.mul_sub, Int.mul_left_comm (gi os i)]
theorem then_ok {X : Exn → En → Prop} {os ps qs : List Int} {i1 i2 : List (List Int)} (W1 : Wy os ps i1) (W2 : Wy ps qs i2) : Wp X (m_then [.v (WD os ps i1), .v (WD ps qs i2)]) fun rv _ => rv = .v (WD os qs (thI os ps qs i1 i2)) := by
  refine po_fnK fun Y K hY hK _ => ?_
  unfold b_then
  have hl1 := W1.l
  have ho := W1.o.1
  refine po_step fun K1 h1 _ _ _ => ?_
  simp [-po_comp, at0, at1]
  refine h1 _ ?_
  simp [-po_comp, at0, at1]
  refine po_LC1 (fun a : List Int => T a) (fun a : List Int => T (ledL ps qs i2 a)) i1 ?_ (by simp [-po_comp]) (by omega) (fun a ha => ?_) ?_
  · simp [-po_comp, at2]
  · obtain ⟨i, hi, e⟩ := List.getElem_of_mem ha
    have eg : gr i1 i = a := by
      unfold gr
      rw [List.getD_eq_getElem?_getD, List.getElem?_eq_getElem hi, e]
      rfl
    have A := im_th (W1.im i (by omega))
    rw [eg] at A
    simp [-po_comp]
    refine po_mono (led_ok W2 A) ?_
    rintro _ _ rfl
    simp [-po_comp]
  simp [-po_comp]
  refine hK _ _ _ rfl ?_
  unfold thI
  simp [-po_comp]
end K33
namespace K33
open PySem Pu L2
def on1 : D → Bool
  | .int i => decide (1 ≤ i)
  | _ => false
def hou : D → Bool
  | .tuple ds => decide (ds.length ≤ 6) && ds.all on1
  | _ => false
theorem is_house_ok {X : Exn → En → Prop} (d : D) : Wp X (m_is_house [.v d]) fun rv _ => rv = .v (.bool (hou d)) := by
  refine po_fnK fun Y K hY hK _ => ?_
  unfold b_is_house
  refine po_step fun K1 h1 r1 _ _ => ?_
  cases d with
  | tuple ds =>
    by_cases hl : ds.length ≤ 6
    · have hl' : ¬ (6 < ds.length) := by omega
      have hl2 : ¬ ((6 : Int) < (ds.length : Int)) := by omega
      simp [hl2]
      refine h1 _ ?_
      simp
      refine po_compMD (g := fun d => .bool (on1 d)) (fun r => ∃ a, r = [.v (.tuple ds), a]) ds _ ⟨_, rfl⟩ (by omega) ?_ ?_
      · rintro x hx r ⟨a, rfl⟩
        refine ⟨[.v (.tuple ds), .v x], by simp, ?_⟩
        simp
        refine po_mono (whole_ok x) ?_
        rintro _ _ rfl
        cases x <;> simp [wh, on1]
      · rintro r ⟨a, rfl⟩
        simp
        refine hK _ _ _ rfl ?_
        simp [hou, hl]
    · have hl' : 6 < ds.length := by omega
      have hl2 : (6 : Int) < (ds.length : Int) := by omega
      simp [hl2]
      refine r1 _ _ ?_
      exact hK _ _ _ rfl (by simp [hou, hl])
  | _ =>
    simp
    exact r1 _ _ (hK _ _ _ rfl rfl)
theorem hou_T {xs : List Int} (hl : xs.length ≤ 6) (h : ∀ x ∈ xs, 1 ≤ x) : hou (T xs) = true := by
  unfold hou
  simp [hl]
  intro x hx
  simpa [on1] using h x hx
def nb (o p : Int) : D → Bool
  | .int n => decide (0 ≤ n) && (decide (n < p) && decide ((o * n) % p = 0))
  | _ => false
def imB (ps : List Int) (o : Int) : D → Bool
  | .tuple ds => decide (ds.length = ps.length) && (List.range ps.length).all fun j => nb o (ps.getD j 0) (ds.getD j .none)
  | _ => false
def wy (os ps : List Int) : D → Bool
  | .tuple zs => decide (zs.length = os.length) && (List.range os.length).all fun i => imB ps (os.getD i 0) (zs.getD i .none)
  | _ => false
def nsOf (xs : List D) : List Int := xs.map fun d => match d with
  | .int i => i
  | _ => 0
theorem nsT_eq (xs : List Int) : nsOf (xs.map .int) = xs := by
  unfold nsOf
  rw [List.map_map]
  exact List.map_id' xs
def way : D → Bool
  | .tuple [.tuple xs, .tuple ys, z] => (hou (.tuple xs) && hou (.tuple ys)) && wy (nsOf xs) (nsOf ys) z
  | _ => false
theorem hou_ints {d : D} (h : hou d = true) : ∃ xs : List Int, d = T xs ∧ xs.length ≤ 6 ∧ ∀ x ∈ xs, 1 ≤ x := by
  cases d with
  | tuple ds =>
    simp [hou] at h
    obtain ⟨hl, ha⟩ := h
    have key : ∀ ds : List D, (∀ x ∈ ds, on1 x = true) → ∃ xs : List Int, ds = xs.map .int ∧ ∀ x ∈ xs, 1 ≤ x := by
      intro ds
      induction ds with
      | nil => exact fun _ => ⟨[], rfl, by simp⟩
      | cons d ds ih =>
        intro ha
        obtain ⟨xs, e, hx⟩ := ih fun z hz => ha z (List.mem_cons_of_mem _ hz)
        have h1 := ha d (List.mem_cons_self ..)
        cases d with
        | int i =>
          refine ⟨i :: xs, by simp [e], ?_⟩
          intro x hm
          rcases List.mem_cons.mp hm with rfl | hm
          · simpa [on1] using h1
          · exact hx x hm
        | _ => simp [on1] at h1
    obtain ⟨xs, rfl, hx⟩ := key ds ha
    exact ⟨xs, rfl, by simpa using hl, hx⟩
  | _ => cases h
def IB (d : D) : Prop := ∀ xs, d = .tuple xs → ∀ i : Int, PyData.int i ∈ xs → i.natAbs < BB
def SzW (d : D) : Prop := ∀ x y z, d = .tuple [x, y, z] → IB x ∧ IB y
theorem ho_of {d : D} (h : hou d = true) (hb : IB d) : ∃ xs, d = T xs ∧ Ho xs := by
  obtain ⟨xs, rfl, hl, hx⟩ := hou_ints h
  exact ⟨xs, rfl, hl, fun x hm => ⟨hx x hm, hb _ rfl x (List.mem_map.mpr ⟨x, hm, rfl⟩)⟩⟩
theorem thg_ints {hs : List Int} {d : D} (h : thg hs d = true) : ∃ as, d = T as ∧ Th hs as := by
  cases d with
  | tuple ds =>
    simp [thg] at h
    obtain ⟨hl, ha⟩ := h
    refine ⟨nsOf ds, ?_, ?_, ?_⟩
    · have : ds = (nsOf ds).map .int := by
        apply List.ext_getElem?
        intro i
        unfold nsOf
        rw [List.map_map, List.getElem?_map]
        by_cases hi : i < hs.length
        · have := ha i hi
          unfold okA at this
          cases e : ds[i]? with
          | none => rfl
          | some x =>
            rw [e] at this
            cases x with
            | int a => rfl
            | _ => simp at this
        · rw [List.getElem?_eq_none (by omega)]
          rfl
      exact congrArg PyData.tuple this
    · simp [nsOf, hl]
    · intro i a k ea ek
      have hi := lt_of_at ek
      have := ha i hi
      unfold okA at this
      unfold nsOf at ea
      rw [List.getElem?_map] at ea
      cases e : ds[i]? with
      | none =>
        rw [e] at ea
        cases ea
      | some x =>
        rw [e] at ea this
        cases x with
        | int b =>
          cases ea
          rw [ek] at this
          simpa using this
        | _ => simp at this
  | _ => cases h
theorem needB_ok {X : Exn → En → Prop} {hs : List Int} (H : hs.length ≤ 6) (ts : List (List Int)) (ht : ∀ t ∈ ts, Th hs t) : Wp X (m_need_things [.v (T hs), .v (.list (ts.map fun t => T t))]) fun rv _ => rv = .v .none := by
  refine po_fnK fun Y K hY _ hN => ?_
  unfold b_need_things
  simp
  refine po_forK (fun _ r => ∃ s, r = [.v (T hs), .v (.list (ts.map fun t => T t)), s] ∧ s.isIo = false) ts _ ⟨_, rfl, rfl⟩ ?_ ?_
  · rintro done t rest r e ⟨s, rfl, q⟩
    refine ⟨[.v (T hs), .v (.list (ts.map fun t => T t)), .v (T t)], by simp [q], fun K1 h1 _ _ _ => ?_⟩
    simp
    refine po_mono (is_thing_ok H (T t)) ?_
    rintro _ _ rfl
    rw [thg_T (ht t (by rw [e]; simp))]
    simp
    exact h1 _ ⟨_, rfl, rfl⟩
  · rintro r ⟨s, rfl, q⟩
    exact hN _ _ rfl rfl
theorem timesB_ok {X : Exn → En → Prop} {hs as : List Int} (H : Ho hs) (A : Th hs as) (m : Int) (hm : m.natAbs < BB) : Wp X (m_times [.v (T hs), .v (.int m), .v (T as)]) fun rv _ => rv = .v (T (mods hs (as.map fun a => m * a))) := by
  refine po_fnK fun Y K hY hK _ => ?_
  unfold b_times
  refine po_step fun K1 h1 _ _ _ => ?_
  simp
  refine po_mono (needB_ok H.1 [as] (by
    intro t ht
    simp at ht
    rw [ht]
    exact A)) ?_
  rintro _ _ rfl
  refine h1 _ ?_
  have hl6 := H.1
  simp
  refine po_compM (g := fun a : Int => PyData.int (m * a)) (fun r => ∃ a, r = [.v (T hs), .v (.int m), .v (T as), a]) as [] _ ⟨_, rfl⟩ (by simp [A.1]; omega) ?_ ?_
  · rintro x hx r ⟨a, rfl⟩
    obtain ⟨i, hi, e⟩ := List.mem_iff_getElem?.mp hx |>.elim fun i e => (⟨i, lt_of_at e, e⟩ : ∃ i, i < as.length ∧ as[i]? = some x)
    obtain ⟨h, e2⟩ := at_len (hs := hs) (i := i) (by rw [← A.1]; exact hi)
    have h1 := A.2 _ _ _ e e2
    have h2 := H.at e2
    refine ⟨[.v (T hs), .v (.int m), .v (T as), .v (.int x)], by simp, ?_⟩
    simp
    exact mul_big hm (by omega)
  · rintro r ⟨a, rfl⟩
    have e : (as.map fun a : Int => PyData.int (m * a)) = (as.map fun a => m * a).map .int := by simp
    simp
    rw [e]
    refine po_mono (by_rounds_ok H (by rw [List.length_map, A.1])) ?_
    rintro _ _ rfl
    exact hK _ _ _ rfl rfl
theorem wy_false {os ps : List Int} {zs : List D} {i : Nat} {d : D} (hi : i < os.length) (e : zs[i]? = some d) (h : imB ps (os.getD i 0) d = false) : wy os ps (.tuple zs) = false := by
  have : ((List.range os.length).all fun i => imB ps (os.getD i 0) (zs.getD i .none)) = false := by
    rw [List.all_eq_false]
    exact ⟨i, List.mem_range.mpr hi, by rw [getD_at e, h]; exact Bool.false_ne_true⟩
  show (decide (zs.length = os.length) && (List.range os.length).all fun i => imB ps (os.getD i 0) (zs.getD i .none)) = false
  rw [this, Bool.and_false]
theorem wy_true {os ps : List Int} {zs : List D} (hl : zs.length = os.length) (h : ∀ i d, zs[i]? = some d → imB ps (os.getD i 0) d = true) : wy os ps (.tuple zs) = true := by
  have : ((List.range os.length).all fun i => imB ps (os.getD i 0) (zs.getD i .none)) = true := by
    rw [List.all_eq_true]
    intro i hi
    have hi := List.mem_range.mp hi
    have e : zs[i]? = some zs[i] := List.getElem?_eq_getElem (by omega)
    rw [getD_at e]
    exact h i _ e
  show (decide (zs.length = os.length) && (List.range os.length).all fun i => imB ps (os.getD i 0) (zs.getD i .none)) = true
  rw [this, decide_eq_true hl]
  rfl
theorem im_false {ps : List Int} {o : Int} {ds : List D} {j : Nat} {d : D} (hj : j < ps.length) (e : ds[j]? = some d) (h : nb o (ps.getD j 0) d = false) : imB ps o (.tuple ds) = false := by
  have : ((List.range ps.length).all fun j => nb o (ps.getD j 0) (ds.getD j .none)) = false := by
    rw [List.all_eq_false]
    exact ⟨j, List.mem_range.mpr hj, by rw [getD_at e, h]; exact Bool.false_ne_true⟩
  show (decide (ds.length = ps.length) && (List.range ps.length).all fun j => nb o (ps.getD j 0) (ds.getD j .none)) = false
  rw [this, Bool.and_false]
theorem im_true {ps : List Int} {o : Int} {ds : List D} (hl : ds.length = ps.length) (h : ∀ j d, ds[j]? = some d → nb o (ps.getD j 0) d = true) : imB ps o (.tuple ds) = true := by
  have : ((List.range ps.length).all fun j => nb o (ps.getD j 0) (ds.getD j .none)) = true := by
    rw [List.all_eq_true]
    intro j hj
    have hj := List.mem_range.mp hj
    have e : ds[j]? = some ds[j] := List.getElem?_eq_getElem (by omega)
    rw [getD_at e]
    exact h j _ e
  show (decide (ds.length = ps.length) && (List.range ps.length).all fun j => nb o (ps.getD j 0) (ds.getD j .none)) = true
  rw [this, decide_eq_true hl]
  rfl
theorem im_thg {ps : List Int} {o : Int} {d : D} (h : thg ps d = false) : imB ps o d = false := by
  cases d with
  | tuple ds =>
    by_cases hl : ds.length = ps.length
    · have : ¬ ∀ i, i < ps.length → okA ps ds i = true := fun z => by
        have : thg ps (.tuple ds) = true := by
          simp [thg, hl]
          exact z
        rw [h] at this
        cases this
      obtain ⟨i, hi⟩ := Classical.not_forall.mp this
      obtain ⟨hi, hk⟩ := Classical.not_imp.mp hi
      have e : ds[i]? = some ds[i] := List.getElem?_eq_getElem (by omega)
      obtain ⟨p, ep⟩ := at_len (hs := ps) (i := i) hi
      refine im_false hi e ?_
      rw [getD_at ep]
      unfold okA at hk
      rw [e] at hk
      generalize ds[i] = x at *
      cases x with
      | int a =>
        rw [ep] at hk
        have hk : ¬ (decide (0 ≤ a) && decide (a < p)) = true := hk
        show (decide (0 ≤ a) && (decide (a < p) && decide ((o * a) % p = 0))) = false
        cases h1 : decide (0 ≤ a) with
        | false => rfl
        | true =>
          cases h2 : decide (a < p) with
          | false => rfl
          | true =>
            rw [h1, h2] at hk
            exact absurd rfl hk
      | _ => rfl
    · simp [imB, hl]
  | _ => rfl
theorem imB_T {ps as : List Int} {o : Int} (A : Th ps as) : imB ps o (T as) = decide (mods ps (as.map fun a => o * a) = ps.map fun _ => 0) := by
  rw [Bool.eq_iff_iff, decide_eq_true_iff]
  constructor
  · intro h
    have h : (decide ((as.map PyData.int).length = ps.length) && ((List.range ps.length).all fun j => nb o (ps.getD j 0) ((as.map PyData.int).getD j .none))) = true := h
    rw [Bool.and_eq_true, List.all_eq_true] at h
    apply List.ext_getElem?
    intro i
    rw [mods_at, List.getElem?_map, List.getElem?_map]
    by_cases hi : i < ps.length
    · obtain ⟨p, ep⟩ := at_len hi
      obtain ⟨a, ea⟩ := at_len (hs := as) (i := i) (by rw [A.1]; exact hi)
      have := h.2 i (List.mem_range.mpr hi)
      rw [getD_at ep, getD_at (show (as.map PyData.int)[i]? = some (.int a) by rw [List.getElem?_map, ea]; rfl)] at this
      simp [nb] at this
      rw [ea, ep]
      simp [this.2.2]
    · rw [List.getElem?_eq_none (by rw [A.1]; omega : as.length ≤ i), List.getElem?_eq_none (by omega : ps.length ≤ i)]
      rfl
  · intro h
    refine im_true (by simp [A.1]) ?_
    intro j d e
    rw [List.getElem?_map] at e
    cases ea : as[j]? with
    | none =>
      rw [ea] at e
      cases e
    | some a =>
      rw [ea] at e
      cases e
      obtain ⟨p, ep⟩ := at_len (hs := ps) (i := j) (by rw [← A.1]; exact lt_of_at ea)
      have h2 := congrArg (fun l => l[j]?) h
      simp only [mods_at, List.getElem?_map] at h2
      rw [ea, ep] at h2
      simp at h2
      rw [getD_at ep]
      have := A.2 _ _ _ ea ep
      simp [nb, this, h2]
theorem way_len {ds : List D} (h : ds.length ≠ 3) : way (.tuple ds) = false := by
  match ds, h with
  | [], _ => rfl
  | [_], _ => simp [way]
  | [_, _], _ => simp [way]
  | [_, _, _], h => exact absurd rfl h
  | _ :: _ :: _ :: _ :: _, _ => simp [way]
theorem way_h1 {x y z : D} (h : hou x = false) : way (.tuple [x, y, z]) = false := by
  cases x with
  | tuple xs => cases y <;> simp [way, h]
  | _ => simp [way]
theorem way_h2 {x y z : D} (h : hou y = false) : way (.tuple [x, y, z]) = false := by
  cases y with
  | tuple ys => cases x <;> simp [way, h]
  | _ => cases x <;> simp [way]
theorem way_T {os ps : List Int} {z : D} (h1 : hou (T os) = true) (h2 : hou (T ps) = true) : way (.tuple [T os, T ps, z]) = wy os ps z := by
  have : way (.tuple [T os, T ps, z]) = ((hou (T os) && hou (T ps)) && wy (nsOf (os.map .int)) (nsOf (ps.map .int)) z) := rfl
  rw [this, h1, h2, nsT_eq, nsT_eq]
  rfl
theorem is_way_ok {X : Exn → En → Prop} (d : D) (hs : SzW d) : Wp X (m_is_way [.v d]) fun rv _ => rv = .v (.bool (way d)) := by
  refine po_fnK fun Y K hY hK _ => ?_
  unfold b_is_way
  refine po_step fun K1 h1 r1 _ _ => ?_
  cases d with
  | tuple ds =>
    by_cases hl : ds.length = 3
    · obtain ⟨x, y, z, rfl⟩ : ∃ x y z, ds = [x, y, z] := by
        match ds, hl with
        | [x, y, z], _ => exact ⟨x, y, z, rfl⟩
      obtain ⟨bx, by_⟩ := hs x y z rfl
      simp
      refine h1 _ ?_
      refine po_step fun K2 h2 _ _ _ => ?_
      simp
      refine h2 _ ?_
      refine po_step fun K3 h3 r3 _ _ => ?_
      simp
      refine po_mono (is_house_ok x) ?_
      rintro _ _ rfl
      cases hx : hou x with
      | false =>
        simp
        refine r3 _ _ ?_
        exact hK _ _ _ rfl (by rw [way_h1 hx])
      | true =>
        simp
        refine po_mono (is_house_ok y) ?_
        rintro _ _ rfl
        cases hy : hou y with
        | false =>
          simp
          refine r3 _ _ ?_
          exact hK _ _ _ rfl (by rw [way_h2 hy])
        | true =>
          simp
          obtain ⟨os, rfl, HO⟩ := ho_of hx bx
          obtain ⟨ps, rfl, HP⟩ := ho_of hy by_
          rw [way_T hx hy] at hK
          refine h3 _ ?_
          refine po_step fun K4 h4 r4 _ _ => ?_
          cases z with
          | tuple zs =>
            by_cases hz : zs.length = os.length
            · simp [hz]
              refine h4 _ ?_
              refine po_step fun K5 h5 r5 _ _ => ?_
              have e : enOf [.tuple zs] = some ((zs.zipIdx 0).map fun p => .tuple [.int (p.2 : Nat), p.1]) := by
                have := enOf_t (fun d : D => d) zs
                simpa using this
              simp [e]
              refine po_forK (fun done r => (∀ p ∈ done, imB ps (os.getD p.2 0) p.1 = true) ∧ ∃ s4 s5, r = [.v (.tuple [T os, T ps, .tuple zs]), .v (T os), .v (T ps), .v (.tuple zs), s4, s5] ∧ s4.isIo = false ∧ s5.isIo = false) (zs.zipIdx 0) _ ⟨by simp, _, _, rfl, rfl, rfl⟩ ?_ ?_
              · rintro done ⟨im, i⟩ rest r ez ⟨hd, s4, s5, rfl, q4, q5⟩
                have e1 : zs[i]? = some im := by
                  have := List.mem_zipIdx (show (im, i) ∈ zs.zipIdx 0 by rw [ez]; simp)
                  simp at this
                  rw [List.getElem?_eq_getElem this.1]
                  exact congrArg some this.2.symm
                have hi : i < os.length := by rw [← hz]; exact (List.getElem?_eq_some_iff.mp e1).1
                obtain ⟨o, eo⟩ := at_len hi
                refine ⟨[.v (.tuple [T os, T ps, .tuple zs]), .v (T os), .v (T ps), .v (.tuple zs), .v (.int i), .v im], by simp [q4, q5], fun K6 h6 r6 _ _ => ?_⟩
                have bad : imB ps o im = false → K6 (.rt (.v (.bool false))) [.v (.tuple [T os, T ps, .tuple zs]), .v (T os), .v (T ps), .v (.tuple zs), .v (.int i), .v im] := fun hb => by
                  refine r6 _ _ (r5 _ _ ?_)
                  exact hK _ _ _ rfl (by rw [wy_false hi e1 (by rw [getD_at eo]; exact hb)])
                have good : imB ps o im = true → K6 .nx [.v (.tuple [T os, T ps, .tuple zs]), .v (T os), .v (T ps), .v (.tuple zs), .v (.int i), .v im] := fun hg => by
                  refine h6 _ ⟨?_, _, _, rfl, rfl, rfl⟩
                  intro p hp
                  rcases List.mem_append.mp hp with hp | hp
                  · exact hd p hp
                  · rw [List.mem_singleton.mp hp]
                    show imB ps (os.getD i 0) im = true
                    rw [getD_at eo]
                    exact hg
                simp
                refine po_mono (is_thing_ok HP.1 im) ?_
                rintro _ _ rfl
                cases ht : thg ps im with
                | false =>
                  simp
                  exact bad (im_thg ht)
                | true =>
                  obtain ⟨as, rfl, A⟩ := thg_ints ht
                  simp [eo]
                  refine po_mono (timesB_ok HP A o (HO.at eo).2) ?_
                  rintro _ _ rfl
                  simp
                  refine po_mono (nought_ok HP) ?_
                  rintro _ _ rfl
                  have hI := imB_T (o := o) A
                  have en := neD_T (mods ps (as.map fun a => o * a)) (ps.map fun _ => 0)
                  by_cases hq : mods ps (as.map fun a => o * a) = ps.map fun _ => 0
                  · rw [decide_eq_true hq] at hI en
                    simp [en, -List.map_map]
                    exact good hI
                  · rw [decide_eq_false hq] at hI en
                    simp [en, -List.map_map]
                    exact bad hI
              · rintro r ⟨hd, s4, s5, rfl, q4, q5⟩
                refine h5 _ ?_
                simp
                refine hK _ _ _ rfl ?_
                rw [wy_true hz]
                intro i d e
                have hm : (d, i) ∈ zs.zipIdx 0 := by
                  rw [List.mem_zipIdx_iff_getElem?]
                  exact e
                exact hd _ hm
            · have hz2 : ¬ (zs.length : Int) = (os.length : Int) := by omega
              simp [hz2]
              refine r4 _ _ ?_
              exact hK _ _ _ rfl (by simp [wy, hz])
          | _ =>
            simp
            exact r4 _ _ (hK _ _ _ rfl rfl)
    · have hl2 : ¬ (ds.length : Int) = 3 := by omega
      simp [hl2]
      refine r1 _ _ ?_
      exact hK _ _ _ rfl (by rw [way_len hl])
  | _ =>
    simp
    exact r1 _ _ (hK _ _ _ rfl rfl)
theorem Hq.hou {hs : List Int} (h : Hq hs) : hou (T hs) = true := hou_T h.1 fun x hx => (h.2 x hx).1
theorem IB.t {xs : List Int} (h : ∀ x ∈ xs, -(10 ^ 40) ≤ x ∧ x ≤ 10 ^ 40) : IB (T xs) := fun ds e i hi => by
  cases e
  obtain ⟨x, hx, e⟩ := List.mem_map.mp hi
  have e : x = i := by simpa using e
  subst e
  exact small_BB (h _ hx).1 (h _ hx).2
theorem Hq.ib {hs : List Int} (h : Hq hs) : IB (T hs) := IB.t fun x hx => by
  have := h.2 x hx
  omega
theorem IB.o {d : D} (h : ∀ ds, d ≠ .tuple ds) : IB d := fun ds e => absurd e (h ds)
theorem szw {x y z : D} (hx : IB x) (hy : IB y) : SzW (.tuple [x, y, z]) := fun a b c e => by
  cases e
  exact ⟨hx, hy⟩
def Wi (ds : List D) : Prop := ∀ i : Int, PyData.int i ∈ ds → i.natAbs < BB
theorem Wi.ib {ds : List D} (h : Wi ds) : IB (.tuple ds) := fun es e => by
  cases e
  exact h
theorem Wi.cons {d : D} {xs : List D} (h1 : ∀ i, d = .int i → i.natAbs < BB) (h2 : Wi xs) : Wi (d :: xs) := fun i hi => by
  rcases List.mem_cons.mp hi with e | hi
  · exact h1 i e.symm
  · exact h2 i hi
theorem im_way {os ps : List Int} {ims : List (List Int)} (HO : Hq os) (HP : Hq ps) (hl : ims.length = os.length) (hi : ∀ (i : Nat) (o : Int) (as : List Int), os[i]? = some o → ims[i]? = some as → Im o ps as) : way (.tuple [T os, T ps, TT ims]) = true := by
  rw [way_T HO.hou HP.hou]
  refine wy_true (by simp [hl]) ?_
  intro i d e
  rw [List.getElem?_map] at e
  cases ea : ims[i]? with
  | none =>
    rw [ea] at e
    cases e
  | some as =>
    rw [ea] at e
    cases e
    obtain ⟨o, eo⟩ := at_len (hs := os) (i := i) (by rw [← hl]; exact (List.getElem?_eq_some_iff.mp ea).1)
    have I := hi i o as eo ea
    rw [getD_at eo]
    refine im_true (by simp [I.1]) ?_
    intro j d ed
    rw [List.getElem?_map] at ed
    cases ej : as[j]? with
    | none =>
      rw [ej] at ed
      cases ed
    | some a =>
      rw [ej] at ed
      cases ed
      obtain ⟨k, ek⟩ := at_len (hs := ps) (i := j) (by rw [← I.1]; exact lt_of_at ej)
      have := I.2 _ _ _ ej ek
      rw [getD_at ek]
      simp [nb, this]
end K33
namespace K33
open PySem Pu L2
theorem common_ok {X : Exn → En → Prop} (a b : Nat) : Wp X (m_common_measure [.v (.int a), .v (.int b)]) fun rv _ => rv = .v (.int (Nat.gcd a b)) := by
  refine po_fn ?_
  unfold b_common_measure
  have e : ∀ x : Nat, ¬ ((x : Int) < 0) := fun x => by omega
  simp [po_seq, e]
  refine po_while (fun n r => ∃ x y : Nat, r = [.v (.int a), .v (.int b), .v (.int x), .v (.int y)] ∧ n = y ∧ Nat.gcd x y = Nat.gcd a b) ?_ b _ ⟨a, b, rfl, rfl, rfl⟩
  rintro n r ⟨x, y, rfl, hn, hg⟩
  simp
  split
  · refine ⟨by omega, x % y, by rw [hn]; exact Nat.mod_lt _ (by omega), y, x % y, ⟨rfl, ?_⟩, rfl, by rw [gcd_step]; exact hg⟩
    rw [Int.fmod_eq_emod_of_nonneg _ (by omega)]
    rfl
  · have : y = 0 := by omega
    subst this
    rw [Nat.gcd_zero_right] at hg
    rw [hg]
def gg (o p : Int) : Int := (Nat.gcd o.toNat p.toNat : Nat)
def sh (o p : Int) : Int := p / gg o p
theorem gg_pos {o p : Int} (h : 1 ≤ o) : 1 ≤ gg o p := by
  have := Nat.gcd_pos_of_pos_left p.toNat (show 0 < o.toNat by omega)
  unfold gg
  omega
theorem gg_le {o p : Int} (h : 1 ≤ p) : gg o p ≤ p := by
  have := Nat.gcd_le_right o.toNat (show 0 < p.toNat by omega)
  unfold gg
  omega
theorem gg_dvd {o p : Int} (h : 1 ≤ p) : gg o p ∣ p := by
  have := Nat.gcd_dvd_right o.toNat p.toNat
  unfold gg
  have e : p = (p.toNat : Int) := by omega
  have h2 := Int.ofNat_dvd.mpr this
  rwa [← e] at h2
theorem gg_dvdl {o p : Int} (h : 1 ≤ o) : gg o p ∣ o := by
  have := Nat.gcd_dvd_left o.toNat p.toNat
  unfold gg
  have e : o = (o.toNat : Int) := by omega
  have h2 := Int.ofNat_dvd.mpr this
  rwa [← e] at h2
theorem gg_sh {o p : Int} (h : 1 ≤ p) : gg o p * sh o p = p := Int.mul_ediv_cancel' (gg_dvd h)
theorem sh_pos {o p : Int} (ho : 1 ≤ o) (h : 1 ≤ p) : 1 ≤ sh o p := by
  have h1 := gg_sh (o := o) h
  have h2 := gg_pos (p := p) ho
  rcases Int.lt_or_le 0 (sh o p) with h3 | h3
  · omega
  · have := Int.mul_nonneg (show 0 ≤ gg o p by omega) (show 0 ≤ - sh o p by omega)
    rw [Int.mul_neg, h1] at this
    omega
theorem sh_le {o p : Int} (ho : 1 ≤ o) (h : 1 ≤ p) : sh o p ≤ p := Int.ediv_le_self _ (by omega)
theorem measure_gg {X : Exn → En → Prop} {o p : Int} (ho : 1 ≤ o) (hp : 1 ≤ p) : Wp X (m__law_measure [.v (.int o), .v (.int p)]) fun rv _ => rv = .v (.int (gg o p)) := by
  have e1 : o = (o.toNat : Int) := by omega
  have e2 : p = (p.toNat : Int) := by omega
  have := measure_ok (X := X) o.toNat p.toNat
  rw [← e1, ← e2] at this
  exact this
theorem common_gg {X : Exn → En → Prop} {o p : Int} (ho : 1 ≤ o) (hp : 1 ≤ p) : Wp X (m_common_measure [.v (.int o), .v (.int p)]) fun rv _ => rv = .v (.int (gg o p)) := by
  have e1 : o = (o.toNat : Int) := by omega
  have e2 : p = (p.toNat : Int) := by omega
  have := common_ok (X := X) o.toNat p.toNat
  rw [← e1, ← e2] at this
  exact this
theorem lg_small {n : Int} (h0 : 0 ≤ n) (h1 : n ≤ 10 ^ 40) : n.natAbs.log2 < 9000 := by
  have := PySem.Flt.log2_lt_of (n := n.natAbs) (k := 1900) (by decide) (small_BB (by omega) h1)
  omega
def pr : List Int → Int
  | [] => 1
  | x :: xs => x * pr xs
theorem pr_app (xs ys : List Int) : pr (xs ++ ys) = pr xs * pr ys := by
  induction xs with
  | nil => simp [pr]
  | cons x xs ih => simp [pr, ih, Int.mul_assoc]
theorem pr_pos {xs : List Int} (h : ∀ x ∈ xs, 1 ≤ x) : 1 ≤ pr xs := by
  induction xs with
  | nil => simp [pr]
  | cons x xs ih =>
    have h1 := h x (by simp)
    have h2 := ih fun y hy => h y (by simp [hy])
    have := Int.mul_le_mul h1 h2 (by omega) (by omega)
    simpa [pr] using this
theorem pr_pre {xs ys : List Int} (h : ∀ x ∈ xs ++ ys, 1 ≤ x) : pr xs ≤ pr (xs ++ ys) := by
  rw [pr_app]
  have h1 := pr_pos (xs := xs) fun x hx => h x (by simp [hx])
  have h2 := pr_pos (xs := ys) fun x hx => h x (by simp [hx])
  have := Int.mul_le_mul_of_nonneg_left h2 (show 0 ≤ pr xs by omega)
  omega
theorem pr_mem {xs : List Int} (h : ∀ x ∈ xs, 1 ≤ x) {x : Int} (hx : x ∈ xs) : x ≤ pr xs := by
  obtain ⟨a, b, rfl⟩ := List.append_of_mem hx
  rw [pr_app]
  have h1 := pr_pos (xs := a) fun y hy => h y (by simp [hy])
  have h2 := pr_pos (xs := b) fun y hy => h y (by simp [hy])
  have hx1 := h x hx
  have h3 := Int.mul_le_mul_of_nonneg_left h2 (show 0 ≤ x by omega)
  have h4 := Int.mul_le_mul h1 h3 (by omega) (by omega)
  simp only [pr]
  omega
theorem pr_le {B : Int} (hB : 1 ≤ B) {xs : List Int} (h : ∀ x ∈ xs, 1 ≤ x ∧ x ≤ B) : pr xs ≤ B ^ xs.length := by
  induction xs with
  | nil => simp [pr]
  | cons x xs ih =>
    have h1 := h x (by simp)
    have h2 := ih fun y hy => h y (by simp [hy])
    have h3 := pr_pos (xs := xs) fun y hy => (h y (by simp [hy])).1
    have := Int.mul_le_mul h1.2 h2 (by omega) (by omega)
    simp only [pr, List.length_cons, Int.pow_succ]
    rw [Int.mul_comm (B ^ xs.length)]
    exact this
theorem powL {B : Int} (hB : 1 ≤ B) {m n : Nat} (h : m ≤ n) : B ^ m ≤ B ^ n := by
  obtain ⟨k, rfl⟩ := Nat.le.dest h
  induction k with
  | zero => simp
  | succ k ih =>
    have ih := ih (by omega)
    have hp : 0 ≤ B ^ (m + k) := Int.pow_nonneg (by omega)
    have := Int.mul_le_mul_of_nonneg_left hB hp
    rw [← Nat.add_assoc, Int.pow_succ]
    omega
def Hs (hs : List Int) : Prop := hs.length ≤ 6 ∧ ∀ h ∈ hs, 1 ≤ h ∧ h ≤ 10 ^ 6
theorem Hs.gi {os : List Int} (H : Hs os) {i : Nat} (h : i < os.length) : 1 ≤ gi os i ∧ gi os i ≤ 10 ^ 6 := H.2 _ (List.mem_of_getElem? (gi_at h))
def cG (o : Int) (ps : List Int) : Int := pr (ps.map (gg o))
def cnt (os ps : List Int) : Int := pr (os.map fun o => cG o ps)
theorem gg_mem {o : Int} {ps : List Int} (ho : 1 ≤ o) : ∀ x ∈ ps.map (gg o), 1 ≤ x := fun x hx => by
  obtain ⟨p, _, rfl⟩ := List.mem_map.mp hx
  exact gg_pos ho
theorem cG_pos {o : Int} {ps : List Int} (ho : 1 ≤ o) : 1 ≤ cG o ps := pr_pos (gg_mem ho)
theorem cG_mem {os ps : List Int} (HO : Hs os) : ∀ x ∈ os.map (fun o => cG o ps), 1 ≤ x := fun x hx => by
  obtain ⟨o, h, rfl⟩ := List.mem_map.mp hx
  exact cG_pos (HO.2 o h).1
theorem cnt_pos {os ps : List Int} (HO : Hs os) : 1 ≤ cnt os ps := pr_pos (cG_mem HO)
theorem cG_cnt {os ps : List Int} (HO : Hs os) {o : Int} (ho : o ∈ os) : cG o ps ≤ cnt os ps := pr_mem (cG_mem HO) (List.mem_map_of_mem ho)
theorem cG_pre {o : Int} {ps qs : List Int} (ho : 1 ≤ o) : cG o ps ≤ cG o (ps ++ qs) := by
  unfold cG
  rw [List.map_append]
  exact pr_pre (by rw [← List.map_append]; exact gg_mem ho)
theorem cnt_pre {os qs ps : List Int} (HO : Hs (os ++ qs)) : cnt os ps ≤ cnt (os ++ qs) ps := by
  unfold cnt
  rw [List.map_append]
  exact pr_pre (by rw [← List.map_append]; exact cG_mem HO)
theorem cG_le {o : Int} {ps : List Int} (ho : 1 ≤ o) (HP : Hs ps) : cG o ps ≤ (10 ^ 6) ^ 6 := by
  have h1 := pr_le (B := 10 ^ 6) (by decide) (xs := ps.map (gg o)) fun x hx => by
    obtain ⟨p, hp, rfl⟩ := List.mem_map.mp hx
    have := HP.2 p hp
    have := gg_le (o := o) this.1
    exact ⟨gg_pos ho, by omega⟩
  rw [List.length_map] at h1
  exact Int.le_trans h1 (powL (by decide) HP.1)
theorem cnt_le {os ps : List Int} (HO : Hs os) (HP : Hs ps) : cnt os ps ≤ ((10 ^ 6) ^ 6) ^ 6 := by
  have h1 := pr_le (B := (10 ^ 6) ^ 6) (by decide) (xs := os.map fun o => cG o ps) fun x hx => by
    obtain ⟨o, ho, rfl⟩ := List.mem_map.mp hx
    exact ⟨cG_pos (HO.2 o ho).1, cG_le (HO.2 o ho).1 HP⟩
  rw [List.length_map] at h1
  exact Int.le_trans h1 (powL (by decide) HO.1)
def ext {α : Type} (F : List (List α)) (G : List α) : List (List α) := F.flatMap fun x => G.map fun g => x ++ [g]
theorem ext_len {α : Type} (F : List (List α)) (G : List α) : (ext F G).length = F.length * G.length := by
  unfold ext
  induction F with
  | nil => simp
  | cons x F ih => rw [List.flatMap_cons, List.length_append, ih, List.length_map, List.length_cons, Nat.succ_mul, Nat.add_comm]
theorem ext_app {α : Type} (F F' : List (List α)) (G : List α) : ext (F ++ F') G = ext F G ++ ext F' G := List.flatMap_append
theorem ext_one {α : Type} (x : List α) (G : List α) : ext [x] G = G.map fun g => x ++ [g] := by simp [ext]
def shs (o p : Int) : List Int := (List.range (gg o p).toNat).map fun k : Nat => sh o p * k
def imF (o : Int) (ps : List Int) : List (List Int) := ps.foldl (fun F p => ext F (shs o p)) [[]]
theorem imF_app (o : Int) (ps : List Int) (p : Int) : imF o (ps ++ [p]) = ext (imF o ps) (shs o p) := by simp [imF]
def wyF (os ps : List Int) : List (List (List Int)) := os.foldl (fun F o => ext F (imF o ps)) [[]]
theorem wyF_app (os ps : List Int) (o : Int) : wyF (os ++ [o]) ps = ext (wyF os ps) (imF o ps) := by simp [wyF]
theorem rev_ind {α : Type} {P : List α → Prop} (h0 : P []) (hs : ∀ xs x, P xs → P (xs ++ [x])) (xs : List α) : P xs := by
  have key : ∀ n (xs : List α), xs.length = n → P xs := by
    intro n
    induction n with
    | zero => intro xs h; rw [List.length_eq_zero_iff.mp h]; exact h0
    | succ n ih =>
      intro xs h
      have hne : xs ≠ [] := by intro z; rw [z] at h; cases h
      rw [← List.dropLast_concat_getLast hne]
      exact hs _ _ (ih _ (by rw [List.length_dropLast]; omega))
  exact key _ xs rfl
theorem shs_len {o p : Int} (ho : 1 ≤ o) : ((shs o p).length : Int) = gg o p := by
  have := gg_pos (p := p) ho
  simp [shs]
  omega
theorem imF_len {o : Int} (ho : 1 ≤ o) (ps : List Int) : ((imF o ps).length : Int) = cG o ps := by
  induction ps using rev_ind with
  | h0 => simp [imF, cG, pr]
  | hs ps p ih =>
    rw [imF_app, ext_len]
    unfold cG at *
    rw [List.map_append, pr_app, ← ih]
    simp [pr, ← shs_len (p := p) ho]
theorem wyF_len {os : List Int} (ps : List Int) (H : ∀ o ∈ os, 1 ≤ o) : ((wyF os ps).length : Int) = cnt os ps := by
  induction os using rev_ind with
  | h0 => simp [wyF, cnt, pr]
  | hs os o ih =>
    rw [wyF_app, ext_len]
    have ih := ih fun o ho => H o (by simp [ho])
    unfold cnt at *
    rw [List.map_append, pr_app, ← ih]
    simp [pr, ← imF_len (H o (by simp)) ps]
theorem gi_l {xs : List Int} {y : Int} {j : Nat} (h : j < xs.length) : gi (xs ++ [y]) j = gi xs j := by
  refine gi_of ?_
  rw [List.getElem?_append_left h]
  exact gi_at h
theorem gi_e (xs : List Int) (y : Int) : gi (xs ++ [y]) xs.length = y := gi_of (by simp)
end K33
namespace K33
open PySem Pu L2
theorem sixle {a : Nat} (h : (a : Int) ≤ 520) : a ≤ 520 := by omega
theorem many_ok {X : Exn → En → Prop} {os ps : List Int} (HO : Hs os) (HP : Hs ps) : Wp X (m_many_ways [.v (T os), .v (T ps)]) fun rv _ => rv = .v (.int (cnt os ps)) := by
  refine po_fnK fun Y K hY hK _ => ?_
  unfold b_many_ways
  refine po_step fun K1 h1 _ _ _ => ?_
  simp [-po_comp]
  refine h1 _ ?_
  refine po_step fun K2 h2 _ _ _ => ?_
  simp [-po_comp]
  refine po_forK (fun done r => ∃ s3 s4 : Sl, r = [.v (T os), .v (T ps), .v (.int (cnt done ps)), s3, s4] ∧ s3.isIo = false ∧ s4.isIo = false) os _ ⟨.unk, .unk, by simp [-po_comp, cnt, pr], rfl, rfl⟩ ?_ ?_
  · rintro done o rest r e ⟨s3, s4, rfl, q3, q4⟩
    have ho := HO.2 o (by rw [e]; simp [-po_comp])
    have HD : Hs (done ++ [o]) := by
      have e2 : os = (done ++ [o]) ++ rest := by rw [e]; simp [-po_comp]
      refine ⟨?_, fun x hx => HO.2 x (by rw [e2]; exact List.mem_append_left _ hx)⟩
      have := HO.1
      rw [e2, List.length_append] at this
      omega
    have HD0 : Hs done := ⟨by have := HD.1; rw [List.length_append] at this; omega, fun x hx => HD.2 x (by simp [-po_comp, hx])⟩
    refine ⟨[.v (T os), .v (T ps), .v (.int (cnt done ps)), .v (.int o), s4], by simp [-po_comp, q3], fun K3 h3 _ _ _ => ?_⟩
    simp [-po_comp]
    refine po_forK (fun dn r => ∃ s4 : Sl, r = [.v (T os), .v (T ps), .v (.int (cnt done ps * cG o dn)), .v (.int o), s4] ∧ s4.isIo = false) ps _ ⟨s4, by simp [-po_comp, cG, pr], q4⟩ ?_ ?_
    · rintro dn p rest r e ⟨s4, rfl, q4⟩
      have hp := HP.2 p (by rw [e]; simp [-po_comp])
      have c1 := cnt_pos (ps := ps) HD0
      have c2 := cG_pos (ps := dn) ho.1
      have hle : cnt done ps * cG o dn ≤ ((10 ^ 6) ^ 6) ^ 6 := by
        have a1 : cG o dn ≤ cG o ps := by rw [e]; exact cG_pre ho.1
        have a2 : cnt done ps * cG o ps = cnt (done ++ [o]) ps := by
          unfold cnt
          rw [List.map_append, pr_app]
          simp [-po_comp, pr]
        have a3 := cnt_le HD HP
        have a4 := Int.mul_le_mul_of_nonneg_left a1 (show 0 ≤ cnt done ps by omega)
        omega
      have hge : 0 ≤ cnt done ps * cG o dn := Int.mul_nonneg (by omega) (by omega)
      have g1 := gg_pos (o := o) (p := p) ho.1
      have g2 := gg_le (o := o) (p := p) hp.1
      have hm : mulOk (cnt done ps * cG o dn) (gg o p) := mulOk_r ⟨by omega, by omega⟩
      refine ⟨[.v (T os), .v (T ps), .v (.int (cnt done ps * cG o dn)), .v (.int o), .v (.int p)], by simp [-po_comp, q4], fun K4 h4 _ _ _ => ?_⟩
      simp [-po_comp]
      refine po_mono (common_gg ho.1 hp.1) ?_
      rintro _ _ rfl
      simp [-po_comp, hm]
      refine h4 _ ⟨.v (.int p), ?_, rfl⟩
      simp [-po_comp, cG, pr_app, pr, Int.mul_assoc]
    · rintro r ⟨s4, rfl, q4⟩
      refine h3 _ ⟨.v (.int o), s4, ?_, rfl, q4⟩
      simp [-po_comp, cnt, pr_app, pr]
  · rintro r ⟨s3, s4, rfl, q3, q4⟩
    refine h2 _ ?_
    simp [-po_comp]
    exact hK _ _ _ rfl rfl
theorem lcount_ok {X : Exn → En → Prop} {os ps : List Int} (HO : os.length ≤ 7 ∧ ∀ h ∈ os, 1 ≤ h ∧ h ≤ 10 ^ 6) (HP : Hs ps) : Wp X (m__law_count [.v (T os), .v (T ps)]) fun rv _ => rv = .v (.int (cnt os ps)) := by
  refine po_fnK fun Y K hY hK _ => ?_
  unfold b__law_count
  refine po_step fun K1 h1 _ _ _ => ?_
  simp [-po_comp]
  refine h1 _ ?_
  refine po_step fun K2 h2 _ _ _ => ?_
  simp [-po_comp]
  refine po_forK (fun done r => ∃ s3 s4 : Sl, r = [.v (T os), .v (T ps), .v (.int (cnt done ps)), s3, s4] ∧ s3.isIo = false ∧ s4.isIo = false) os _ ⟨.unk, .unk, by simp [-po_comp, cnt, pr], rfl, rfl⟩ ?_ ?_
  · rintro done o rest r e ⟨s3, s4, rfl, q3, q4⟩
    have ho := HO.2 o (by rw [e]; simp [-po_comp])
    refine ⟨[.v (T os), .v (T ps), .v (.int (cnt done ps)), .v (.int o), s4], by simp [-po_comp, q3], fun K3 h3 _ _ _ => ?_⟩
    simp [-po_comp]
    refine po_forK (fun dn r => ∃ s4 : Sl, r = [.v (T os), .v (T ps), .v (.int (cnt done ps * cG o dn)), .v (.int o), s4] ∧ s4.isIo = false) ps _ ⟨s4, by simp [-po_comp, cG, pr], q4⟩ ?_ ?_
    · rintro dn p rest r e ⟨s4, rfl, q4⟩
      have hp := HP.2 p (by rw [e]; simp [-po_comp])
      have g1 := gg_pos (o := o) (p := p) ho.1
      have g2 := gg_le (o := o) (p := p) hp.1
      have hm : mulOk (cnt done ps * cG o dn) (gg o p) := mulOk_r ⟨by omega, by omega⟩
      refine ⟨[.v (T os), .v (T ps), .v (.int (cnt done ps * cG o dn)), .v (.int o), .v (.int p)], by simp [-po_comp, q4], fun K4 h4 _ _ _ => ?_⟩
      simp [-po_comp]
      refine po_mono (measure_gg ho.1 hp.1) ?_
      rintro _ _ rfl
      simp [-po_comp, hm]
      refine h4 _ ⟨.v (.int p), ?_, rfl⟩
      simp [-po_comp, cG, pr_app, pr, Int.mul_assoc]
    · rintro r ⟨s4, rfl, q4⟩
      refine h3 _ ⟨.v (.int o), s4, ?_, rfl, q4⟩
      simp [-po_comp, cnt, pr_app, pr]
  · rintro r ⟨s3, s4, rfl, q3, q4⟩
    refine h2 _ ?_
    simp [-po_comp]
    exact hK _ _ _ rfl rfl
abbrev TS (F : List (List Int)) : List D := F.map fun x => T x
abbrev TTS (F : List (List (List Int))) : List D := F.map fun x => TT x
theorem ext_TS (F : List (List Int)) (x : List Int) (G : List Int) : TS (ext (F ++ [x]) G) = TS (ext F G) ++ G.map fun g => T (x ++ [g]) := by
  rw [ext_app, ext_one]
  simp [-po_comp, TS]
theorem ext_TTS (F : List (List (List Int))) (x : List (List Int)) (G : List (List Int)) : TTS (ext (F ++ [x]) G) = TTS (ext F G) ++ G.map fun g => TT (x ++ [g]) := by
  rw [ext_app, ext_one]
  simp [-po_comp, TTS]
theorem ext_le {α : Type} {F F' : List (List α)} {G : List α} {x : List α} {n : Nat} (h : (ext (F ++ x :: F') G).length ≤ n) : (ext F G).length + G.length ≤ n := by
  rw [ext_len, List.length_append, List.length_cons] at h
  rw [ext_len]
  have : (F.length + 1) * G.length ≤ (F.length + (F'.length + 1)) * G.length := Nat.mul_le_mul_right _ (by omega)
  rw [Nat.succ_mul] at this
  omega
theorem ext_mem {α : Type} {F : List (List α)} {G : List α} {x : List α} (h : x ∈ ext F G) : ∃ z g, z ∈ F ∧ g ∈ G ∧ x = z ++ [g] := by
  unfold ext at h
  obtain ⟨z, hz, hx⟩ := List.mem_flatMap.mp h
  obtain ⟨g, hg, rfl⟩ := List.mem_map.mp hx
  exact ⟨z, g, hz, hg, rfl⟩
theorem imF_mem {o : Int} (ho : 1 ≤ o) {ps x : List Int} (H : ∀ p ∈ ps, 1 ≤ p ∧ p ≤ 10 ^ 6) (h : x ∈ imF o ps) : x.length = ps.length ∧ ∀ y ∈ x, 0 ≤ y ∧ y ≤ 10 ^ 6 := by
  induction ps using rev_ind generalizing x with
  | h0 =>
    simp [-po_comp, imF] at h
    subst h
    simp [-po_comp]
  | hs ps p ih =>
    rw [imF_app] at h
    obtain ⟨z, g, hz, hg, rfl⟩ := ext_mem h
    have i1 := ih (fun p hp => H p (by simp [-po_comp, hp])) hz
    refine ⟨by simp [-po_comp, i1.1], fun y hy => ?_⟩
    rw [List.mem_append] at hy
    rcases hy with hy | hy
    · exact i1.2 y hy
    · rw [List.mem_singleton.mp hy]
      obtain ⟨k, hk, rfl⟩ := List.mem_map.mp hg
      have hk := List.mem_range.mp hk
      have hp := H p (by simp [-po_comp])
      have s1 := sh_pos ho hp.1
      have h1 := gg_sh (o := o) hp.1
      have hk2 : (k : Int) ≤ gg o p := by omega
      have := Int.mul_le_mul_of_nonneg_left hk2 (show 0 ≤ sh o p by omega)
      rw [Int.mul_comm (sh o p) (gg o p), h1] at this
      exact ⟨Int.mul_nonneg (by omega) (by omega), by omega⟩
theorem wyF_mem {os ps : List Int} {ims : List (List Int)} (HO : ∀ o ∈ os, 1 ≤ o) (H : ∀ p ∈ ps, 1 ≤ p ∧ p ≤ 10 ^ 6) (h : ims ∈ wyF os ps) : ims.length = os.length ∧ ∀ r ∈ ims, r.length = ps.length ∧ ∀ y ∈ r, 0 ≤ y ∧ y ≤ 10 ^ 6 := by
  induction os using rev_ind generalizing ims with
  | h0 =>
    simp [-po_comp, wyF] at h
    subst h
    simp [-po_comp]
  | hs os o ih =>
    rw [wyF_app] at h
    obtain ⟨z, g, hz, hg, rfl⟩ := ext_mem h
    have i1 := ih (fun o ho => HO o (by simp [-po_comp, ho])) hz
    refine ⟨by simp [-po_comp, i1.1], fun y hy => ?_⟩
    rw [List.mem_append] at hy
    rcases hy with hy | hy
    · exact i1.2 y hy
    · rw [List.mem_singleton.mp hy]
      exact imF_mem (HO o (by simp [-po_comp])) H hg
theorem images_ok {X : Exn → En → Prop} {o : Int} {ps : List Int} (ho : 1 ≤ o) (ho2 : o ≤ 10 ^ 6) (HP : Hs ps) (hc : cG o ps ≤ 520) : Wp X (m_images_for [.v (.int o), .v (T ps)]) fun rv _ => rv = .o (.l (TS (imF o ps))) := by
  refine po_fnK fun Y K hY hK _ => ?_
  unfold b_images_for
  refine po_step fun K1 h1 _ _ _ => ?_
  simp [-po_comp]
  refine h1 _ ?_
  refine po_step fun K2 h2 _ _ _ => ?_
  simp [-po_comp]
  refine po_forK (fun done r => ∃ s3 s4 s5 s6 s7 : Sl, r = [.v (.int o), .v (T ps), .o (.l (TS (imF o done))), s3, s4, s5, s6, s7, .unk] ∧ s3.isIo = false ∧ s4.isIo = false ∧ s5.isIo = false ∧ s6.isIo = false ∧ s7.isIo = false) ps _ ⟨.unk, .unk, .unk, .unk, .unk, by simp [-po_comp, imF], rfl, rfl, rfl, rfl, rfl⟩ ?_ ?_
  · rintro done p rest r e ⟨s3, s4, s5, s6, s7, rfl, q3, q4, q5, q6, q7⟩
    have hp := HP.2 p (by rw [e]; simp [-po_comp])
    have g1 := gg_pos (o := o) (p := p) ho
    have g2 := gg_le (o := o) (p := p) hp.1
    have s1 := sh_pos ho hp.1
    have s2 := sh_le ho hp.1
    have ef : p.fdiv (gg o p) = sh o p := Int.fdiv_eq_ediv_of_nonneg _ (by omega)
    have hle : (imF o (done ++ [p])).length ≤ 520 := sixle (by
      rw [imF_len ho]
      have : cG o (done ++ [p]) ≤ cG o ps := by rw [e, show done ++ p :: rest = (done ++ [p]) ++ rest by simp]; exact cG_pre ho
      omega)
    rw [imF_app] at hle
    rw [imF_app]
    refine ⟨[.v (.int o), .v (T ps), .o (.l (TS (imF o done))), .v (.int p), s4, s5, s6, s7, .unk], by simp [-po_comp, q3], fun K3 h3 _ _ _ => ?_⟩
    refine po_step fun K4 h4 _ _ _ => ?_
    simp [-po_comp]
    refine po_mono (common_gg ho hp.1) ?_
    rintro _ _ rfl
    simp [-po_comp, q4]
    refine h4 _ ?_
    refine po_step fun K5 h5 _ _ _ => ?_
    simp [-po_comp, show ¬ gg o p = 0 by omega, lg_small (n := gg o p) (by omega) (by omega), ef, q5]
    refine h5 _ ?_
    refine po_step fun K6 h6 _ _ _ => ?_
    simp [-po_comp, q6]
    refine h6 _ ?_
    refine po_step fun K7 h7 _ _ _ => ?_
    simp [-po_comp]
    refine po_forK (f := fun x : List Int => T x) (fun dn r => ∃ s7 : Sl, r = [.v (.int o), .v (T ps), .v (.list (TS (imF o done))), .v (.int p), .v (.int (gg o p)), .v (.int (sh o p)), .o (.l (TS (ext dn (shs o p)))), s7, .unk] ∧ s7.isIo = false) (imF o done) _ ⟨s7, rfl, q7⟩ ?_ ?_
    · rintro dn x rs r e2 ⟨s7, rfl, q7⟩
      have hl2 := ext_le (F := dn) (x := x) (F' := rs) (G := shs o p) (n := 520) (by rw [← e2]; exact hle)
      rw [ext_TS]
      refine ⟨[.v (.int o), .v (T ps), .v (.list (TS (imF o done))), .v (.int p), .v (.int (gg o p)), .v (.int (sh o p)), .o (.l (TS (ext dn (shs o p)))), .v (T x), .unk], by simp [-po_comp, q7], fun K8 h8 _ _ _ => ?_⟩
      have hxl : x.length ≤ 6 := by
        have hx : x ∈ imF o done := by rw [e2]; simp [-po_comp]
        have := (imF_mem ho (fun p hp => HP.2 p (by rw [e]; simp [-po_comp, hp])) hx).1
        have h6 := HP.1
        rw [e, List.length_append] at h6
        omega
      simp [-po_comp]
      refine po_LC1 (fun k : Nat => .int k) (fun k : Nat => T (x ++ [sh o p * k])) (List.range (gg o p).toNat) ?_ ?_ ?_ ?_ ?_
      · simp [-po_comp, rng_map]
        omega
      · simp [-po_comp]
      · simp [-po_comp]
        omega
      · intro k hk
        have hk := List.mem_range.mp hk
        have hm : mulOk (sh o p) (k : Int) := mulOk_l ⟨by omega, by omega⟩
        simp [-po_comp, hm]
        omega
      have e3 : (shs o p).map (fun g => T (x ++ [g])) = (List.range (gg o p).toNat).map fun k : Nat => T (x ++ [sh o p * k]) := by
        unfold shs
        rw [List.map_map]
        rfl
      rw [← e3]
      have hl3 : (TS (ext dn (shs o p))).length + ((shs o p).map (fun g => T (x ++ [g]))).length ≤ 16777216 := by
        simp only [List.length_map]
        omega
      simp only [List.length_map] at hl3
      simp [-po_comp]
      refine ⟨hl3, h8 _ ⟨.v (T x), by simp, rfl⟩⟩
    · rintro r ⟨s7, rfl, q7⟩
      refine h7 _ ?_
      simp [-po_comp]
      exact h3 _ ⟨.v (.int p), .v (.int (gg o p)), .v (.int (sh o p)), .unk, s7, rfl, rfl, rfl, rfl, rfl, q7⟩
  · rintro r ⟨s3, s4, s5, s6, s7, rfl, q3, q4, q5, q6, q7⟩
    refine h2 _ ?_
    simp [-po_comp]
    exact hK _ _ _ rfl rfl
def allW (os ps : List Int) : List D := (wyF os ps).map fun ims => WD os ps ims
theorem wys_ok {X : Exn → En → Prop} {os ps : List Int} (HO : Hs os) (HP : Hs ps) (hc : cnt os ps ≤ 520) : Wp X (m_ways [.v (T os), .v (T ps)]) fun rv _ => rv = .o (.l (allW os ps)) := by
  refine po_fnK fun Y K hY hK _ => ?_
  unfold b_ways
  have HO1 : ∀ o ∈ os, 1 ≤ o := fun o ho => (HO.2 o ho).1
  have hwl : (wyF os ps).length ≤ 520 := sixle (by rw [wyF_len ps HO1]; exact hc)
  refine po_step fun K0 h0 _ _ _ => ?_
  simp [-po_comp]
  refine po_mono (many_ok HO HP) ?_
  rintro _ _ rfl
  simp [-po_comp, show ¬ 520 < cnt os ps by omega]
  refine h0 _ ?_
  refine po_step fun K1 h1 _ _ _ => ?_
  simp [-po_comp]
  refine h1 _ ?_
  refine po_step fun K2 h2 _ _ _ => ?_
  simp [-po_comp]
  refine po_forK (fun done r => ∃ s3 s4 s5 s6 : Sl, r = [.v (T os), .v (T ps), .o (.l (TTS (wyF done ps))), s3, s4, s5, s6, .unk, .unk] ∧ s3.isIo = false ∧ s4.isIo = false ∧ s5.isIo = false ∧ s6.isIo = false) os _ ⟨.unk, .unk, .unk, .unk, by simp [-po_comp, wyF], rfl, rfl, rfl, rfl⟩ ?_ ?_
  · rintro done o rest r e ⟨s3, s4, s5, s6, rfl, q3, q4, q5, q6⟩
    have ho := HO.2 o (by rw [e]; simp [-po_comp])
    have hco : cG o ps ≤ 520 := by have := cG_cnt (ps := ps) HO (o := o) (by rw [e]; simp [-po_comp]); omega
    have e1 : os = (done ++ [o]) ++ rest := by rw [e]; simp [-po_comp]
    have hle : (wyF (done ++ [o]) ps).length ≤ 520 := sixle (by
      rw [wyF_len ps fun x hx => HO1 x (by rw [e1]; exact List.mem_append_left _ hx)]
      have := cnt_pre (os := done ++ [o]) (qs := rest) (ps := ps) (by rw [← e1]; exact HO)
      rw [← e1] at this
      omega)
    rw [wyF_app] at hle
    rw [wyF_app]
    have hil : (imF o ps).length ≤ 520 := sixle (by rw [imF_len ho.1]; exact hco)
    refine ⟨[.v (T os), .v (T ps), .o (.l (TTS (wyF done ps))), .v (.int o), s4, s5, s6, .unk, .unk], by simp [-po_comp, q3], fun K3 h3 _ _ _ => ?_⟩
    refine po_step fun K4 h4 _ _ _ => ?_
    simp [-po_comp]
    refine po_mono (images_ok ho.1 ho.2 HP hco) ?_
    rintro _ _ rfl
    simp [-po_comp, q4]
    refine h4 _ ?_
    refine po_step fun K6 h6 _ _ _ => ?_
    simp [-po_comp, q5]
    refine h6 _ ?_
    refine po_step fun K7 h7 _ _ _ => ?_
    simp [-po_comp]
    refine po_forK (f := fun x : List (List Int) => TT x) (fun dn r => ∃ s6 : Sl, r = [.v (T os), .v (T ps), .v (.list (TTS (wyF done ps))), .v (.int o), .v (.list (TS (imF o ps))), .o (.l (TTS (ext dn (imF o ps)))), s6, .unk, .unk] ∧ s6.isIo = false) (wyF done ps) _ ⟨s6, rfl, q6⟩ ?_ ?_
    · rintro dn x rs r e2 ⟨s6, rfl, q6⟩
      have hl2 := ext_le (F := dn) (x := x) (F' := rs) (G := imF o ps) (n := 520) (by rw [← e2]; exact hle)
      rw [ext_TTS]
      refine ⟨[.v (T os), .v (T ps), .v (.list (TTS (wyF done ps))), .v (.int o), .v (.list (TS (imF o ps))), .o (.l (TTS (ext dn (imF o ps)))), .v (TT x), .unk, .unk], by simp [-po_comp, q6], fun K8 h8 _ _ _ => ?_⟩
      have hxl : x.length ≤ 6 := by
        have hx : x ∈ wyF done ps := by rw [e2]; simp [-po_comp]
        have := (wyF_mem (fun o ho => HO1 o (by rw [e]; simp [-po_comp, ho])) HP.2 hx).1
        have h6 := HO.1
        rw [e, List.length_append] at h6
        omega
      simp [-po_comp]
      refine po_LC1 (fun y : List Int => T y) (fun y : List Int => TT (x ++ [y])) (imF o ps) ?_ ?_ ?_ ?_ ?_
      · simp [-po_comp]
      · simp [-po_comp]
      · omega
      · intro y hy
        simp [-po_comp]
        omega
      have hl3 : (ext dn (imF o ps)).length + (imF o ps).length ≤ 16777216 := by omega
      simp [-po_comp]
      refine ⟨hl3, h8 _ ⟨.v (TT x), by simp, rfl⟩⟩
    · rintro r ⟨s6, rfl, q6⟩
      refine h7 _ ?_
      simp [-po_comp]
      exact h3 _ ⟨.v (.int o), .v (.list (TS (imF o ps))), .unk, s6, rfl, rfl, rfl, rfl, q6⟩
  · rintro r ⟨s3, s4, s5, s6, rfl, q3, q4, q5, q6⟩
    refine h2 _ ?_
    simp [-po_comp]
    refine po_LC1 (fun x : List (List Int) => TT x) (fun x : List (List Int) => WD os ps x) (wyF os ps) ?_ ?_ ?_ ?_ ?_
    · simp [-po_comp]
    · simp [-po_comp]
    · omega
    · intro x hx
      simp [-po_comp]
    exact hK _ _ _ rfl rfl
end K33
namespace K33
open PySem Pu L2
def flr {α : Type} (F : Nat → Nat → α) (n m : Nat) : List α := (List.range n).flatMap fun i => (List.range m).map fun j => F i j
theorem flr_succ {α : Type} (F : Nat → Nat → α) (n m : Nat) : flr F (n + 1) m = flr F n m ++ (List.range m).map fun j => F n j := by
  unfold flr
  rw [List.range_succ, List.flatMap_append]
  simp
theorem flr_len {α : Type} (F : Nat → Nat → α) (m : Nat) : ∀ n, (flr F n m).length = n * m
  | 0 => by simp [flr]
  | n + 1 => by
    rw [flr_succ, List.length_append, flr_len F m n]
    simp [Nat.succ_mul]
theorem flr_at {α : Type} (F : Nat → Nat → α) (m : Nat) {i j : Nat} (hj : j < m) : ∀ n, i < n → (flr F n m)[i * m + j]? = some (F i j)
  | 0, h => absurd h (Nat.not_lt_zero _)
  | n + 1, h => by
    rw [flr_succ]
    by_cases hi : i < n
    · rw [List.getElem?_append_left]
      · exact flr_at F m hj n hi
      · rw [flr_len]
        have : (i + 1) * m ≤ n * m := Nat.mul_le_mul_right _ hi
        rw [Nat.succ_mul] at this
        omega
    · have : i = n := by omega
      subst this
      rw [List.getElem?_append_right (by rw [flr_len]; omega), flr_len, Nat.add_sub_cancel_left]
      simp [hj]
theorem ix_lt {i j n m : Nat} (hi : i < n) (hj : j < m) : i * m + j < n * m := by
  have : (i + 1) * m ≤ n * m := Nat.mul_le_mul_right _ hi
  rw [Nat.succ_mul] at this
  omega
theorem ix_of {k n m : Nat} (h : k < n * m) : ∃ i j, i < n ∧ j < m ∧ k = i * m + j := by
  have hm : 0 < m := by
    rcases Nat.eq_zero_or_pos m with h0 | h0
    · subst h0; simp at h
    · exact h0
  refine ⟨k / m, k % m, (Nat.div_lt_iff_lt_mul hm).mpr h, Nat.mod_lt _ hm, ?_⟩
  have := Nat.div_add_mod k m
  rw [Nat.mul_comm] at this
  omega
theorem flr_ext {α : Type} {F : Nat → Nat → α} {n m : Nat} {xs : List α} (hl : xs.length = n * m) (h : ∀ i j, i < n → j < m → xs[i * m + j]? = some (F i j)) : flr F n m = xs := by
  apply List.ext_getElem?
  intro k
  by_cases hk : k < n * m
  · obtain ⟨i, j, hi, hj, rfl⟩ := ix_of hk
    rw [flr_at F m hj n hi, h i j hi hj]
  · rw [List.getElem?_eq_none (by rw [flr_len]; omega), List.getElem?_eq_none (by omega)]
theorem flr_map {α β : Type} (f : α → β) (F : Nat → Nat → α) (n m : Nat) : (flr F n m).map f = flr (fun i j => f (F i j)) n m := by
  refine (flr_ext (by rw [List.length_map, flr_len]) fun i j hi hj => ?_).symm
  rw [List.getElem?_map, flr_at F m hj n hi]
  rfl
theorem gi_flr {F : Nat → Nat → Int} {n m i j : Nat} (hi : i < n) (hj : j < m) : gi (flr F n m) (i * m + j) = F i j := gi_of (flr_at F m hj n hi)
theorem sum_sh {o p a b : Int} (ho : 1 ≤ o) (h : 1 ≤ p) : (a * sh o p + b * sh o p) % p / sh o p = (a + b) % gg o p := by
  have h1 := gg_sh (o := o) h
  have h2 := sh_pos ho h
  rw [← Int.add_mul]
  conv => lhs; arg 1; arg 2; rw [← h1]
  rw [Int.mul_comm (a + b), Int.mul_comm (gg o p), Int.mul_emod_mul_of_pos _ _ (show 0 < sh o p by omega), Int.mul_comm (sh o p)]
  exact Int.mul_ediv_cancel _ (by omega)
theorem gg_mul0 {o p x : Int} (ho : 1 ≤ o) (h : 1 ≤ p) : (o * (x * sh o p)) % p = 0 := by
  obtain ⟨k, hk⟩ := gg_dvdl (p := p) ho
  have h1 := gg_sh (o := o) h
  refine Int.emod_eq_zero_of_dvd ⟨k * x, ?_⟩
  generalize gg o p = g at *
  generalize sh o p = s at *
  subst hk
  subst h1
  simp only [Int.mul_assoc, Int.mul_comm, Int.mul_left_comm]
def hhL (os ps : List Int) : List Int := flr (fun i j => gg (gi os i) (gi ps j)) os.length ps.length
def row (a : List Int) (m i : Nat) : List Int := (List.range m).map fun j => gi a (i * m + j)
def imA (os ps a : List Int) : List (List Int) := (List.range os.length).map fun i => (List.range ps.length).map fun j => gi a (i * ps.length + j) * sh (gi os i) (gi ps j)
def thA (os ps : List Int) (ims : List (List Int)) : List Int := flr (fun i j => gi (gr ims i) j / sh (gi os i) (gi ps j)) os.length ps.length
structure W2 (os ps : List Int) (ims : List (List Int)) : Prop where
  l : ims.length = os.length
  r : ∀ i, i < os.length → (gr ims i).length = ps.length
  x : ∀ i j, i < os.length → j < ps.length → ∃ x, gi (gr ims i) j = x * sh (gi os i) (gi ps j) ∧ 0 ≤ x ∧ x < gg (gi os i) (gi ps j)
theorem th_hh {os ps a : List Int} (A : Th (hhL os ps) a) : a.length = os.length * ps.length ∧ ∀ i j, i < os.length → j < ps.length → 0 ≤ gi a (i * ps.length + j) ∧ gi a (i * ps.length + j) < gg (gi os i) (gi ps j) := by
  have hl : a.length = os.length * ps.length := by rw [A.1]; exact flr_len _ _ _
  refine ⟨hl, fun i j hi hj => ?_⟩
  have e1 := gi_at (xs := a) (i := i * ps.length + j) (by rw [hl]; exact ix_lt hi hj)
  exact A.2 _ _ _ e1 (flr_at _ _ hj _ hi)
theorem hh_th {os ps a : List Int} (hl : a.length = os.length * ps.length) (h : ∀ i j, i < os.length → j < ps.length → 0 ≤ gi a (i * ps.length + j) ∧ gi a (i * ps.length + j) < gg (gi os i) (gi ps j)) : Th (hhL os ps) a := ⟨by rw [hl]; exact (flr_len _ _ _).symm, fun k x y e1 e2 => by
  have hk := lt_of_at e1
  rw [hl] at hk
  obtain ⟨i, j, hi, hj, rfl⟩ := ix_of hk
  unfold hhL at e2
  rw [flr_at _ _ hj _ hi] at e2
  have := h i j hi hj
  rw [gi_of e1] at this
  cases e2
  exact this⟩
theorem gr_imA {os ps a : List Int} {i : Nat} (hi : i < os.length) : gr (imA os ps a) i = (List.range ps.length).map fun j => gi a (i * ps.length + j) * sh (gi os i) (gi ps j) := gr_map _ hi
theorem gi_thA {os ps : List Int} {ims : List (List Int)} {i j : Nat} (hi : i < os.length) (hj : j < ps.length) : gi (thA os ps ims) (i * ps.length + j) = gi (gr ims i) j / sh (gi os i) (gi ps j) := gi_flr hi hj
theorem th_thA {os ps : List Int} {ims : List (List Int)} (HO : Hq os) (HP : Hq ps) (W : W2 os ps ims) : Th (hhL os ps) (thA os ps ims) := hh_th (flr_len _ _ _) fun i j hi hj => by
  obtain ⟨x, e, h0, h1⟩ := W.x i j hi hj
  have := sh_pos (HO.gi hi).1 (HP.gi hj).1
  rw [gi_thA hi hj, e, Int.mul_ediv_cancel _ (by omega)]
  exact ⟨h0, h1⟩
theorem imA_thA {os ps : List Int} {ims : List (List Int)} (HO : Hq os) (HP : Hq ps) (W : W2 os ps ims) : imA os ps (thA os ps ims) = ims := by
  apply List.ext_getElem?
  intro i
  by_cases hi : i < os.length
  · rw [gr_at (rs := ims) (by rw [W.l]; exact hi), gr_at (rs := imA os ps _) (by simp [imA]; exact hi), gr_imA hi]
    congr 1
    apply List.ext_getElem?
    intro j
    by_cases hj : j < ps.length
    · rw [gi_at (xs := gr ims i) (by rw [W.r i hi]; exact hj), List.getElem?_map, List.getElem?_range hj]
      show some _ = some _
      congr 1
      obtain ⟨x, e, h0, h1⟩ := W.x i j hi hj
      have := sh_pos (HO.gi hi).1 (HP.gi hj).1
      show gi (thA os ps ims) (i * ps.length + j) * _ = _
      rw [gi_thA hi hj, e, Int.mul_ediv_cancel _ (by omega)]
    · rw [List.getElem?_eq_none (by simp; omega), List.getElem?_eq_none (by rw [W.r i hi]; omega)]
  · rw [List.getElem?_eq_none (by simp [imA]; omega), List.getElem?_eq_none (by rw [W.l]; omega)]
end K33
namespace K33
open PySem Pu L2
theorem fm_flr {α : Type} (f : Int → Int → α) (ps : List Int) : ∀ os : List Int, (os.flatMap fun o => ps.map (f o)) = flr (fun i j => f (gi os i) (gi ps j)) os.length ps.length := by
  intro os
  have key : ∀ n, n ≤ os.length → ((os.take n).flatMap fun o => ps.map (f o)) = flr (fun i j => f (gi os i) (gi ps j)) n ps.length := by
    intro n
    induction n with
    | zero => intro _; simp [-po_comp, flr]
    | succ n ih =>
      intro h
      rw [flr_succ, ← ih (by omega), List.take_succ, gi_at (xs := os) (i := n) (by omega), List.flatMap_append]
      congr 1
      simp [-po_comp]
      apply List.ext_getElem?
      intro j
      rw [List.getElem?_map, List.getElem?_map]
      by_cases hj : j < ps.length
      · rw [gi_at hj, List.getElem?_range hj]
        rfl
      · rw [List.getElem?_eq_none (by omega), List.getElem?_eq_none (by simp [-po_comp]; omega)]
        rfl
  have := key os.length (Nat.le_refl _)
  rwa [List.take_length] at this
theorem fm_len (f : Int → Int → D) (ps : List Int) (os : List Int) : (os.flatMap fun o => ps.map (f o)).length = os.length * ps.length := by rw [fm_flr, flr_len]
theorem ways_house_ok {X : Exn → En → Prop} {os ps : List Int} (HO : Hq os) (HP : Hq ps) : Wp X (m_ways_house [.v (T os), .v (T ps)]) fun rv _ => rv = .v (T (hhL os ps)) := by
  refine po_fnK fun Y K hY hK _ => ?_
  unfold b_ways_house
  have ho6 := HO.1
  have hp6 := HP.1
  refine po_step fun K1 h1 _ _ _ => ?_
  simp [-po_comp]
  refine h1 _ ?_
  refine po_step fun K2 h2 _ _ _ => ?_
  simp [-po_comp]
  refine po_forK (fun done r => ∃ s3 : Sl, r = [.v (T os), .v (T ps), .o (.l (done.flatMap fun o => ps.map fun p => .int (gg o p))), s3, .unk] ∧ s3.isIo = false) os _ ⟨_, rfl, rfl⟩ ?_ ?_
  · rintro done o rest r e ⟨s3, rfl, q3⟩
    have ho := HO.2 o (by rw [e]; simp [-po_comp])
    have hd : done.length ≤ 6 := by rw [e, List.length_append] at ho6; omega
    refine ⟨[.v (T os), .v (T ps), .o (.l (done.flatMap fun o => ps.map fun p => .int (gg o p))), .v (.int o), .unk], by simp [-po_comp, q3], fun K3 h3 _ _ _ => ?_⟩
    simp [-po_comp]
    refine po_LC1 (fun p : Int => .int p) (fun p : Int => .int (gg o p)) ps ?_ ?_ ?_ ?_ ?_
    · simp [-po_comp]
    · simp [-po_comp]
    · omega
    · intro p hp
      simp [-po_comp]
      refine po_mono (common_gg ho.1 (HP.2 p hp).1) ?_
      rintro _ _ rfl
      simp [-po_comp]
    · have hle : (done.flatMap fun o => ps.map fun p => PyData.int (gg o p)).length + ps.length ≤ 16777216 := by
        rw [fm_len (fun o p => .int (gg o p))]
        have : done.length * ps.length ≤ 6 * 6 := Nat.mul_le_mul hd hp6
        omega
      simp [-po_comp]
      refine ⟨by simpa [List.length_flatMap] using hle, h3 _ ⟨.v (.int o), by simp, rfl⟩⟩
  · rintro r ⟨s3, rfl, q3⟩
    refine h2 _ ?_
    simp [-po_comp]
    refine hK _ _ _ rfl ?_
    have := fm_flr (fun o p => PyData.int (gg o p)) ps os
    simp only [T, hhL, flr_map]
    rw [← this]
theorem cut_row {a : List Int} {n m i : Nat} (hl : a.length = n * m) (hi : i < n) : cutL (a.map .int) (some ((i * m : Nat) : Int)) (some (((i + 1) * m : Nat) : Int)) = (row a m i).map .int := by
  rw [cutL_map]
  congr 1
  unfold cutG
  rw [HT.sIx_nat, HT.sIx_nat]
  have h2 : (i + 1) * m ≤ n * m := Nat.mul_le_mul_right _ hi
  have h3 : (i + 1) * m = i * m + m := Nat.succ_mul i m
  rw [Nat.min_eq_left (by omega), Nat.min_eq_left (by omega), show (i + 1) * m - i * m = m by omega]
  apply List.ext_getElem?
  intro j
  unfold row
  by_cases hj : j < m
  · rw [List.getElem?_take_of_lt hj, List.getElem?_drop, List.getElem?_map, List.getElem?_range hj, gi_at (xs := a) (i := i * m + j) (by omega)]
    rfl
  · rw [List.getElem?_eq_none (by simp [-po_comp]; omega), List.getElem?_eq_none (by simp [-po_comp]; omega)]
theorem zip_idx {α : Type} {xs : List α} {done rest : List (α × Nat)} {p : α × Nat} (e : xs.zipIdx = done ++ p :: rest) : p.2 = done.length ∧ xs[done.length]? = some p.1 ∧ done.length < xs.length := by
  have h1 : (xs.zipIdx)[done.length]? = some p := by rw [e]; simp [-po_comp]
  rw [List.getElem?_zipIdx] at h1
  cases hx : xs[done.length]? with
  | none =>
    rw [hx] at h1
    cases h1
  | some x =>
    rw [hx] at h1
    cases h1
    exact ⟨by simp, rfl, (List.getElem?_eq_some_iff.mp hx).1⟩
theorem hh_small {os ps : List Int} (hm : os.length * ps.length ≤ 6) : (hhL os ps).length ≤ 6 := by
  unfold hhL
  rw [flr_len]
  exact hm
theorem way_of_ok {X : Exn → En → Prop} {os ps a : List Int} (HO : Hq os) (HP : Hq ps) (hm : os.length * ps.length ≤ 6) (A : Th (hhL os ps) a) : Wp X (m_way_of [.v (T os), .v (T ps), .v (T a)]) fun rv _ => rv = .v (WD os ps (imA os ps a)) := by
  refine po_fnK fun Y K hY hK _ => ?_
  unfold b_way_of
  have ho6 := HO.1
  have hp6 := HP.1
  have hA := th_hh A
  refine po_step fun K1 h1 _ _ _ => ?_
  simp [-po_comp]
  refine po_mono (ways_house_ok HO HP) ?_
  rintro _ _ rfl
  simp [-po_comp]
  refine po_mono (needB_ok (hh_small hm) [a] fun t ht => ?_) ?_
  · rw [List.mem_singleton.mp ht]
    exact A
  rintro _ _ rfl
  refine h1 _ ?_
  refine po_step fun K2 h2 _ _ _ => ?_
  simp [-po_comp]
  refine h2 _ ?_
  refine po_step fun K3 h3 _ _ _ => ?_
  simp [-po_comp]
  refine po_forK (f := fun p : Int × Nat => PyData.tuple [.int (p.2 : Nat), .int p.1]) (fun done r => ∃ s4 s5 s6 s7 : Sl, r = [.v (T os), .v (T ps), .v (T a), .o (.l (((List.range done.length).map fun i => (List.range ps.length).map fun j => gi a (i * ps.length + j) * sh (gi os i) (gi ps j)).map fun r => T r)), s4, s5, s6, s7, .unk, .unk, .unk] ∧ s4.isIo = false ∧ s5.isIo = false ∧ s6.isIo = false ∧ s7.isIo = false) os.zipIdx _ ⟨_, _, _, _, rfl, rfl, rfl, rfl, rfl⟩ ?_ ?_
  · rintro done ⟨o, k⟩ rest r e ⟨s4, s5, s6, s7, rfl, q4, q5, q6, q7⟩
    obtain ⟨hk, ho, hi⟩ := zip_idx e
    simp only at hk ho
    subst hk
    have hoo := HO.2 o (List.mem_of_getElem? ho)
    have eo := gi_of ho
    obtain ⟨L, hL⟩ : ∃ L : List D, L = ((List.range done.length).map fun i => (List.range ps.length).map fun j => gi a (i * ps.length + j) * sh (gi os i) (gi ps j)).map fun r => T r := ⟨_, rfl⟩
    have hLl : L.length = done.length := by rw [hL]; simp [-po_comp]
    have hLs : ((List.range (done ++ [(o, done.length)]).length).map fun i => (List.range ps.length).map fun j => gi a (i * ps.length + j) * sh (gi os i) (gi ps j)).map (fun r => T r) = L ++ [T ((List.range ps.length).map fun j => gi a (done.length * ps.length + j) * sh o (gi ps j))] := by
      rw [hL, List.length_append, List.length_singleton, List.range_succ, List.map_append, List.map_append, ← eo]
      simp [-po_comp]
    rw [hLs, ← hL]
    clear hLs hL
    refine ⟨[.v (T os), .v (T ps), .v (T a), .o (.l L), .v (.int done.length), .v (.int o), s6, s7, .unk, .unk, .unk], by simp [-po_comp, q4, q5], fun K4 h4 _ _ _ => ?_⟩
    refine po_step fun K5 h5 _ _ _ => ?_
    have e1 : ((done.length : Int) * (ps.length : Int)) = ((done.length * ps.length : Nat) : Int) := by simp [-po_comp]
    have e2 : ((done.length : Int) + 1) * (ps.length : Int) = (((done.length + 1) * ps.length : Nat) : Int) := by simp [-po_comp]
    have cr := cut_row (a := a) hA.1 hi
    rw [← e1, ← e2] at cr
    have hm1 : mulOk (done.length : Int) (ps.length : Int) := mulOk_l ⟨by omega, by omega⟩
    have hm2 : mulOk ((done.length : Int) + 1) (ps.length : Int) := mulOk_l ⟨by omega, by omega⟩
    simp [-po_comp, hm1, hm2, cr, q6]
    refine h5 _ ?_
    refine po_step fun K6 h6 _ _ _ => ?_
    simp [-po_comp]
    refine po_LC1 (fun p : Int => .int p) (fun p : Int => .int (sh o p)) ps ?_ ?_ ?_ ?_ ?_
    · simp [-po_comp]
    · simp [-po_comp]
    · omega
    · intro p hp
      have hp := HP.2 p hp
      have g1 := gg_pos (o := o) (p := p) hoo.1
      have g2 := gg_le (o := o) (p := p) hp.1
      have ef : p.fdiv (gg o p) = sh o p := Int.fdiv_eq_ediv_of_nonneg _ (by omega)
      simp [-po_comp]
      refine po_mono (common_gg hoo.1 hp.1) ?_
      rintro _ _ rfl
      simp [-po_comp, show ¬ gg o p = 0 by omega, lg_small (n := gg o p) (by omega) (by omega), ef]
    simp [-po_comp, q7]
    refine h6 _ ?_
    simp [-po_comp]
    refine po_LC2 (fun p : Int × Nat => .int (p.2 : Nat)) (fun p : Int × Nat => .int p.1) (fun p : Int × Nat => .int (p.1 * sh o (gi ps p.2))) (row a ps.length done.length).zipIdx ?_ ?_ (by decide) ?_ ?_ ?_
    · simp [-po_comp]
    · simp [-po_comp]
    · simp [-po_comp, row]
      omega
    · rintro ⟨x, j⟩ hx
      have hx2 := List.mem_zipIdx hx
      simp [-po_comp] at hx2
      obtain ⟨hj, ex⟩ := hx2
      have hjm : j < ps.length := by simpa [row] using hj
      have eg : x = gi a (done.length * ps.length + j) := by
        rw [ex]
        simp [-po_comp, row]
      have b := hA.2 _ _ hi hjm
      rw [← eg, eo] at b
      have hp := HP.gi hjm
      have g2 := gg_le (o := o) (p := gi ps j) hp.1
      have s1 := sh_pos hoo.1 hp.1
      have s2 := sh_le hoo.1 hp.1
      have hmm : mulOk x (sh o (gi ps j)) := small_mul ⟨by omega, by omega⟩ ⟨by omega, by omega⟩
      simp [-po_comp, gi_at hjm, hmm]
    have er : ((row a ps.length done.length).zipIdx.map fun p => PyData.int (p.1 * sh o (gi ps p.2))) = ((List.range ps.length).map fun j => gi a (done.length * ps.length + j) * sh o (gi ps j)).map .int := by
      apply List.ext_getElem?
      intro j
      by_cases hj : j < ps.length
      · simp [-po_comp, row, List.getElem?_zipIdx, hj]
      · rw [List.getElem?_eq_none (by simp [-po_comp, row]; omega), List.getElem?_eq_none (by simp [-po_comp]; omega)]
    rw [er]
    have hll : L.length < 16777216 := by omega
    simp [-po_comp, hll]
    refine h4 _ ⟨.v (.int done.length), .v (.int o), .v (T (row a ps.length done.length)), .v (.list (ps.map fun p => .int (sh o p))), by simp, rfl, rfl, rfl, rfl⟩
  · rintro r ⟨s4, s5, s6, s7, rfl, q4, q5, q6, q7⟩
    refine h3 _ ?_
    simp [-po_comp]
    refine hK _ _ _ rfl ?_
    simp [-po_comp, imA]
theorem thing_of_ok {X : Exn → En → Prop} {os ps : List Int} {ims : List (List Int)} (HO : Hq os) (HP : Hq ps) (hl : ims.length = os.length) (hr : ∀ i, i < os.length → (gr ims i).length = ps.length) : Wp X (m_thing_of [.v (WD os ps ims)]) fun rv _ => rv = .v (T (thA os ps ims)) := by
  refine po_fnK fun Y K hY hK _ => ?_
  unfold b_thing_of
  have ho6 := HO.1
  have hp6 := HP.1
  refine po_step fun K1 h1 _ _ _ => ?_
  simp [-po_comp]
  refine h1 _ ?_
  refine po_step fun K2 h2 _ _ _ => ?_
  simp [-po_comp]
  refine h2 _ ?_
  refine po_step fun K3 h3 _ _ _ => ?_
  simp [-po_comp]
  refine po_forK (f := fun p : Int × Nat => PyData.tuple [.int (p.2 : Nat), .int p.1]) (fun done r => ∃ s5 s6 s7 s8 : Sl, r = [.v (WD os ps ims), .v (T os), .v (T ps), .v (TT ims), .o (.l ((flr (fun i j => gi (gr ims i) j / sh (gi os i) (gi ps j)) done.length ps.length).map .int)), s5, s6, s7, s8] ∧ s5.isIo = false ∧ s6.isIo = false ∧ s7.isIo = false ∧ s8.isIo = false) os.zipIdx _ ⟨.unk, .unk, .unk, .unk, by simp [-po_comp, flr], rfl, rfl, rfl, rfl⟩ ?_ ?_
  · rintro done ⟨o, k⟩ rest r e ⟨s5, s6, s7, s8, rfl, q5, q6, q7, q8⟩
    obtain ⟨hk, ho, hi⟩ := zip_idx e
    simp only at hk ho
    subst hk
    have hoo := HO.2 o (List.mem_of_getElem? ho)
    have eo := gi_of ho
    obtain ⟨L, hL⟩ : ∃ L : List Int, L = flr (fun i j => gi (gr ims i) j / sh (gi os i) (gi ps j)) done.length ps.length := ⟨_, rfl⟩
    have hLl : L.length ≤ 36 := by
      rw [hL, flr_len]
      exact Nat.mul_le_mul (show done.length ≤ 6 by omega) hp6
    have hLs : flr (fun i j => gi (gr ims i) j / sh (gi os i) (gi ps j)) (done ++ [(o, done.length)]).length ps.length = L ++ (List.range ps.length).map fun j => gi (gr ims done.length) j / sh o (gi ps j) := by
      rw [List.length_append, List.length_singleton, flr_succ, hL, eo]
    rw [hLs, ← hL]
    clear hLs hL
    have er := gr_at (rs := ims) (i := done.length) (by omega)
    have hrl := hr _ hi
    refine ⟨[.v (WD os ps ims), .v (T os), .v (T ps), .v (TT ims), .o (.l (L.map .int)), .v (.int done.length), .v (.int o), s7, s8], by simp [-po_comp, q5, q6], fun K4 h4 _ _ _ => ?_⟩
    simp [-po_comp]
    refine po_forK (f := fun p : Int × Nat => PyData.tuple [.int (p.2 : Nat), .int p.1]) (fun dn r => ∃ s7 s8 : Sl, r = [.v (WD os ps ims), .v (T os), .v (T ps), .v (TT ims), .o (.l ((L ++ (List.range dn.length).map fun j => gi (gr ims done.length) j / sh o (gi ps j)).map .int)), .v (.int done.length), .v (.int o), s7, s8] ∧ s7.isIo = false ∧ s8.isIo = false) ps.zipIdx _ ⟨s7, s8, by simp, q7, q8⟩ ?_ ?_
    · rintro dn ⟨p, k⟩ rest r e ⟨s7, s8, rfl, q7, q8⟩
      obtain ⟨hk, hp, hj⟩ := zip_idx e
      simp only at hk hp
      subst hk
      have hpp := HP.2 p (List.mem_of_getElem? hp)
      have ep := gi_of hp
      have g1 := gg_pos (o := o) (p := p) hoo.1
      have g2 := gg_le (o := o) (p := p) hpp.1
      have s1 := sh_pos hoo.1 hpp.1
      have s2 := sh_le hoo.1 hpp.1
      have ef : p.fdiv (gg o p) = sh o p := Int.fdiv_eq_ediv_of_nonneg _ (by omega)
      have ef2 : ∀ x : Int, x.fdiv (sh o p) = x / sh o p := fun x => Int.fdiv_eq_ediv_of_nonneg _ (by omega)
      have ei := gi_at (xs := gr ims done.length) (i := dn.length) (by omega)
      refine ⟨[.v (WD os ps ims), .v (T os), .v (T ps), .v (TT ims), .o (.l ((L ++ (List.range dn.length).map fun j => gi (gr ims done.length) j / sh o (gi ps j)).map .int)), .v (.int done.length), .v (.int o), .v (.int dn.length), .v (.int p)], by simp [-po_comp, q7, q8], fun K5 h5 _ _ _ => ?_⟩
      simp [-po_comp, er, ei]
      refine po_mono (common_gg hoo.1 hpp.1) ?_
      rintro _ _ rfl
      simp [-po_comp, show ¬ gg o p = 0 by omega, lg_small (n := gg o p) (by omega) (by omega), ef, ef2, show ¬ sh o p = 0 by omega, lg_small (n := sh o p) (by omega) (by omega)]
      refine ⟨by omega, h5 _ ⟨.v (.int dn.length), .v (.int p), ?_, rfl, rfl⟩⟩
      simp [-po_comp, List.range_succ, ep]
    · rintro r ⟨s7, s8, rfl, q7, q8⟩
      refine h4 _ ⟨.v (.int done.length), .v (.int o), s7, s8, by simp, rfl, rfl, q7, q8⟩
  · rintro r ⟨s5, s6, s7, s8, rfl, q5, q6, q7, q8⟩
    refine h3 _ ?_
    simp [-po_comp]
    refine hK _ _ _ rfl ?_
    simp [-po_comp, thA]
end K33
namespace K33
open PySem Pu L2
theorem ext_nd {α : Type} {F : List (List α)} {G : List α} (hF : F.Nodup) (hG : G.Nodup) : (ext F G).Nodup := by
  unfold ext
  refine Gn.pw_flat _ _ (fun x _ => ?_) ?_
  · refine List.Pairwise.map _ (fun a b h e => h ?_) hG
    have := List.append_cancel_left e
    injection this
  · refine List.Pairwise.imp ?_ hF
    intro x y h u hu v hv e
    obtain ⟨a, _, rfl⟩ := List.mem_map.mp hu
    obtain ⟨b, _, rfl⟩ := List.mem_map.mp hv
    have := List.append_inj' e rfl
    exact h this.1
theorem shs_nd {o p : Int} (hp : 1 ≤ p) : (shs o p).Nodup := by
  unfold shs
  rw [List.nodup_iff_pairwise_ne, List.pairwise_map]
  refine List.Pairwise.imp (fun {a b} h e => ?_) (List.nodup_range (n := (gg o p).toNat))
  have g0 : 0 < Nat.gcd o.toNat p.toNat := Nat.gcd_pos_of_pos_right _ (by omega)
  have hs : 1 ≤ sh o p := by
    unfold sh gg
    have hd : Nat.gcd o.toNat p.toNat ∣ p.toNat := Nat.gcd_dvd_right _ _
    obtain ⟨c, hc⟩ := hd
    have e1 : p = ((Nat.gcd o.toNat p.toNat * c : Nat) : Int) := by omega
    generalize Nat.gcd o.toNat p.toNat = g at *
    rw [e1, Int.natCast_mul, Int.mul_ediv_cancel_left _ (by omega)]
    rcases Nat.eq_zero_or_pos c with z | z
    · rw [z] at hc
      omega
    · omega
  have : (a : Int) = (b : Int) := by
    first
      | exact Int.eq_of_mul_eq_mul_left (by omega) e
      | exact Int.eq_of_mul_eq_mul_right (by omega) e
  omega
theorem imF_nd {o : Int} : ∀ {ps : List Int}, (∀ p ∈ ps, 1 ≤ p) → (imF o ps).Nodup := fun {ps} => by
  refine rev_ind (P := fun ps => (∀ p ∈ ps, 1 ≤ p) → (imF o ps).Nodup) ?_ ?_ ps
  · intro _
    simp [imF]
  · intro ps p ih h
    rw [imF_app]
    exact ext_nd (ih fun x hx => h x (List.mem_append_left _ hx)) (shs_nd (h p (by simp)))
theorem wyF_nd {ps : List Int} (hp : ∀ p ∈ ps, 1 ≤ p) (os : List Int) : (wyF os ps).Nodup := by
  refine rev_ind (P := fun os => (wyF os ps).Nodup) ?_ ?_ os
  · simp [wyF]
  · intro os o ih
    rw [wyF_app]
    exact ext_nd ih (imF_nd hp)
theorem ext_in {α : Type} {F : List (List α)} {G : List α} {x : List α} {g : α} (h1 : x ∈ F) (h2 : g ∈ G) : x ++ [g] ∈ ext F G := List.mem_flatMap.mpr ⟨x, h1, List.mem_map.mpr ⟨g, h2, rfl⟩⟩
theorem snoc_ex {α : Type} : ∀ {x : List α} {n : Nat}, x.length = n + 1 → ∃ y a, x = y ++ [a] ∧ y.length = n := fun {x n} h => by
  have hne : x ≠ [] := fun e => by rw [e] at h; simp at h
  refine ⟨x.dropLast, x.getLast hne, (List.dropLast_concat_getLast hne).symm, by rw [List.length_dropLast]; omega⟩
theorem shs_in {o p x : Int} (ho : 1 ≤ o) (hp : 1 ≤ p) (h0 : 0 ≤ x) (h1 : x < p) (hd : p ∣ o * x) : x ∈ shs o p := by
  obtain ⟨a, rfl⟩ : ∃ a : Nat, o = a := ⟨o.toNat, by omega⟩
  obtain ⟨b, rfl⟩ : ∃ b : Nat, p = b := ⟨p.toNat, by omega⟩
  obtain ⟨y, rfl⟩ : ∃ y : Nat, x = y := ⟨x.toNat, by omega⟩
  have hd : b ∣ a * y := by
    rw [← Int.natCast_mul] at hd
    exact Int.natCast_dvd_natCast.mp hd
  have g0 : 0 < Nat.gcd a b := Nat.gcd_pos_of_pos_left _ (by omega)
  obtain ⟨c, hc⟩ := Nat.gcd_dvd_left a b
  obtain ⟨d, hdd⟩ := Nat.gcd_dvd_right a b
  have eg : gg (a : Int) (b : Int) = (Nat.gcd a b : Nat) := rfl
  have es : sh (a : Int) (b : Int) = (d : Nat) := by
    unfold sh
    rw [eg]
    have e1 : (b : Int) = ((Nat.gcd a b * d : Nat) : Int) := by omega
    generalize Nat.gcd a b = g at *
    rw [e1, Int.natCast_mul, Int.mul_ediv_cancel_left _ (by omega)]
  have cop : Nat.Coprime d c := by
    have := Nat.gcd_mul_left (Nat.gcd a b) c d
    rw [← hc, ← hdd] at this
    have h1 : Nat.gcd c d = 1 := Nat.eq_of_mul_eq_mul_left g0 (by rw [← this, Nat.mul_one])
    exact (Nat.gcd_comm d c).trans h1
  have hy : d ∣ y := by
    refine cop.dvd_of_dvd_mul_left ?_
    obtain ⟨t, ht⟩ := hd
    refine ⟨t, Nat.eq_of_mul_eq_mul_left g0 ?_⟩
    rw [← Nat.mul_assoc, ← hc, ← Nat.mul_assoc, ← hdd]
    exact ht
  obtain ⟨k, hk⟩ := hy
  have hkg : k < Nat.gcd a b := by
    apply Classical.byContradiction
    intro z
    have : Nat.gcd a b * d ≤ d * k := by
      rw [Nat.mul_comm]
      exact Nat.mul_le_mul_left d (by omega)
    omega
  unfold shs
  rw [eg, es]
  refine List.mem_map.mpr ⟨k, List.mem_range.mpr (by simpa using hkg), ?_⟩
  subst hk
  simp [Int.mul_comm]
theorem getD_l {α : Type} {a : List α} {x d : α} {k : Nat} (h : k < a.length) : (a ++ [x]).getD k d = a.getD k d := by
  rw [List.getD_eq_getElem?_getD, List.getElem?_append_left h, ← List.getD_eq_getElem?_getD]
theorem getD_r {α : Type} {a : List α} {x d : α} : (a ++ [x]).getD a.length d = x := by
  rw [List.getD_eq_getElem?_getD, List.getElem?_append_right (Nat.le_refl _)]
  simp
theorem im_in {o : Int} (ho : 1 ≤ o) {ps : List Int} : ∀ {x : List Int}, (∀ p ∈ ps, 1 ≤ p) → x.length = ps.length → (∀ j, j < ps.length → 0 ≤ x.getD j 0 ∧ x.getD j 0 < ps.getD j 0 ∧ ps.getD j 0 ∣ o * x.getD j 0) → x ∈ imF o ps := by
  induction ps using rev_ind with
  | h0 =>
    intro x _ hl _
    have : x = [] := List.eq_nil_of_length_eq_zero hl
    subst this
    simp [imF]
  | hs ps p ih =>
    intro x hp hl h
    rw [List.length_append, List.length_singleton] at hl
    obtain ⟨y, a, rfl, hy⟩ := snoc_ex hl
    rw [imF_app]
    refine ext_in (ih (fun q hq => hp q (List.mem_append_left _ hq)) hy fun j hj => ?_) ?_
    · have := h j (by rw [List.length_append]; omega)
      rw [getD_l (by omega), getD_l hj] at this
      exact this
    · have := h ps.length (by rw [List.length_append]; simp)
      rw [getD_r, ← hy, getD_r] at this
      exact shs_in ho (hp p (by simp)) this.1 this.2.1 this.2.2
theorem wy_in {ps : List Int} {os : List Int} : ∀ {I : List (List Int)}, I.length = os.length → (∀ i, i < os.length → I.getD i [] ∈ imF (os.getD i 0) ps) → I ∈ wyF os ps := by
  induction os using rev_ind with
  | h0 =>
    intro I hl _
    have : I = [] := List.eq_nil_of_length_eq_zero hl
    subst this
    simp [wyF]
  | hs os o ih =>
    intro I hl h
    rw [List.length_append, List.length_singleton] at hl
    obtain ⟨J, r, rfl, hJ⟩ := snoc_ex hl
    rw [wyF_app]
    refine ext_in (ih hJ fun i hi => ?_) ?_
    · have := h i (by rw [List.length_append]; omega)
      rw [getD_l (a := J) (by omega), getD_l (a := os) hi] at this
      exact this
    · have := h os.length (by rw [List.length_append]; simp)
      rw [getD_r, ← hJ, getD_r] at this
      exact this
end K33
namespace K33
open PySem Pu L2
/-! ### all ways are those told -/
theorem Hs.hq {hs : List Int} (H : Hs hs) : Hq hs := ⟨H.1, fun h hh => ⟨(H.2 h hh).1, by have := (H.2 h hh).2; omega⟩⟩
theorem Wy.n {os ps : List Int} {ims : List (List Int)} (W : Wy os ps ims) {i j : Nat} (hi : i < os.length) (hj : j < ps.length) : (0 ≤ gi (gr ims i) j ∧ gi (gr ims i) j < gi ps j) ∧ (gi os i * gi (gr ims i) j) % gi ps j = 0 := by
  have h := W.im i hi
  exact h.2 j _ _ (gi_at (by rw [h.1]; exact hj)) (gi_at hj)
theorem wy_mem {os ps : List Int} {ims : List (List Int)} (W : Wy os ps ims) : ims ∈ wyF os ps := by
  refine wy_in W.l fun i hi => ?_
  refine im_in (W.o.gi hi).1 (fun p hp => (W.p.2 p hp).1) (W.im i hi).1 fun j hj => ?_
  have := W.n hi hj
  exact ⟨this.1.1, this.1.2, Int.dvd_of_emod_eq_zero this.2⟩
theorem imF_x {o : Int} {ps : List Int} : ∀ {x : List Int}, x ∈ imF o ps → x.length = ps.length ∧ ∀ j, j < ps.length → ∃ k, gi x j = k * sh o (gi ps j) ∧ 0 ≤ k ∧ k < gg o (gi ps j) := by
  induction ps using rev_ind with
  | h0 =>
    intro x hx
    have : x = [] := by simpa [imF] using hx
    subst this
    exact ⟨rfl, fun j hj => absurd hj (Nat.not_lt_zero _)⟩
  | hs ps p ih =>
    intro x hx
    rw [imF_app] at hx
    obtain ⟨z, g, hz, hg, rfl⟩ := ext_mem hx
    obtain ⟨l, h⟩ := ih hz
    refine ⟨by simp [l], fun j hj => ?_⟩
    rw [List.length_append, List.length_singleton] at hj
    by_cases hl : j < ps.length
    · rw [gi_l (by omega), gi_l hl]
      exact h j hl
    · have : j = ps.length := by omega
      subst this
      rw [gi_e]
      have e : gi (z ++ [g]) ps.length = g := by rw [← l, gi_e]
      rw [e]
      obtain ⟨k, hk, rfl⟩ := List.mem_map.mp hg
      have hk := List.mem_range.mp hk
      exact ⟨k, Int.mul_comm _ _, by omega, by omega⟩
theorem gr_l {xs : List (List Int)} {y : List Int} {j : Nat} (h : j < xs.length) : gr (xs ++ [y]) j = gr xs j := by
  unfold gr
  rw [List.getD_eq_getElem?_getD, List.getElem?_append_left h, ← List.getD_eq_getElem?_getD]
theorem gr_e (xs : List (List Int)) (y : List Int) : gr (xs ++ [y]) xs.length = y := by
  unfold gr
  simp
theorem wyF_w2 {ps os : List Int} : ∀ {ims : List (List Int)}, ims ∈ wyF os ps → W2 os ps ims := by
  induction os using rev_ind with
  | h0 =>
    intro x hx
    have : x = [] := by simpa [wyF] using hx
    subst this
    exact ⟨rfl, fun j hj => absurd hj (Nat.not_lt_zero _), fun j _ hj => absurd hj (Nat.not_lt_zero _)⟩
  | hs os o ih =>
    intro x hx
    rw [wyF_app] at hx
    obtain ⟨z, g, hz, hg, rfl⟩ := ext_mem hx
    have W := ih hz
    obtain ⟨l, h⟩ := imF_x hg
    have hl := W.l
    refine ⟨by simp [hl], fun i hi => ?_, fun i j hi hj => ?_⟩
    · rw [List.length_append, List.length_singleton] at hi
      by_cases c : i < os.length
      · rw [gr_l (by omega)]
        exact W.r i c
      · have : i = z.length := by omega
        subst this
        rw [gr_e]
        exact l
    · rw [List.length_append, List.length_singleton] at hi
      by_cases c : i < os.length
      · rw [gr_l (by omega), gi_l c]
        exact W.x i j c hj
      · have : i = os.length := by omega
        subst this
        have e : gr (z ++ [g]) os.length = g := by rw [← hl, gr_e]
        rw [e, gi_e]
        exact h j hj
theorem w2_wy {os ps : List Int} {ims : List (List Int)} (HO : Hq os) (HP : Hq ps) (W : W2 os ps ims) : Wy os ps ims := by
  refine ⟨HO, HP, W.l, fun i hi => ⟨W.r i hi, fun j a k ea ek => ?_⟩⟩
  have hj : j < ps.length := lt_of_at ek
  obtain ⟨x, e, x0, x1⟩ := W.x i j hi hj
  have e1 : a = x * sh (gi os i) (gi ps j) := by rw [← e]; exact (gi_of ea).symm
  have e2 : k = gi ps j := (gi_of ek).symm
  have ho := (HO.gi hi).1
  have hp := (HP.gi hj).1
  have s1 := sh_pos ho hp
  have s2 := gg_sh (o := gi os i) hp
  rw [e1, e2]
  refine ⟨⟨Int.mul_nonneg x0 (by omega), ?_⟩, gg_mul0 ho hp⟩
  have : x * sh (gi os i) (gi ps j) < gg (gi os i) (gi ps j) * sh (gi os i) (gi ps j) := Int.mul_lt_mul_of_pos_right x1 (by omega)
  rw [s2] at this
  exact this
theorem wyF_wy {os ps : List Int} {ims : List (List Int)} (HO : Hq os) (HP : Hq ps) (h : ims ∈ wyF os ps) : Wy os ps ims := w2_wy HO HP (wyF_w2 h)
theorem Wy.w2 {os ps : List Int} {ims : List (List Int)} (W : Wy os ps ims) : W2 os ps ims := wyF_w2 (wy_mem W)
/-! ### counts -/
theorem pr_flat (f : Int → List Int) : ∀ os : List Int, pr (os.flatMap f) = pr (os.map fun o => pr (f o))
  | [] => rfl
  | o :: os => by
    rw [List.flatMap_cons, pr_app, pr_flat f os]
    rfl
theorem pr_hh (os ps : List Int) : pr (hhL os ps) = cnt os ps := by
  unfold hhL
  rw [← fm_flr gg ps os, pr_flat]
  rfl
theorem pr_mul (f g : Int → Int) : ∀ xs : List Int, pr (xs.map fun x => f x * g x) = pr (xs.map f) * pr (xs.map g)
  | [] => rfl
  | x :: xs => by
    have ih := pr_mul f g xs
    show f x * g x * pr (xs.map fun x => f x * g x) = f x * pr (xs.map f) * (g x * pr (xs.map g))
    rw [ih, Int.mul_assoc, Int.mul_assoc]
    congr 1
    rw [Int.mul_left_comm]
theorem pr_one : ∀ xs : List Int, pr (xs.map fun _ => (1 : Int)) = 1
  | [] => rfl
  | x :: xs => by
    show 1 * pr (xs.map fun _ => (1 : Int)) = 1
    rw [pr_one xs]
    rfl
theorem cnt_comm : ∀ os ps : List Int, cnt os ps = cnt ps os
  | [], ps => by
    show (1 : Int) = pr (ps.map fun _ => (1 : Int))
    rw [pr_one]
  | o :: os, ps => by
    have ih := cnt_comm os ps
    show cG o ps * cnt os ps = pr (ps.map fun p => gg p o * cG p os)
    rw [pr_mul (fun p => gg p o) (fun p => cG p os), ih]
    congr 1
    unfold cG
    congr 1
    refine List.map_congr_left fun p _ => ?_
    unfold gg
    rw [Nat.gcd_comm]
/-! ### keys -/
theorem nest_T (xs : List Int) : nestD (T xs) = some (.tup (xs.map NestedKey.num)) := by
  show (nestDs (xs.map PyData.int)).map NestedKey.tup = _
  rw [nestDs_ints]
  rfl
theorem nest_Ts : ∀ rs : List (List Int), nestDs (rs.map fun r => T r) = some (rs.map fun r => .tup (r.map NestedKey.num))
  | [] => rfl
  | r :: rs => by
    show (match nestD (T r), nestDs (rs.map fun r => T r) with
      | some k, some ks => some (k :: ks)
      | _, _ => none) = _
    rw [nest_T, nest_Ts rs]
    rfl
theorem depth_T (xs : List Int) : (NestedKey.tup (xs.map NestedKey.num)).depth = 1 := by
  simp only [NestedKey.depth, depth_ints]
theorem depth_Ts : ∀ rs : List (List Int), NestedKey.depthAll (rs.map fun r => NestedKey.tup (r.map NestedKey.num)) ≤ 1
  | [] => by simp [NestedKey.depthAll]
  | r :: rs => by
    have ih := depth_Ts rs
    rw [List.map_cons]
    simp only [NestedKey.depthAll, depth_T]
    omega
theorem key_T (xs : List Int) : ∃ k, nestD (T xs) = some k ∧ tupK k = true := ⟨_, nest_T xs, by
  show decide (NestedKey.depthAll (xs.map NestedKey.num) < 8) = true
  rw [depth_ints]
  decide⟩
theorem key_WD (os ps : List Int) (ims : List (List Int)) : ∃ k, nestD (WD os ps ims) = some k ∧ tupK k = true := by
  have e : nestD (TT ims) = some (.tup (ims.map fun r => .tup (r.map NestedKey.num))) := by
    show (nestDs (ims.map fun r => T r)).map NestedKey.tup = _
    rw [nest_Ts]
    rfl
  have h : nestDs [T os, T ps, TT ims] = some [.tup (os.map NestedKey.num), .tup (ps.map NestedKey.num), .tup (ims.map fun r => .tup (r.map NestedKey.num))] := by
    simp only [nestDs, nest_T, e]
  refine ⟨.tup [.tup (os.map NestedKey.num), .tup (ps.map NestedKey.num), .tup (ims.map fun r => .tup (r.map NestedKey.num))], ?_, ?_⟩
  · show (nestDs [T os, T ps, TT ims]).map NestedKey.tup = _
    rw [h]
    rfl
  · have d := depth_Ts ims
    unfold tupK
    simp only [NestedKey.depthAll, NestedKey.depth, depth_ints]
    exact decide_eq_true (by omega)
theorem T_inj {a b : List Int} (h : T a = T b) : a = b := by
  have h : (PyData.tuple (a.map PyData.int)) = PyData.tuple (b.map PyData.int) := h
  injection h with h
  exact (List.map_inj_right (fun x y e => by injection e)).mp h
theorem TT_inj {a b : List (List Int)} (h : TT a = TT b) : a = b := by
  have h : (PyData.tuple (a.map fun r => T r)) = PyData.tuple (b.map fun r => T r) := h
  injection h with h
  exact (List.map_inj_right (fun x y e => T_inj e)).mp h
theorem WD_inj {os ps : List Int} {a b : List (List Int)} (h : WD os ps a = WD os ps b) : a = b := by
  have h : (PyData.tuple [T os, T ps, TT a]) = PyData.tuple [T os, T ps, TT b] := h
  injection h with h
  injection h with _ h
  injection h with _ h
  injection h with h _
  exact TT_inj h
theorem allW_nd {os ps : List Int} (HP : Hq ps) : (allW os ps).Nodup := by
  unfold allW
  refine List.Pairwise.map _ (fun a b h e => h (WD_inj e)) (wyF_nd (fun p hp => (HP.2 p hp).1) os)
theorem allW_len {os ps : List Int} (HO : Hq os) : ((allW os ps).length : Int) = cnt os ps := by
  unfold allW
  rw [List.length_map]
  exact wyF_len ps fun o ho => (HO.2 o ho).1
theorem lset_ways {os ps : List Int} (HO : Hq os) (HP : Hq ps) (h : cnt os ps ≤ 64) : lsetND (.list (allW os ps)) = some (.int (cnt os ps)) := by
  have hl := allW_len (ps := ps) HO
  rw [lsetND_nd (fun d hd => ?_) (allW_nd HP) (by omega), hl]
  obtain ⟨i, _, rfl⟩ := List.mem_map.mp hd
  exact key_WD os ps i
theorem thA_inj {os ps : List Int} (HO : Hq os) (HP : Hq ps) {a b : List (List Int)} (A : a ∈ wyF os ps) (B : b ∈ wyF os ps) (h : thA os ps a = thA os ps b) : a = b := by
  rw [← imA_thA HO HP (wyF_w2 A), h, imA_thA HO HP (wyF_w2 B)]
theorem nd_map {α β : Type} {f : α → β} : ∀ {l : List α}, l.Nodup → (∀ a ∈ l, ∀ b ∈ l, f a = f b → a = b) → (l.map f).Nodup
  | [], _, _ => List.Pairwise.nil
  | x :: xs, h, hf => by
    obtain ⟨h1, h2⟩ := List.nodup_cons.mp h
    rw [List.map_cons]
    refine List.nodup_cons.mpr ⟨fun z => ?_, nd_map h2 fun a ha b hb => hf a (List.mem_cons_of_mem _ ha) b (List.mem_cons_of_mem _ hb)⟩
    obtain ⟨y, hy, e⟩ := List.mem_map.mp z
    rw [hf y (List.mem_cons_of_mem _ hy) x (List.mem_cons_self ..) e] at hy
    exact h1 hy
theorem lset_things {os ps : List Int} (HO : Hq os) (HP : Hq ps) (h : cnt os ps ≤ 64) : lsetND (.list ((wyF os ps).map fun ims => T (thA os ps ims))) = some (.int (cnt os ps)) := by
  have hl := wyF_len (os := os) ps fun o ho => (HO.2 o ho).1
  rw [lsetND_nd (fun d hd => ?_) (nd_map (wyF_nd (fun p hp => (HP.2 p hp).1) os) fun a ha b hb e => thA_inj HO HP ha hb (T_inj e)) (by rw [List.length_map]; omega), List.length_map, hl]
  obtain ⟨i, _, rfl⟩ := List.mem_map.mp hd
  exact key_T _
end K33
namespace K33
open PySem Pu L2
/-! ### ways put together, told by their rows -/
theorem list_gi {a b : List Int} {n : Nat} (ha : a.length = n) (hb : b.length = n) (h : ∀ j, j < n → gi a j = gi b j) : a = b := by
  apply List.ext_getElem?
  intro j
  by_cases hj : j < n
  · rw [gi_at (by omega), gi_at (by omega), h j hj]
  · rw [List.getElem?_eq_none (by omega), List.getElem?_eq_none (by omega)]
theorem list_gr {A B : List (List Int)} {n : Nat} (ha : A.length = n) (hb : B.length = n) (h : ∀ i, i < n → gr A i = gr B i) : A = B := by
  apply List.ext_getElem?
  intro j
  by_cases hj : j < n
  · rw [gr_at (by omega), gr_at (by omega), h j hj]
  · rw [List.getElem?_eq_none (by omega), List.getElem?_eq_none (by omega)]
theorem mix_len {os ps : List Int} {x y : Int} {i1 i2 : List (List Int)} : (mixI os ps x y i1 i2).length = os.length := by simp [mixI]
theorem gr_mix {os ps : List Int} {x y : Int} {i1 i2 : List (List Int)} {i : Nat} (hi : i < os.length) : gr (mixI os ps x y i1 i2) i = mixR ps x y (gr i1 i) (gr i2 i) := gr_map _ hi
theorem gi_mix {ps : List Int} {x y : Int} {a b : List Int} {j : Nat} (hj : j < ps.length) : gi (mixR ps x y a b) j = (x * gi a j + y * gi b j) % gi ps j := gi_map _ hj
theorem mixR_len {ps : List Int} {x y : Int} {a b : List Int} : (mixR ps x y a b).length = ps.length := by simp [mixR]
theorem wy_mix {os ps : List Int} {i1 i2 : List (List Int)} (W1 : Wy os ps i1) (V2 : Wy os ps i2) (x y : Int) : Wy os ps (mixI os ps x y i1 i2) := by
  refine ⟨W1.o, W1.p, mix_len, fun i hi => ?_⟩
  rw [gr_mix hi]
  refine ⟨mixR_len, fun j a k ea ek => ?_⟩
  have hj : j < ps.length := lt_of_at ek
  have e1 : a = (x * gi (gr i1 i) j + y * gi (gr i2 i) j) % gi ps j := by rw [← gi_mix hj]; exact (gi_of ea).symm
  have e2 : k = gi ps j := (gi_of ek).symm
  have hp := (W1.p.gi hj).1
  rw [e1, e2]
  refine ⟨⟨Int.emod_nonneg _ (by omega), Int.emod_lt_of_pos _ (by omega)⟩, ?_⟩
  obtain ⟨c, hc⟩ := Int.dvd_of_emod_eq_zero (W1.n hi hj).2
  obtain ⟨d, hd⟩ := Int.dvd_of_emod_eq_zero (V2.n hi hj).2
  rw [Int.mul_emod, Int.emod_emod_of_dvd _ (Int.dvd_refl _), ← Int.mul_emod]
  refine Int.emod_eq_zero_of_dvd ⟨x * c + y * d, ?_⟩
  rw [Int.mul_add, Int.mul_left_comm, hc, Int.mul_left_comm _ y, hd, Int.mul_add, Int.mul_left_comm x, Int.mul_left_comm y]
theorem mix_back {os ps : List Int} {i1 i2 : List (List Int)} (W1 : Wy os ps i1) : mixI os ps 1 (-1) (mixI os ps 1 1 i1 i2) i2 = i1 := by
  refine list_gr mix_len W1.l fun i hi => ?_
  rw [gr_mix hi]
  refine list_gi mixR_len (W1.im i hi).1 fun j hj => ?_
  rw [gi_mix hj, gr_mix hi, gi_mix hj]
  have h := W1.n hi hj
  have hp := (W1.p.gi hj).1
  rw [Int.one_mul, Int.one_mul, Int.one_mul, Int.neg_mul, Int.one_mul, ← Int.sub_eq_add_neg, Int.emod_sub_emod, Int.add_sub_cancel]
  exact Int.emod_eq_of_lt h.1.1 h.1.2
theorem mix_two {os ps : List Int} {i1 i2 : List (List Int)} : mixI os ps 2 0 i1 i2 = mixI os ps 1 1 i1 i1 := by
  refine list_gr mix_len mix_len fun i hi => ?_
  rw [gr_mix hi, gr_mix hi]
  refine list_gi mixR_len mixR_len fun j hj => ?_
  rw [gi_mix hj, gi_mix hj]
  congr 1
  omega
theorem thA_mix {os ps : List Int} {i1 i2 : List (List Int)} (W1 : Wy os ps i1) (V2 : Wy os ps i2) : thA os ps (mixI os ps 1 1 i1 i2) = suL (hhL os ps) (thA os ps i1) (thA os ps i2) := by
  have hl : (hhL os ps).length = os.length * ps.length := flr_len _ _ _
  refine flr_ext (by simp [suL, hl]) fun i j hi hj => ?_
  have hk := ix_lt hi hj
  unfold suL
  rw [List.getElem?_map, List.getElem?_range (by rw [hl]; exact hk)]
  show some _ = some _
  congr 1
  show (gi (thA os ps i1) (i * ps.length + j) + gi (thA os ps i2) (i * ps.length + j)) % gi (hhL os ps) (i * ps.length + j) = _
  obtain ⟨a, ea, _, _⟩ := W1.w2.x i j hi hj
  obtain ⟨b, eb, _, _⟩ := V2.w2.x i j hi hj
  have ho := (W1.o.gi hi).1
  have hp := (W1.p.gi hj).1
  have s1 := sh_pos ho hp
  have eg : gi (hhL os ps) (i * ps.length + j) = gg (gi os i) (gi ps j) := gi_flr hi hj
  rw [gi_thA hi hj, gi_thA hi hj, eg, gr_mix hi, gi_mix hj, ea, eb, Int.one_mul, Int.one_mul, sum_sh ho hp, Int.mul_ediv_cancel _ (by omega), Int.mul_ediv_cancel _ (by omega)]
theorem mix_imA {os ps : List Int} {i1 i2 : List (List Int)} (W1 : Wy os ps i1) (V2 : Wy os ps i2) : imA os ps (suL (hhL os ps) (thA os ps i1) (thA os ps i2)) = mixI os ps 1 1 i1 i2 := by
  rw [← thA_mix W1 V2]
  exact imA_thA W1.o W1.p (wy_mix W1 V2 1 1).w2
theorem th_assoc {os ps qs rs : List Int} {i1 i2 i3 : List (List Int)} (W1 : Wy os ps i1) (V2 : Wy ps qs i2) (V3 : Wy qs rs i3) : thI os qs rs (thI os ps qs i1 i2) i3 = thI os ps rs i1 (thI ps qs rs i2 i3) := by
  unfold thI
  rw [List.map_map]
  refine List.map_congr_left fun a _ => ?_
  exact (led_then V2 V3 a).symm
theorem dt_mix {ps qs : List Int} {i2 i4 : List (List Int)} (V2 : Wy ps qs i2) {a : List Int} {j : Nat} (hj : j < qs.length) : ∀ n, n ≤ ps.length → gi qs j ∣ dt a (mixI ps qs 1 1 i2 i4) j n - (dt a i2 j n + dt a i4 j n)
  | 0, _ => ⟨0, by simp [dt]⟩
  | n + 1, hn => by
    obtain ⟨c, hc⟩ := dt_mix V2 (i4 := i4) (a := a) hj n (by omega)
    simp only [dt]
    rw [gr_mix (by omega : n < ps.length), gi_mix hj, Int.one_mul, Int.one_mul]
    obtain ⟨d, hd⟩ := dvd_sub_emod (gi (gr i2 n) j + gi (gr i4 n) j) (gi qs j)
    refine ⟨c - gi a n * d, ?_⟩
    have e : (gi (gr i2 n) j + gi (gr i4 n) j) % gi qs j = gi (gr i2 n) j + gi (gr i4 n) j - gi qs j * d := by omega
    rw [e, Int.mul_sub (gi qs j), ← hc, Int.mul_sub (gi a n), Int.mul_add, Int.mul_left_comm (gi a n)]
    omega
theorem th_mix {os ps qs : List Int} {i1 i2 i4 : List (List Int)} (W1 : Wy os ps i1) (V2 : Wy ps qs i2) (V4 : Wy ps qs i4) : thI os ps qs i1 (mixI ps qs 1 1 i2 i4) = mixI os qs 1 1 (thI os ps qs i1 i2) (thI os ps qs i1 i4) := by
  have hl := W1.l
  refine list_gr (n := os.length) (by unfold thI; rw [List.length_map, W1.l]) mix_len fun i hi => ?_
  rw [gr_mix hi, gr_th (by omega), gr_th (by omega), gr_th (by omega)]
  refine list_gi (led_th V2.p _).1 mixR_len fun j hj => ?_
  rw [gi_mix hj, led_gi hj, led_gi hj, led_gi hj, Int.one_mul, Int.one_mul, ← Int.add_emod]
  exact emod_eq_of_dvd (dt_mix V2 hj ps.length (Nat.le_refl _))
theorem dt_unit {os ps : List Int} {i1 : List (List Int)} {k j : Nat} (hk : k < os.length) : ∀ n, n ≤ os.length → dt (gr (idL os) k) i1 j n = if k < n then (1 % gi os k) * gi (gr i1 k) j else 0
  | 0, _ => by simp [dt]
  | n + 1, hn => by
    simp only [dt]
    rw [dt_unit (ps := ps) hk n (by omega), id_gi hk (by omega : n < os.length)]
    by_cases d : n = k
    · subst d
      simp
    · by_cases c : k < n
      · rw [if_pos c, if_neg d, if_pos (by omega)]
        simp
      · rw [if_neg c, if_neg d, if_neg (by omega)]
        simp
theorem th_idl {os ps : List Int} {i1 : List (List Int)} (W1 : Wy os ps i1) : thI os os ps (idL os) i1 = i1 := by
  have hl : (idL os).length = os.length := by simp [idL]
  refine list_gr (n := os.length) (by unfold thI; rw [List.length_map, hl]) W1.l fun i hi => ?_
  rw [gr_th (by omega)]
  refine list_gi (led_th W1.p _).1 (W1.im i hi).1 fun j hj => ?_
  rw [led_gi hj, dt_unit (ps := ps) hi os.length (Nat.le_refl _), if_pos hi]
  have h := W1.n hi hj
  have ho := (W1.o.gi hi).1
  by_cases c : gi os i = 1
  · rw [c] at h ⊢
    rw [Int.one_mul, Int.emod_eq_of_lt h.1.1 h.1.2] at h
    rw [h.2]
    simp
  · rw [Int.emod_eq_of_lt (a := 1) (by decide) (by omega), Int.one_mul]
    exact Int.emod_eq_of_lt h.1.1 h.1.2
theorem th_idr {os ps : List Int} {i1 : List (List Int)} (W1 : Wy os ps i1) : thI os ps ps i1 (idL ps) = i1 := by
  have hl := W1.l
  refine list_gr (n := os.length) (by unfold thI; rw [List.length_map, W1.l]) W1.l fun i hi => ?_
  rw [gr_th (by omega)]
  exact led_id W1.p (im_th (W1.im i hi))
end K33
namespace K33
open PySem Pu L2
theorem thing_ok {X : Exn → En → Prop} {cs : List Int} {p : Ct} {os : List Int} (hp : PenOk cs p) (H : Hs os) : Wp X (m__law_thing [.io p, .v (T os)]) fun rv z => ∃ (as : List Int) (c : Ct) (t : List Sl), rv = .v (T as) ∧ Th os as ∧ z = .io c :: t ∧ PenOk cs c := by
  refine po_fnK fun Y K hY hK _ => ?_
  unfold b__law_thing
  simp
  refine po_compC (fun acc r => ∃ (as : List Int) (c : Ct) (s : Sl), acc = as.map .int ∧ (∀ (i : Nat) (a h : Int), as[i]? = some a → os[i]? = some h → 0 ≤ a ∧ a < h) ∧ r = [.io c, .v (T os), s] ∧ PenOk cs c) os _ ⟨[], p, _, rfl, by simp, rfl, hp⟩ (by have := H.1; omega) ?_ ?_
  · rintro o acc r ho ⟨as, c, s, rfl, hA, rfl, hp⟩
    rw [List.length_map] at ho
    have hh := H.2 o (List.mem_of_getElem? ho)
    refine ⟨[.io c, .v (T os), .v (.int o)], by simp, fun K8 h8 => ?_⟩
    have o0 : ¬ o = 0 := by omega
    simp [-po_comp]
    refine po_mono (draw_ok hp (by omega) (by have := hh.2; omega)) ?_
    rintro _ _ ⟨k, c, t, rfl, k0, k1, rfl, hp⟩
    simp [-po_comp, o0]
    refine po_mono (draw_ok hp (by decide) (by decide)) ?_
    rintro _ _ ⟨w, c, t, rfl, w0, w1, rfl, hp⟩
    have f1 := fmod_pos 1 (show 0 < o by omega)
    have f2 : (w.fdiv 2) = w / 2 := Int.fdiv_eq_ediv_of_nonneg _ (by decide)
    obtain ⟨d, e1, z, rfl, z0, z1⟩ := atI_all (P := fun d : D => ∃ z : Int, d = .int z ∧ 0 ≤ z ∧ z < o) (xs := [.int k, .int (o - 1), .int 0, .int (Int.fmod 1 o)]) (n := w.fdiv 2) (by omega) (by simp [-po_comp]; omega) (by
      intro d hd
      simp only [List.mem_cons, List.not_mem_nil, or_false] at hd
      rcases hd with rfl | rfl | rfl | rfl
      · exact ⟨_, rfl, by omega, by omega⟩
      · exact ⟨_, rfl, by omega, by omega⟩
      · exact ⟨_, rfl, by omega, by omega⟩
      · exact ⟨_, rfl, by omega, by omega⟩)
    simp [-po_comp, e1]
    refine h8 _ _ ⟨as ++ [z], c, _, by simp, ?_, rfl, hp⟩
    intro i a h ea eh
    by_cases hi : i < as.length
    · rw [List.getElem?_append_left hi] at ea
      exact hA i a h ea eh
    · rw [List.getElem?_append_right (by omega)] at ea
      have := (List.getElem?_eq_some_iff.mp ea).1
      simp [-po_comp] at this
      have hz : i = as.length := by omega
      subst hz
      rw [Nat.sub_self] at ea
      rw [ho] at eh
      cases ea
      cases eh
      exact ⟨z0, z1⟩
  · rintro acc r hal ⟨as, c, s, rfl, hA, rfl, hp⟩
    rw [List.length_map] at hal
    simp [-po_comp]
    exact hK _ _ _ rfl ⟨as, c, _, rfl, ⟨hal, hA⟩, rfl, hp⟩
theorem Hs.app1 {hs : List Int} {h : Int} (H : Hs hs) (hl : hs.length ≤ 5) (h1 : 1 ≤ h ∧ h ≤ 10 ^ 6) : Hs (hs ++ [h]) := ⟨by simp [-po_comp]; omega, fun x hx => by
  rcases List.mem_append.mp hx with hx | hx
  · exact H.2 x hx
  · rw [List.mem_singleton.mp hx]
    exact h1⟩
def fit (hs g : List Int) : Bool := decide (cnt hs g ≤ 64) && decide (hs.length * g.length ≤ 6)
theorem small_ok {X : Exn → En → Prop} {cs : List Int} {p : Ct} {G : List (List Int)} (hp : PenOk cs p) (HG : ∀ g ∈ G, Hs g) (hl : G.length ≤ 4) : Wp X (m__law_small_house [.io p, .v (.list (G.map fun g => T g))]) fun rv z => ∃ (hs : List Int) (c : Ct) (t : List Sl), rv = .v (T hs) ∧ Hs hs ∧ hs.length ≤ 4 ∧ (∀ g ∈ G, fit hs g = true) ∧ z = .io c :: t ∧ PenOk cs c := by
  refine po_fnK fun Y K hY hK _ => ?_
  unfold b__law_small_house
  obtain ⟨S1, hS1⟩ : ∃ S1 : D, S1 = .list (G.map fun g => T g) := ⟨_, rfl⟩
  rw [← hS1]
  obtain ⟨A, hA⟩ : ∃ A : List D, A = [.int 1, .int 2, .int 3, .int 0, .int 4] := ⟨_, rfl⟩
  obtain ⟨B, hB⟩ : ∃ B : List D, B = [.int 2, .int 3, .int 4, .int 1, .int 5, .int 6, .int 8, .int 9, .int 12, .int 25, .int 999983, .int 1000000] := ⟨_, rfl⟩
  have lA : A.length = 5 := by rw [hA]; rfl
  have lB : B.length = 12 := by rw [hB]; rfl
  have pA : ∀ d ∈ A, ∃ n : Nat, d = .int n ∧ n ≤ 4 := by
    rw [hA]
    intro d hd
    simp only [List.mem_cons, List.not_mem_nil, or_false] at hd
    rcases hd with rfl | rfl | rfl | rfl | rfl
    · exact ⟨1, rfl, by decide⟩
    · exact ⟨2, rfl, by decide⟩
    · exact ⟨3, rfl, by decide⟩
    · exact ⟨0, rfl, by decide⟩
    · exact ⟨4, rfl, by decide⟩
  have pB : ∀ d ∈ B, ∃ z : Int, d = .int z ∧ 1 ≤ z ∧ z ≤ 10 ^ 6 := by
    rw [hB]
    intro d hd
    simp only [List.mem_cons, List.not_mem_nil, or_false] at hd
    rcases hd with rfl | rfl | rfl | rfl | rfl | rfl | rfl | rfl | rfl | rfl | rfl | rfl <;> exact ⟨_, rfl, by decide, by decide⟩
  refine po_step fun K1 h1 _ _ _ => ?_
  simp [-po_comp]
  refine h1 _ ?_
  refine po_step fun K2 h2 _ _ _ => ?_
  simp [-po_comp]
  rw [← hA]
  refine po_mono (draw_ok hp (by decide) (by decide)) ?_
  rintro _ _ ⟨w, c, t, rfl, w0, w1, rfl, hp⟩
  obtain ⟨d, e1, n, rfl, hn⟩ := atI_all (xs := A) (n := w) w0 (by rw [lA]; omega) pA
  simp [-po_comp, e1]
  refine ⟨by omega, ?_⟩
  refine po_rngK (fun i r => ∃ (hs : List Int) (c : Ct) (s3 s4 s5 s6 : Sl), r = [.io c, .v S1, .v (T hs), s3, s4, s5, s6, .unk] ∧ s3.isIo = false ∧ s4.isIo = false ∧ s5.isIo = false ∧ s6.isIo = false ∧ PenOk cs c ∧ Hs hs ∧ hs.length ≤ i ∧ ∀ g ∈ G, fit hs g = true) _ _ ⟨[], c, _, _, _, _, rfl, rfl, rfl, rfl, rfl, hp, ⟨by simp, by simp⟩, by simp, fun g _ => by simp [-po_comp, fit, cnt, pr]⟩ ?_ ?_
  · rintro i r hi ⟨hs, c, s3, s4, s5, s6, rfl, q3, q4, q5, q6, hp, H, hl2, hf⟩
    refine ⟨[.io c, .v S1, .v (T hs), .v (.int i), s4, s5, s6, .unk], by simp [-po_comp, q3], fun K3 h3 _ _ _ => ?_⟩
    refine po_step fun K4 h4 _ _ _ => ?_
    simp [-po_comp]
    rw [← hB]
    refine po_mono (draw_ok hp (by decide) (by decide)) ?_
    rintro _ _ ⟨u, c, t, rfl, u0, u1, rfl, hp⟩
    obtain ⟨d, e2, o, rfl, o1, o2⟩ := atI_all (xs := B) (n := u) u0 (by rw [lB]; omega) pB
    simp [-po_comp, e2, q4]
    refine h4 _ ?_
    refine po_step fun K5 h5 _ _ _ => ?_
    simp [-po_comp, q5]
    refine ⟨by omega, ?_⟩
    refine h5 _ ?_
    have e5 : PyData.tuple (hs.map PyData.int ++ [.int o]) = T (hs ++ [o]) := by simp [-po_comp]
    rw [e5]
    have H2 := H.app1 (by omega) ⟨o1, o2⟩
    have hl3 := H2.1
    refine po_step fun K6 h6 _ _ _ => ?_
    simp [-po_comp]
    refine po_LC1 (fun g : List Int => T g) (fun g => .bool (fit (hs ++ [o]) g)) G ?_ (by simp [-po_comp]) (by omega) (fun g hg => ?_) ?_
    · simp [-po_comp, hS1]
    · have hg2 := HG g hg
      have hg3 := hg2.1
      have lc := lcount_ok (X := fun _ _ => False) (os := hs ++ [o]) (ps := g) ⟨by omega, H2.2⟩ hg2
      simp [-po_comp]
      refine po_mono lc ?_
      rintro _ _ rfl
      unfold fit
      by_cases h6 : cnt (hs ++ [o]) g ≤ 64
      · simp [-po_comp, h6]
        refine ⟨small_mul ⟨by omega, by omega⟩ ⟨by omega, by omega⟩, ?_⟩
        have e : ((hs.length : Int) + 1) * (g.length : Int) = (((hs.length + 1) * g.length : Nat) : Int) := by
          rw [Int.natCast_mul]
          rfl
        rw [e]
        omega
      · simp [-po_comp, h6]
    · simp [-po_comp, q6]
      refine h6 _ ?_
      cases ha : G.all (fit (hs ++ [o])) with
      | true =>
        simp [-po_comp]
        refine h3 _ ⟨hs ++ [o], c, _, _, _, _, rfl, rfl, rfl, rfl, rfl, hp, H2, by simp [-po_comp]; omega, fun g hg => ?_⟩
        exact List.all_eq_true.mp ha g hg
      | false =>
        simp [-po_comp]
        exact h3 _ ⟨hs, c, _, _, _, _, rfl, rfl, rfl, rfl, rfl, hp, H, by omega, hf⟩
  · rintro r ⟨hs, c, s3, s4, s5, s6, rfl, q3, q4, q5, q6, hp, H, hl2, hf⟩
    refine h2 _ ?_
    simp [-po_comp]
    exact hK _ _ _ rfl ⟨hs, c, _, rfl, H, by omega, hf, rfl, hp⟩
end K33
namespace K33
open PySem Pu L2
/-! ### ways compared -/
theorem eqv_TT : ∀ xs ys : List (List Int), PyData.eqvAll (xs.map fun a => T a) (ys.map fun a => T a) = decide (xs = ys)
  | [], [] => rfl
  | [], _ :: _ => by simp [-po_comp, PyData.eqvAll]
  | _ :: _, [] => by simp [-po_comp, PyData.eqvAll]
  | x :: xs, y :: ys => by
    show (PyData.eqvAll (x.map .int) (y.map .int) && PyData.eqvAll (xs.map fun a => T a) (ys.map fun a => T a)) = _
    rw [eqv_ints, eqv_TT xs ys, Bool.eq_iff_iff]
    simp [-po_comp]
theorem eqv_W (os ps : List Int) (a b : List (List Int)) : PyData.eqvAll [T os, T ps, TT a] [T os, T ps, TT b] = decide (a = b) := by
  show (PyData.eqvAll (os.map .int) (os.map .int) && (PyData.eqvAll (ps.map .int) (ps.map .int) && (PyData.eqvAll (a.map fun a => T a) (b.map fun a => T a) && true))) = _
  rw [eqv_ints, eqv_ints, eqv_TT]
  simp [-po_comp]
theorem rq_W {os ps : List Int} {ims : List (List Int)} (W : Wy os ps ims) : Rq 4 129 (WD os ps ims) := by
  have h1 := W.o.1
  have h2 := W.p.1
  refine Rq.tup (n := 3) (bk := 42) (dp := 3) (by simp [-po_comp]) fun d hd => ?_
  simp only [List.mem_cons, List.not_mem_nil, or_false] at hd
  have hq : ∀ {xs : List Int}, Hq xs → ∀ x ∈ xs, 0 ≤ x ∧ x ≤ 10 ^ 30 := fun H x hx => by
    have := H.2 x hx
    omega
  rcases hd with rfl | rfl | rfl
  · exact (rq_T h1 (hq W.o)).mono (by decide) (by decide)
  · exact (rq_T h2 (hq W.p)).mono (by decide) (by decide)
  · refine Rq.tup (n := 6) (bk := 6) (dp := 2) (by simp [-po_comp, W.l]; exact h1) fun d hd => ?_
    obtain ⟨r, hr, rfl⟩ := List.mem_map.mp hd
    obtain ⟨i, hi, e⟩ := List.getElem_of_mem hr
    have I := W.im i (by rw [← W.l]; exact hi)
    have e2 := gr_at hi
    rw [List.getElem?_eq_getElem hi, e] at e2
    rw [← Option.some.inj e2] at I
    exact rq_T (by rw [I.1]; exact h2) (th_small W.p (im_th I))
theorem sh_W {os ps : List Int} {ims : List (List Int)} (W : Wy os ps ims) : SeqAt.shaped (WD os ps ims) = true := (rq_W W).shaped (by decide)
theorem eq_W {os ps : List Int} {a b : List (List Int)} (A : Wy os ps a) (B : Wy os ps b) : eqD (WD os ps a) (WD os ps b) = some (.bool (decide (a = b))) := by
  rw [eqD_tt (sh_W A) (sh_W B), eqv_W]
theorem ne_W {os ps : List Int} {a b : List (List Int)} (A : Wy os ps a) (B : Wy os ps b) : neD (WD os ps a) (WD os ps b) = some (.bool (!decide (a = b))) := by
  rw [neD_tt (sh_W A) (sh_W B), eqv_W]
theorem sh_all {os ps : List Int} (HO : Hq os) (HP : Hq ps) : SeqAt.shaped (.list (allW os ps)) = true := by
  refine (Rq.lst (n := (allW os ps).length) (dp := 4) (bk := 129) (Nat.le_refl _) fun d hd => ?_).shaped (by decide)
  obtain ⟨i, hi, rfl⟩ := List.mem_map.mp hd
  exact rq_W (wyF_wy HO HP hi)
theorem any_W {os ps : List Int} {a : List (List Int)} (A : Wy os ps a) : ((allW os ps).any fun z => PyData.eqv z (WD os ps a)) = true := by
  refine List.any_eq_true.mpr ⟨WD os ps a, List.mem_map_of_mem (wy_mem A), ?_⟩
  show PyData.eqvAll [T os, T ps, TT a] [T os, T ps, TT a] = true
  rw [eqv_W]
  simp [-po_comp]
theorem in_W {os ps : List Int} {a : List (List Int)} (A : Wy os ps a) : inD (WD os ps a) (.list (allW os ps)) = some (.bool true) := by
  rw [inD_l _ _ ⟨sh_W A, sh_all A.o A.p⟩, any_W A]
theorem nin_W {os ps : List Int} {a : List (List Int)} (A : Wy os ps a) : ninD (WD os ps a) (.list (allW os ps)) = some (.bool false) := by
  rw [ninD_l _ _ ⟨sh_W A, sh_all A.o A.p⟩, any_W A]
  rfl
theorem way_W {os ps : List Int} {a : List (List Int)} (A : Wy os ps a) : way (WD os ps a) = true := im_way A.o A.p A.l fun i o as eo ea => by
  have h := A.im i (lt_of_at eo)
  have e1 : gi os i = o := gi_of eo
  have e2 : gr a i = as := by
    unfold gr
    rw [List.getD_eq_getElem?_getD, ea]
    rfl
  rw [e1, e2] at h
  exact h
theorem is_way_W {X : Exn → En → Prop} {os ps : List Int} {a : List (List Int)} (A : Wy os ps a) : Wp X (m_is_way [.v (WD os ps a)]) fun rv _ => rv = .v (.bool true) := by
  refine po_mono (is_way_ok _ (szw A.o.ib A.p.ib)) ?_
  rintro _ _ rfl
  rw [way_W A]
theorem fil_nil {os ps : List Int} {a : List (List Int)} (A : Wy os ps a) {k : Nat} (hk : k < (hhL os ps).length) : (0 ≤ gi (thA os ps a) k ∧ gi (thA os ps a) k < gi (hhL os ps) k) := by
  have h := th_thA A.o A.p A.w2
  exact h.2 k _ _ (gi_at (by rw [h.1]; exact hk)) (gi_at hk)
theorem zip_two {γ : Type} (f g : γ → D) (xs : List γ) : zipOf [.list (xs.map f), .list (xs.map g)] = some (xs.map fun x => .tuple [f x, g x]) := by
  show some (List.zipWith (fun x y => PyData.tuple [x, y]) (xs.map f) (xs.map g)) = _
  congr 1
  induction xs with
  | nil => rfl
  | cons x xs ih =>
    rw [List.map_cons, List.map_cons, List.zipWith_cons_cons, ih]
    rfl
theorem all_ok {X : Exn → En → Prop} {os ps : List Int} (HO : Hs os) (HP : Hs ps) (hc : cnt os ps ≤ 64) (hm : os.length * ps.length ≤ 6) : Wp X (m__law_all [.v (T os), .v (T ps)]) fun rv _ => rv = .v (.list (allW os ps)) := by
  refine po_fnK fun Y K hY hK _ => ?_
  unfold b__law_all
  have QO := HO.hq
  have QP := HP.hq
  have hlen := allW_len (ps := ps) QO
  have hlen2 := wyF_len (os := os) ps fun o ho => (HO.2 o ho).1
  have hc1 := cnt_pos (ps := ps) HO
  have hhl : (hhL os ps).length ≤ 6 := hh_small hm
  refine po_step fun K1 h1 _ _ _ => ?_
  simp [-po_comp]
  refine po_mono (wys_ok HO HP (by omega)) ?_
  rintro _ _ rfl
  simp [-po_comp]
  refine h1 _ ?_
  refine po_step fun K2 h2 _ _ _ => ?_
  simp [-po_comp]
  refine po_mono (ways_house_ok QO QP) ?_
  rintro _ _ rfl
  simp [-po_comp]
  refine h2 _ ?_
  refine po_step fun K3 h3 _ _ _ => ?_
  simp [-po_comp]
  refine h3 _ ?_
  refine po_step fun K4 h4 _ _ _ => ?_
  simp [-po_comp]
  refine po_forK (f := fun x : Int => PyData.int x) (fun done r => ∃ s5 : Sl, r = [.v (T os), .v (T ps), .v (.list (allW os ps)), .v (T (hhL os ps)), .v (.int (pr done)), s5, .unk, .unk, .unk, .unk] ∧ s5.isIo = false) (hhL os ps) _ ⟨_, rfl, rfl⟩ ?_ ?_
  · rintro done x rest r e ⟨s5, rfl, q5⟩
    refine ⟨[.v (T os), .v (T ps), .v (.list (allW os ps)), .v (T (hhL os ps)), .v (.int (pr done)), .v (.int x), .unk, .unk, .unk, .unk], by simp [-po_comp, q5], fun K5 h5 _ _ _ => ?_⟩
    have hd : ∀ y ∈ done ++ x :: rest, 1 ≤ y := fun y hy => by
      rw [← e] at hy
      obtain ⟨k, hk, rfl⟩ := List.getElem_of_mem hy
      have hk2 := hk
      rw [show (hhL os ps).length = os.length * ps.length from flr_len _ _ _] at hk2
      obtain ⟨i, j, hi, hj, rfl⟩ := ix_of hk2
      have e2 := flr_at (fun i j => gg (gi os i) (gi ps j)) ps.length hj os.length hi
      have e3 : (hhL os ps)[i * ps.length + j]? = some (gg (gi os i) (gi ps j)) := e2
      rw [List.getElem?_eq_getElem hk] at e3
      rw [Option.some.inj e3]
      exact gg_pos (QO.gi hi).1
    have p1 : 1 ≤ pr done := pr_pos fun y hy => hd y (List.mem_append_left _ hy)
    have p2 : pr done ≤ cnt os ps := by
      rw [← pr_hh, e]
      exact pr_pre hd
    have p3 : 1 ≤ x := hd x (by simp [-po_comp])
    have p4 : x ≤ cnt os ps := by
      rw [← pr_hh]
      exact pr_mem (fun y hy => hd y (by rw [← e]; exact hy)) (by rw [e]; simp [-po_comp])
    have hmul : mulOk (pr done) x := small_mul ⟨by omega, by omega⟩ ⟨by omega, by omega⟩
    simp [-po_comp, hmul]
    refine h5 _ ⟨.v (.int x), ?_, rfl⟩
    rw [pr_app]
    simp [-po_comp, pr]
  · rintro r ⟨s5, rfl, q5⟩
    refine h4 _ ?_
    rw [pr_hh]
    refine po_step fun K6 h6 _ _ _ => ?_
    simp [-po_comp, hlen]
    refine po_mono (many_ok HO HP) ?_
    rintro _ _ rfl
    simp [-po_comp, lset_ways QO QP hc]
    refine h6 _ ?_
    refine po_step fun K7 h7 _ _ _ => ?_
    simp [-po_comp]
    refine po_LC1 (fun ims => WD os ps ims) (fun ims => T (thA os ps ims)) (wyF os ps) ?_ (by simp [-po_comp]) (by omega) (fun ims hi => ?_) ?_
    · simp [-po_comp, allW]
    · have W := wyF_w2 hi
      simp [-po_comp]
      refine po_mono (thing_of_ok QO QP W.l W.r) ?_
      rintro _ _ rfl
      simp [-po_comp]
    · simp [-po_comp]
      refine h7 _ ?_
      refine po_step fun K8 h8 _ _ _ => ?_
      simp [-po_comp, lset_things QO QP hc]
      refine h8 _ ?_
      refine po_step fun K9 h9 _ _ _ => ?_
      simp [-po_comp]
      have ez : zipOf [.list (allW os ps), .list ((wyF os ps).map fun ims => T (thA os ps ims))] = some ((wyF os ps).map fun ims => .tuple [WD os ps ims, T (thA os ps ims)]) := zip_two _ _ _
      rw [ez]
      simp [-po_comp]
      obtain ⟨G, hG⟩ : ∃ G : D, G = .list ((wyF os ps).map fun ims => T (thA os ps ims)) := ⟨_, rfl⟩
      rw [← hG]
      refine po_forK (f := fun ims => PyData.tuple [WD os ps ims, T (thA os ps ims)]) (fun done r => ∃ s7 s8 : Sl, r = [.v (T os), .v (T ps), .v (.list (allW os ps)), .v (T (hhL os ps)), .v (.int (cnt os ps)), s5, .v G, s7, s8, .unk] ∧ s7.isIo = false ∧ s8.isIo = false) (wyF os ps) _ ⟨_, _, rfl, rfl, rfl⟩ ?_ ?_
      · rintro done ims rest r e ⟨s7, s8, rfl, q7, q8⟩
        have hi : ims ∈ wyF os ps := by rw [e]; simp [-po_comp]
        have W := wyF_wy QO QP hi
        refine ⟨[.v (T os), .v (T ps), .v (.list (allW os ps)), .v (T (hhL os ps)), .v (.int (cnt os ps)), s5, .v G, .v (WD os ps ims), .v (T (thA os ps ims)), .unk], by simp [-po_comp, q7, q8], fun K10 h10 _ _ _ => ?_⟩
        refine po_step fun K11 h11 _ _ _ => ?_
        simp [-po_comp]
        refine po_mono (is_way_W W) ?_
        rintro _ _ rfl
        simp [-po_comp]
        refine po_mono (way_of_ok QO QP hm (th_thA QO QP W.w2)) ?_
        rintro _ _ rfl
        rw [imA_thA QO QP W.w2]
        simp [-po_comp, ne_W W W]
        refine h11 _ ?_
        simp
        refine ⟨by omega, ?_⟩
        have er : rngD 0 (hhL os ps).length = (List.range (hhL os ps).length).map fun k : Nat => PyData.int k := by
          simp [-po_comp, rngD]
        rw [er]
        refine po_compF (f := fun k : Nat => PyData.int k) (g := fun k : Nat => PyData.int k) (p := fun _ => false) (fun r => ∃ s9 : Sl, r = [.v (T os), .v (T ps), .v (.list (allW os ps)), .v (T (hhL os ps)), .v (.int (cnt os ps)), s5, .v G, .v (WD os ps ims), .v (T (thA os ps ims)), s9]) _ _ _ ⟨_, rfl⟩ (by simp [-po_comp]; omega) ?_ ?_
        · rintro k hk _ ⟨s9, rfl⟩
          have hk := List.mem_range.mp hk
          have f := fil_nil W hk
          have hk3 : k < (thA os ps ims).length := by rw [(th_thA QO QP W.w2).1]; exact hk
          refine ⟨_, by simp [-po_comp]; rfl, ?_⟩
          have a1 := gi_at hk3
          have a2 := gi_at hk
          simp [-po_comp, a1, a2, f.1, f.2]
        · rintro r ⟨s9, rfl⟩
          have fe : (List.range (hhL os ps).length).filter (fun _ => false) = [] := by simp [-po_comp]
          have e0 : neD (.list []) (.list []) = some (.bool false) := by
            rw [neD_ll rfl rfl]
            rfl
          rw [fe]
          simp [-po_comp, e0]
          exact h10 _ ⟨.v (WD os ps ims), .v (T (thA os ps ims)), rfl, rfl, rfl⟩
      · rintro r ⟨s7, s8, rfl, q7, q8⟩
        refine h9 _ ?_
        simp [-po_comp]
        exact hK _ _ _ rfl rfl
end K33
namespace K33
open PySem Pu L2
theorem pick_W {os ps : List Int} (HO : Hq os) (HP : Hq ps) {k : Int} (h0 : 0 ≤ k) (h1 : k < (allW os ps).length) : ∃ i, atI (allW os ps) k = some (WD os ps i) ∧ Wy os ps i := by
  obtain ⟨d, e, i, rfl, W⟩ := atI_all (P := fun d : D => ∃ i, d = WD os ps i ∧ Wy os ps i) (xs := allW os ps) (n := k) h0 (by omega) (fun d hd => by
    obtain ⟨i, hi, rfl⟩ := List.mem_map.mp hd
    exact ⟨i, rfl, wyF_wy HO HP hi⟩)
  exact ⟨i, e, W⟩
theorem sums_ok {X : Exn → En → Prop} {cs : List Int} {p : Ct} {os ps : List Int} (hp : PenOk cs p) (HO : Hs os) (HP : Hs ps) (hc : cnt os ps ≤ 64) (hm : os.length * ps.length ≤ 6) : Wp X (m__law_sums_right [.io p, .v (.list (allW os ps))]) fun rv z => rv = .v (.bool true) ∧ ∃ (c : Ct) (t : List Sl), z = .io c :: t ∧ PenOk cs c := by
  refine po_fnK fun Y K hY hK _ => ?_
  unfold b__law_sums_right
  have QO := HO.hq
  have QP := HP.hq
  have hlen := allW_len (ps := ps) QO
  have hc1 := cnt_pos (ps := ps) HO
  have hhl : (hhL os ps).length ≤ 6 := hh_small hm
  refine po_step fun K1 h1 _ _ _ => ?_
  simp [-po_comp]
  refine po_mono (draw_ok hp (by omega) (by omega)) ?_
  rintro _ _ ⟨k, c, t, rfl, k0, k1, rfl, hp⟩
  obtain ⟨i1, e1, W1⟩ := pick_W QO QP k0 k1
  simp [-po_comp, e1]
  refine h1 _ ?_
  refine po_step fun K2 h2 _ _ _ => ?_
  simp [-po_comp]
  refine po_mono (draw_ok hp (by omega) (by omega)) ?_
  rintro _ _ ⟨k2, c, t, rfl, k20, k21, rfl, hp⟩
  obtain ⟨i2, e2, V2⟩ := pick_W QO QP k20 k21
  simp [-po_comp, e2]
  refine h2 _ ?_
  have A1 := th_thA QO QP W1.w2
  have A2 := th_thA QO QP V2.w2
  refine po_step fun K3 h3 _ _ _ => ?_
  simp [-po_comp]
  refine h3 _ ?_
  refine po_step fun K4 h4 _ _ _ => ?_
  simp [-po_comp]
  refine po_mono (ways_house_ok QO QP) ?_
  rintro _ _ rfl
  simp [-po_comp]
  refine h4 _ ?_
  refine po_step fun K5 h5 _ _ _ => ?_
  simp [-po_comp]
  refine po_mono (thing_of_ok QO QP W1.w2.l W1.w2.r) ?_
  rintro _ _ rfl
  simp [-po_comp]
  refine h5 _ ?_
  refine po_step fun K6 h6 _ _ _ => ?_
  simp [-po_comp]
  refine po_mono (thing_of_ok QO QP V2.w2.l V2.w2.r) ?_
  rintro _ _ rfl
  simp [-po_comp]
  refine h6 _ ?_
  have Mx := wy_mix W1 V2 1 1
  refine po_step fun K7 h7 _ _ _ => ?_
  simp [-po_comp]
  refine po_LC1 (fun j : Nat => .int j) (fun j : Nat => .int ((gi (thA os ps i1) j + gi (thA os ps i2) j) % gi (hhL os ps) j)) (List.range (hhL os ps).length) ?_ (by simp [-po_comp]) (by simp [-po_comp]; omega) (fun j hj => ?_) ?_
  · simp [-po_comp, rng_map]
    omega
  · have hj := List.mem_range.mp hj
    have a1 := gi_at (xs := thA os ps i1) (i := j) (by rw [A1.1]; exact hj)
    have a2 := gi_at (xs := thA os ps i2) (i := j) (by rw [A2.1]; exact hj)
    have a3 := gi_at hj
    have f := fil_nil W1 hj
    simp [-po_comp, a1, a2, a3, show ¬ gi (hhL os ps) j = 0 by omega, Int.fmod_eq_emod_of_nonneg _ (show 0 ≤ gi (hhL os ps) j by omega)]
  · have es : (.tuple ((List.range (hhL os ps).length).map fun j : Nat => .int ((gi (thA os ps i1) j + gi (thA os ps i2) j) % gi (hhL os ps) j)) : D) = T (suL (hhL os ps) (thA os ps i1) (thA os ps i2)) := by
      unfold suL
      simp [-po_comp]
    have et := th_thA QO QP Mx.w2
    rw [thA_mix W1 V2] at et
    simp [-po_comp]
    rw [es]
    refine po_mono (way_of_ok QO QP hm et) ?_
    rintro _ _ rfl
    rw [mix_imA W1 V2]
    simp [-po_comp]
    refine h7 _ ?_
    refine po_step fun K8 h8 _ _ _ => ?_
    simp [-po_comp]
    refine po_mono (plus_ways_ok W1 V2) ?_
    rintro _ _ rfl
    simp [-po_comp]
    refine h8 _ ?_
    refine po_step fun K9 h9 _ _ _ => ?_
    simp [-po_comp, ne_W Mx Mx, nin_W Mx]
    refine po_mono (minus_ways_ok Mx V2) ?_
    rintro _ _ rfl
    rw [mix_back W1]
    simp [-po_comp, ne_W W1 W1]
    refine h9 _ ?_
    simp [-po_comp]
    refine po_mono (times_way_ok W1 2 (by decide) i2) ?_
    rintro _ _ rfl
    simp [-po_comp]
    refine po_mono (plus_ways_ok W1 W1) ?_
    rintro _ _ rfl
    rw [mix_two]
    have Mx2 := wy_mix W1 W1 1 1
    have N := wy_no QO QP
    simp [-po_comp, eq_W Mx2 Mx2]
    refine po_mono (none_ok QO QP) ?_
    rintro _ _ rfl
    simp [-po_comp, in_W N]
    exact hK _ _ _ rfl ⟨rfl, c, _, rfl, hp⟩
end K33
namespace K33
open PySem Pu L2
def Few (q : List Int × List Int) : Prop := Hs q.1 ∧ Hs q.2 ∧ cnt q.1 q.2 ≤ 64
abbrev AL (q : List Int × List Int) : D := .list (allW q.1 q.2)
theorem app_all {xs : List (List Int × List Int)} {acc : List D} {y : D} {q : List Int × List Int} (hq : xs[acc.length]? = some q) {ims : List (List Int)} (hy : y = WD q.1 q.2 ims) (W : Wy q.1 q.2 ims) (h : ∀ (i : Nat) (d : D), acc[i]? = some d → ∃ q ims, xs[i]? = some q ∧ d = WD q.1 q.2 ims ∧ Wy q.1 q.2 ims) : ∀ (i : Nat) (d : D), (acc ++ [y])[i]? = some d → ∃ q ims, xs[i]? = some q ∧ d = WD q.1 q.2 ims ∧ Wy q.1 q.2 ims := fun i d hd => by
  by_cases c : i < acc.length
  · rw [List.getElem?_append_left c] at hd
    exact h i d hd
  · rw [List.getElem?_append_right (by omega)] at hd
    have := (List.getElem?_eq_some_iff.mp hd).1
    simp [-po_comp] at this
    have e : i = acc.length := by omega
    subst e
    rw [Nat.sub_self] at hd
    cases hd
    exact ⟨q, ims, hq, hy, W⟩
theorem five {acc : List D} {xs : List (List Int × List Int)} {a b c d e : List Int × List Int} (hx : xs = [a, b, c, d, e]) (hl : acc.length = xs.length) (h : ∀ (i : Nat) (d : D), acc[i]? = some d → ∃ q ims, xs[i]? = some q ∧ d = WD q.1 q.2 ims ∧ Wy q.1 q.2 ims) : ∃ i1 i2 i3 i4 i5, acc = [WD a.1 a.2 i1, WD b.1 b.2 i2, WD c.1 c.2 i3, WD d.1 d.2 i4, WD e.1 e.2 i5] ∧ Wy a.1 a.2 i1 ∧ Wy b.1 b.2 i2 ∧ Wy c.1 c.2 i3 ∧ Wy d.1 d.2 i4 ∧ Wy e.1 e.2 i5 := by
  subst hx
  match acc, hl with
  | [x1, x2, x3, x4, x5], _ =>
    obtain ⟨q1, i1, z1, rfl, w1⟩ := h 0 x1 rfl
    obtain ⟨q2, i2, z2, rfl, w2⟩ := h 1 x2 rfl
    obtain ⟨q3, i3, z3, rfl, w3⟩ := h 2 x3 rfl
    obtain ⟨q4, i4, z4, rfl, w4⟩ := h 3 x4 rfl
    obtain ⟨q5, i5, z5, rfl, w5⟩ := h 4 x5 rfl
    cases z1
    cases z2
    cases z3
    cases z4
    cases z5
    exact ⟨i1, i2, i3, i4, i5, rfl, w1, w2, w3, w4, w5⟩
theorem chains_ok {X : Exn → En → Prop} {cs : List Int} {p : Ct} {os ps qs : List Int} (hp : PenOk cs p) (H1 : Few (os, ps)) (H2 : Few (ps, qs)) (H3 : Few (qs, os)) (H4 : Few (os, qs)) : Wp X (m__law_chains_right [.io p, .v (.list [AL (os, ps), AL (ps, qs), AL (qs, os), AL (ps, qs), AL (os, qs)])]) fun rv z => rv = .v (.bool true) ∧ ∃ (c : Ct) (t : List Sl), z = .io c :: t ∧ PenOk cs c := by
  refine po_fnK fun Y K hY hK _ => ?_
  unfold b__law_chains_right
  obtain ⟨xs, hxs⟩ : ∃ xs : List (List Int × List Int), xs = [(os, ps), (ps, qs), (qs, os), (ps, qs), (os, qs)] := ⟨_, rfl⟩
  have hF : ∀ q ∈ xs, Few q := by
    rw [hxs]
    intro q hq
    simp only [List.mem_cons, List.not_mem_nil, or_false] at hq
    rcases hq with rfl | rfl | rfl | rfl | rfl
    · exact H1
    · exact H2
    · exact H3
    · exact H2
    · exact H4
  have hxl : xs.length = 5 := by rw [hxs]; rfl
  have eS : [AL (os, ps), AL (ps, qs), AL (qs, os), AL (ps, qs), AL (os, qs)] = xs.map AL := by rw [hxs]; rfl
  have a4 : atI (xs.map AL) 4 = some (AL (os, qs)) := by rw [hxs]; rfl
  rw [eS]
  obtain ⟨S1, hS1⟩ : ∃ S1 : D, S1 = .list (xs.map AL) := ⟨_, rfl⟩
  rw [← hS1]
  refine po_step fun K1 h1 _ _ _ => ?_
  simp
  rw [hS1]
  simp [-po_comp]
  rw [← hS1]
  refine po_compC (f := AL) (fun acc r => (∀ (i : Nat) (d : D), acc[i]? = some d → ∃ q ims, xs[i]? = some q ∧ d = WD q.1 q.2 ims ∧ Wy q.1 q.2 ims) ∧ ∃ (c : Ct) (s : Sl), r = [.io c, .v S1, .unk, .unk, .unk, .unk, .unk, .unk, .unk, .unk, s] ∧ PenOk cs c) xs _ ⟨fun i d hd => by simp [-po_comp] at hd, _, _, rfl, hp⟩ (by omega) ?_ ?_
  · rintro q acc r hq ⟨hacc, c, s, rfl, hp⟩
    have F := hF q (List.mem_of_getElem? hq)
    have hlen := allW_len (ps := q.2) F.1.hq
    have hc1 := cnt_pos (ps := q.2) F.1
    have hc2 := F.2.2
    refine ⟨[.io c, .v S1, .unk, .unk, .unk, .unk, .unk, .unk, .unk, .unk, .v (AL q)], by simp, fun K8 h8 => ?_⟩
    simp [-po_comp]
    refine po_mono (draw_ok hp (by omega) (by omega)) ?_
    rintro _ _ ⟨k, c, t, rfl, k0, k1, rfl, hp⟩
    obtain ⟨i1, e1, W1⟩ := pick_W F.1.hq F.2.1.hq k0 k1
    simp [-po_comp, e1]
    exact h8 _ _ ⟨app_all hq rfl W1 hacc, c, _, rfl, hp⟩
  · rintro acc r hal ⟨hacc, c, s, rfl, hp⟩
    obtain ⟨i1, i2, i3, i4, i5, rfl, W1, V2, V3, V4, V5⟩ := five hxs hal hacc
    dsimp only at W1 V2 V3 V4 V5
    simp [-po_comp]
    refine h1 _ ?_
    refine po_step fun K2 h2 _ _ _ => ?_
    simp [-po_comp]
    refine h2 _ ?_
    have C := wy_then W1 V2
    refine po_step fun K3 h3 _ _ _ => ?_
    simp [-po_comp]
    refine po_mono (then_ok W1 V2) ?_
    rintro _ _ rfl
    simp [-po_comp]
    refine h3 _ ?_
    refine po_step fun K4 h4 _ _ _ => ?_
    simp [-po_comp]
    refine po_mono (then_ok C V3) ?_
    rintro _ _ rfl
    simp [-po_comp]
    refine po_mono (then_ok V2 V3) ?_
    rintro _ _ rfl
    simp [-po_comp]
    refine po_mono (then_ok W1 (wy_then V2 V3)) ?_
    rintro _ _ rfl
    have C3 := wy_then W1 (wy_then V2 V3)
    rw [th_assoc W1 V2 V3]
    rw [hS1]
    simp [-po_comp, ne_W C3 C3, a4, nin_W C]
    rw [← hS1]
    refine h4 _ ?_
    refine po_step fun K5 h5 _ _ _ => ?_
    simp [-po_comp]
    refine po_mono (plus_ways_ok V2 V4) ?_
    rintro _ _ rfl
    have M := wy_mix V2 V4 1 1
    simp [-po_comp]
    refine po_mono (then_ok W1 M) ?_
    rintro _ _ rfl
    simp [-po_comp]
    refine po_mono (then_ok W1 V4) ?_
    rintro _ _ rfl
    simp [-po_comp]
    refine po_mono (plus_ways_ok C (wy_then W1 V4)) ?_
    rintro _ _ rfl
    rw [th_mix W1 V2 V4]
    have M2 := wy_mix C (wy_then W1 V4) 1 1
    simp [-po_comp, ne_W M2 M2]
    refine h5 _ ?_
    refine po_step fun K6 h6 _ _ _ => ?_
    simp [-po_comp, at0]
    refine po_mono (stay_ok W1.o) ?_
    rintro _ _ rfl
    simp [-po_comp]
    refine po_mono (then_ok (wy_id W1.o) W1) ?_
    rintro _ _ rfl
    rw [th_idl W1]
    simp [-po_comp, ne_W W1 W1, at1]
    refine po_mono (stay_ok W1.p) ?_
    rintro _ _ rfl
    simp [-po_comp]
    refine po_mono (then_ok W1 (wy_id W1.p)) ?_
    rintro _ _ rfl
    rw [th_idr W1]
    simp [-po_comp, ne_W W1 W1]
    refine h6 _ ?_
    refine po_step fun K7 h7 _ _ _ => ?_
    simp [-po_comp, at0]
    refine po_mono (thing_ok hp H1.1) ?_
    rintro _ _ ⟨a, c, t, rfl, A, rfl, hp⟩
    simp [-po_comp]
    refine h7 _ ?_
    simp [-po_comp]
    refine po_mono (led_ok C A) ?_
    rintro _ _ rfl
    simp [-po_comp]
    refine po_mono (led_ok W1 A) ?_
    rintro _ _ rfl
    simp [-po_comp]
    refine po_mono (led_ok V2 (led_th W1.p a)) ?_
    rintro _ _ rfl
    rw [led_then W1 V2]
    simp [-po_comp]
    refine po_mono (led_ok V5 A) ?_
    rintro _ _ rfl
    simp [-po_comp, at1]
    refine po_mono (stay_ok V5.p) ?_
    rintro _ _ rfl
    simp [-po_comp]
    refine po_mono (then_ok V5 (wy_id V5.p)) ?_
    rintro _ _ rfl
    simp [-po_comp]
    refine po_mono (led_ok (wy_then V5 (wy_id V5.p)) A) ?_
    rintro _ _ rfl
    rw [th_idr V5]
    simp [-po_comp]
    exact hK _ _ _ rfl ⟨rfl, c, _, rfl, hp⟩
end K33
namespace K33
open PySem Pu L2
theorem fit_of {hs g : List Int} (h : fit hs g = true) : cnt hs g ≤ 64 ∧ hs.length * g.length ≤ 6 := by
  unfold fit at h
  simpa using h
theorem law_true (ns : List Int) (h : ns.length ≤ 63) (hb : ∀ z ∈ ns, Builtin.Int.intBits z ≤ 1048576) : ∃ r, m_law [.v (.list (ns.map .int))] = .ok (.v (.bool true)) r := by
  refine po_true ?_
  refine po_fnK fun Y K hY hK _ => ?_
  unfold b_law
  obtain ⟨S0, hS0⟩ : ∃ S0 : D, S0 = .list (ns.map .int) := ⟨_, rfl⟩
  refine po_step fun K1 h1 _ _ _ => ?_
  simp [-po_comp]
  refine po_mono (pen_start ns) ?_
  rintro _ _ ⟨cs, c, rfl, hp⟩
  simp [-po_comp]
  refine h1 _ ?_
  rw [← hS0]
  refine po_step fun K2 h2 _ _ _ => ?_
  simp [-po_comp]
  refine po_mono (small_ok (G := []) hp (fun _ z => nomatch z) (by decide)) ?_
  rintro _ _ ⟨os, c, t, rfl, HO, lo, -, rfl, hp⟩
  simp [-po_comp]
  refine h2 _ ?_
  refine po_step fun K3 h3 _ _ _ => ?_
  simp [-po_comp]
  refine po_mono (small_ok (G := [os]) hp (fun g hg => by rw [List.mem_singleton.mp hg]; exact HO) (by simp [-po_comp])) ?_
  rintro _ _ ⟨ps, c, t, rfl, HP, lp, fp, rfl, hp⟩
  simp [-po_comp]
  refine h3 _ ?_
  refine po_step fun K4 h4 _ _ _ => ?_
  simp [-po_comp]
  refine po_mono (small_ok (G := [os, ps]) hp (fun g hg => by
    simp only [List.mem_cons, List.not_mem_nil, or_false] at hg
    rcases hg with rfl | rfl
    · exact HO
    · exact HP) (by simp [-po_comp])) ?_
  rintro _ _ ⟨qs, c, t, rfl, HQ, lq, fq, rfl, hp⟩
  simp [-po_comp]
  refine h4 _ ?_
  obtain ⟨c1, m1⟩ := fit_of (fp os (by simp [-po_comp]))
  obtain ⟨c2, m2⟩ := fit_of (fq os (by simp [-po_comp]))
  obtain ⟨c3, m3⟩ := fit_of (fq ps (by simp [-po_comp]))
  have d1 : cnt os ps ≤ 64 := by rw [cnt_comm]; exact c1
  have d2 : cnt ps qs ≤ 64 := by rw [cnt_comm]; exact c3
  have d4 : cnt os qs ≤ 64 := by rw [cnt_comm]; exact c2
  have n1 : os.length * ps.length ≤ 6 := by rw [Nat.mul_comm]; exact m1
  have n2 : ps.length * qs.length ≤ 6 := by rw [Nat.mul_comm]; exact m3
  have n4 : os.length * qs.length ≤ 6 := by rw [Nat.mul_comm]; exact m2
  refine po_step fun K5 h5 _ _ _ => ?_
  simp [-po_comp]
  refine po_mono (all_ok HO HP d1 n1) ?_
  rintro _ _ rfl
  simp [-po_comp]
  refine h5 _ ?_
  refine po_step fun K6 h6 _ _ _ => ?_
  simp [-po_comp]
  refine po_mono (all_ok HP HQ d2 n2) ?_
  rintro _ _ rfl
  simp [-po_comp]
  refine h6 _ ?_
  refine po_step fun K7 h7 _ _ _ => ?_
  simp [-po_comp]
  refine po_mono (all_ok HQ HO c2 m2) ?_
  rintro _ _ rfl
  simp [-po_comp]
  refine h7 _ ?_
  refine po_step fun K8 h8 _ _ _ => ?_
  simp [-po_comp]
  refine po_mono (all_ok HO HQ d4 n4) ?_
  rintro _ _ rfl
  simp [-po_comp]
  refine h8 _ ?_
  have isn : ∀ xs : List D, isD (.list xs) .none = some (.bool false) := fun _ => rfl
  refine po_step fun K9 h9 _ _ _ => ?_
  simp [-po_comp, isn]
  refine h9 _ ?_
  refine po_step fun K10 h10 _ _ _ => ?_
  have lc := fun {X : Exn → En → Prop} => lcount_ok (X := X) (os := os) (ps := os) ⟨by omega, HO.2⟩ HO
  simp [-po_comp]
  refine po_mono lc ?_
  rintro _ _ rfl
  have fin : K10 .nx [.v S0, .o c, .v (T os), .v (T ps), .v (T qs), .v (AL (os, ps)), .v (AL (ps, qs)), .v (AL (qs, os)), .v (AL (os, qs)), .unk, .unk] := by
    refine h10 _ ?_
    refine po_step fun K11 h11 _ _ _ => ?_
    obtain ⟨xs, hxs⟩ : ∃ xs : List (List Int × List Int), xs = [(os, ps), (ps, qs), (qs, os), (os, qs)] := ⟨_, rfl⟩
    have hF : ∀ q ∈ xs, Few q ∧ q.1.length * q.2.length ≤ 6 := by
      rw [hxs]
      intro q hq
      simp only [List.mem_cons, List.not_mem_nil, or_false] at hq
      rcases hq with rfl | rfl | rfl | rfl
      · exact ⟨⟨HO, HP, d1⟩, n1⟩
      · exact ⟨⟨HP, HQ, d2⟩, n2⟩
      · exact ⟨⟨HQ, HO, c2⟩, m2⟩
      · exact ⟨⟨HO, HQ, d4⟩, n4⟩
    have eS : [AL (os, ps), AL (ps, qs), AL (qs, os), AL (os, qs)] = xs.map AL := by rw [hxs]; rfl
    simp [-po_comp]
    rw [eS]
    refine po_forK (f := AL) (fun done r => ∃ (c : Ct) (s9 : Sl), r = [.v S0, .o c, .v (T os), .v (T ps), .v (T qs), .v (AL (os, ps)), .v (AL (ps, qs)), .v (AL (qs, os)), .v (AL (os, qs)), s9, .unk] ∧ s9.isIo = false ∧ PenOk cs c) xs _ ⟨c, _, rfl, rfl, hp⟩ ?_ ?_
    · rintro done q rest r e ⟨c, s9, rfl, q9, hp⟩
      have F := hF q (by rw [e]; simp [-po_comp])
      refine ⟨[.v S0, .o c, .v (T os), .v (T ps), .v (T qs), .v (AL (os, ps)), .v (AL (ps, qs)), .v (AL (qs, os)), .v (AL (os, qs)), .v (AL q), .unk], by simp [-po_comp, q9], fun K12 h12 _ _ _ => ?_⟩
      simp [-po_comp]
      refine po_mono (sums_ok hp F.1.1 F.1.2.1 F.1.2.2 F.2) ?_
      rintro _ _ ⟨rfl, c, t, rfl, hp⟩
      simp [-po_comp]
      exact h12 _ ⟨c, _, rfl, rfl, hp⟩
    · rintro r ⟨c, s9, rfl, q9, hp⟩
      refine h11 _ ?_
      simp
      refine po_compC (f := fun k : Nat => PyData.int (0 + (k : Int))) (fun acc r => (∀ d ∈ acc, d = .bool true) ∧ ∃ (c : Ct) (s : Sl), r = [.v S0, .o c, .v (T os), .v (T ps), .v (T qs), .v (AL (os, ps)), .v (AL (ps, qs)), .v (AL (qs, os)), .v (AL (os, qs)), s9, s] ∧ PenOk cs c) (List.range 3) _ ⟨by simp, c, _, rfl, hp⟩ (by decide) ?_ ?_
      · rintro k acc r hk ⟨ha, c, s, rfl, hp⟩
        refine ⟨_, by simp [-po_comp]; rfl, fun K13 h13 => ?_⟩
        simp [-po_comp]
        refine po_mono (chains_ok hp ⟨HO, HP, d1⟩ ⟨HP, HQ, d2⟩ ⟨HQ, HO, c2⟩ ⟨HO, HQ, d4⟩) ?_
        rintro _ _ ⟨rfl, c, t, rfl, hp⟩
        simp [-po_comp]
        refine h13 _ _ ⟨fun d hd => ?_, c, _, rfl, hp⟩
        rcases List.mem_append.mp hd with hd | hd
        · exact ha d hd
        · exact List.mem_singleton.mp hd
      · rintro acc r hal ⟨ha, c, s, rfl, hp⟩
        have e : acc = (List.range acc.length).map fun _ => .bool true := by
          apply List.ext_getElem?
          intro i
          by_cases hi : i < acc.length
          · rw [List.getElem?_eq_getElem hi, ha _ (List.getElem_mem hi), List.getElem?_map, List.getElem?_range hi]
            rfl
          · rw [List.getElem?_eq_none (by omega), List.getElem?_eq_none (by simp [-po_comp]; omega)]
        have eb := bools_tt acc.length
        rw [← e] at eb
        simp [-po_comp, eb]
        refine hK _ _ _ rfl ?_
        have : ((List.range acc.length).all fun _ => true) = true := List.all_eq_true.mpr fun _ _ => rfl
        rw [this]
  by_cases h520 : cnt os os ≤ 520
  · simp [-po_comp, h520]
    refine po_mono (stay_ok HO.hq) ?_
    rintro _ _ rfl
    simp [-po_comp]
    refine po_mono (wys_ok HO HO h520) ?_
    rintro _ _ rfl
    simp [-po_comp, nin_W (wy_id HO.hq)]
    exact fin
  · simp [-po_comp, h520]
    exact fin
end K33
open PySem PySem.W PySem.Calls PyProof.Rows
theorem PySem.Challenge.cw_commonhouse_k33_whole_ways_are_a_house_holds : PySem.Challenge.rw_commonhouse_k33_whole_ways_are_a_house.Holds := by
  w_on; o_law
  refine HandSHeadRun.head_any (r := OpenLaw.row PySem.Challenge.rw_commonhouse_k33_whole_ways_are_a_house) (q := view (OpenLaw.row PySem.Challenge.rw_commonhouse_k33_whole_ways_are_a_house).prog [48]) (H := K33.hk) (ob := K33.ob) (M := 31400) (loose := K33.lo) (d := HandSHeadRun.topDef (OpenLaw.row PySem.Challenge.rw_commonhouse_k33_whole_ways_are_a_house).prog 48) (kwd := []) K33.ob_eq
    (by kernel_rfl) (fun s => by kernel_rfl) K33.run (by kernel_rfl) (by kernel_rfl) (by kernel_rfl) (by rfl) (by first | assumption | decide +kernel) (by decide +kernel) ⟨rfl, rfl, rfl, rfl, rfl, by decide +kernel⟩ ?hw ?hc
  case hw => w_witness2
  case hc =>
    refine Pu.walk_ofP (l := PySem.Challenge.rw_commonhouse_k33_whole_ways_are_a_house) (n := 63) (k := 7) (x := "_law_script") rfl (by decide) (by kernel_rfl) ⟨⟨rfl, by decide, by decide⟩, rfl, by decide⟩ (by kernel_rfl) ?F
    intro w mg fa h Y G hmg0
    obtain ⟨K, KX, c, l⟩ := Y
    have hmg : mg ("law" : PySem.Str) = some (.ref fa) := by
      have e : (HandSHeadRun.topDef (OpenLaw.row PySem.Challenge.rw_commonhouse_k33_whole_ways_are_a_house).prog 48).name = ("law" : PySem.Str) := by kernel_rfl
      rw [← e]
      exact hmg0
    obtain ⟨fd, hb, hF⟩ := K33.facts (P := (PySem.Challenge.rw_commonhouse_k33_whole_ways_are_a_house).prog) (w := w) KX G hmg (by rfl) c l
    have cs := l.cs KX
    exact ⟨K, fd, Pu.csN K33.ln K, _, KX, cs.1, cs.2.1, cs.2.2, hb, fun H a ns hl hb hH hS => K33.sp_law (K33.law_true ns hl hb) H a hS (Pu.tabs_start hH), hF⟩
