import PyProof.Rows.All
import Wide.All
import OpenK.AllK
import Wide.FinOn
import HandS.Base
import HandS.Call
import HandS.List
import HandS.Comp
import HandS.Ends
import HandS.Dict
import HandS.Iter
import HandS.Text
import HandS.Exc
import HandS.ExcOwn
import HandS.Words
import HandS.WordsList
import HandS.WordsDict
import HandS.WordsExc
import HandS.Flow
import HandS.Wide
import HandS.IsInst
import HandS.Zip
import HandS.TupAny
import HandS.TupMul
import HandS.Style
import HandS.CallSlots
import HandS.Defaults
import PyProof.EqLayable
import PyProof.ReprReads
import HandS.HeadHook1
import HandS.ExcIs
import KE.KExcIs
import HandS.Lambda
import HandS.NoneIn
import KE.GoesEnum
import KE.GoesNew
import HandS.Small
import PyProof.ReprRoads
import HandS.RaiseMore
import HandS.Deep
import HandS.HeadHook3
import HandS.SetFor
import HandS.More
import KE.GoesZip
import KE.GoesMore
import HandS.ExcValue
import HandS.Strs
import HandS.SortInts
import HandS.ExcInit
import HandS.ExcField
import KE.KNestM
import KE.DataFind
import HandS.Conv
import KE.DatumOrd
import HandS.SortKw
import PyProof.StrBlock2
import HandS.Replace
import KE.SortData
import KE.KDictDisplayH
import HandS.SortOrd
import KE.KDictPairs
import KE.DataAny
import HandS.ListItems
import HandS.TupSets
import KE.KeyNested
import KE.KDictKeyed
import KE.KStateDown
import HandS.EndTab
import Lean
import HandS.Head0
import HandS.Head1
import HandS.Head2
import HandS.HeadEnd
import HandS.HeadHook2
import HandS.EndBits
import KE.GoesComp
import PySem.Challenge.RW_commonhouse_k22_each_condition_of_a_pape
set_option Elab.async false
set_option linter.all false
set_option maxRecDepth 100000
set_option maxHeartbeats 2000000
set_option autoImplicit false
set_option exponentiation.threshold 2000
namespace Pu
open PySem PySem.Spec PyProof.Rows L2
/-! ### data, results, slots -/
abbrev D := PySem.PyData
structure Exn where
  name : Str
  flds : List (Str × D)
/-- an item of a deep object: data, or a list of one's own -/
inductive Im where
  | v (d : D) | l (ds : List D)
/-- a deep object: a list, a tuple, a dict of items -/
inductive Nt where
  | l (its : List Im) | u (its : List Im) | d (kvs : List (Key × Im))
def Nt.its : Nt → List Im
  | .l its => its
  | .u its => its
  | .d kvs => kvs.map (·.2)
def Im.data : Im → D
  | .v d => d
  | .l ds => .list ds
def Nt.data : Nt → Option D
  | .l its => some (.list (its.map Im.data))
  | .u its => some (.tuple (its.map Im.data))
  | .d _ => none
/-- what an owned object holds -/
inductive Ct where
  | l (ds : List D) | d (kvs : List (Key × D)) | t (kvs : List (List Key × D)) | n (t : Nt)
/-- what is handed back: data that nobody changes, or an object of one's own -/
inductive RV where
  | v (d : D) | o (c : Ct)
/-- a slot: not known, data, an owned object, an owned object of the caller's; a reference that is kept, of whose object nothing is said -/
inductive Sl where
  | unk | v (d : D) | o (c : Ct) | io (c : Ct) | pin
abbrev En := List Sl
inductive Re (α : Type) where
  | ok (a : α) (r : En) | ex (e : Exn) (r : En) | no
abbrev M (α : Type) := En → Re α
def Re.bind {α β : Type} (r : Re α) (f : α → M β) : Re β := match r with
  | .ok a r => f a r
  | .ex e r => .ex e r
  | .no => .no
def M.bind {α β : Type} (m : M α) (f : α → M β) : M β := fun r => (m r).bind f
def M.ret {α : Type} (a : α) : M α := fun r => .ok a r
def M.no {α : Type} : M α := fun _ => .no
def M.opt {α : Type} (o : Option α) : M α := fun r => match o with
  | some a => .ok a r
  | none => .no
@[simp] theorem Re.bind_ok {α β : Type} (a : α) (r : En) (f : α → M β) : (Re.ok a r).bind f = f a r := rfl
@[simp] theorem Re.bind_ex {α β : Type} (e : Exn) (r : En) (f : α → M β) : (Re.ex e r : Re α).bind f = .ex e r := rfl
@[simp] theorem Re.bind_no {α β : Type} (f : α → M β) : (Re.no : Re α).bind f = .no := rfl
@[simp] theorem M.bind_ap {α β : Type} (m : M α) (f : α → M β) (r : En) : m.bind f r = (m r).bind f := rfl
@[simp] theorem M.ret_ap {α : Type} (a : α) (r : En) : M.ret a r = .ok a r := rfl
@[simp] theorem M.no_ap {α : Type} (r : En) : (M.no : M α) r = .no := rfl
@[simp] theorem M.opt_some {α : Type} (a : α) (r : En) : M.opt (some a) r = .ok a r := rfl
@[simp] theorem M.opt_none {α : Type} (r : En) : (M.opt none : M α) r = .no := rfl
def Po {α : Type} (X : Exn → En → Prop) (r : Re α) (k : α → En → Prop) : Prop := match r with
  | .ok a r => k a r
  | .ex e r => X e r
  | .no => False
theorem Po.bind {α β : Type} {X : Exn → En → Prop} {r : Re α} {f : α → M β} {k : β → En → Prop} (h : Po X (r.bind f) k) : Po X r fun a r' => Po X (f a r') k := by
  cases r <;> exact h
theorem Po.mono {α : Type} {X X' : Exn → En → Prop} {r : Re α} {k k' : α → En → Prop} (h : Po X r k) (hX : ∀ e r, X e r → X' e r) (hk : ∀ a r, k a r → k' a r) : Po X' r k' := by
  cases r with
  | ok a r => exact hk _ _ h
  | ex e r => exact hX _ _ h
  | no => exact h
/-! ### heaps -/
/-- all stays; tables of code objects may grow -/
structure Ex (H H' : Hp) : Prop where
  at_ : ∀ a o, H a = some o → (∀ ps, o ≠ .tbl ps) → H' a = some o
  tb : ∀ a ps, H a = some (.tbl ps) → ∃ more, H' a = some (.tbl (ps ++ more))
theorem Ex.of {H H' : Hp} (h : ∀ a o, H a = some o → H' a = some o) : Ex H H' := ⟨fun a o e _ => h a o e, fun a ps e => ⟨#[], by rw [Array.append_empty]; exact h a _ e⟩⟩
theorem Ex.refl (H : Hp) : Ex H H := .of fun _ _ h => h
theorem Ex.trans {H H1 H2 : Hp} (a : Ex H H1) (b : Ex H1 H2) : Ex H H2 := ⟨fun x o h n => b.at_ x o (a.at_ x o h n) n, fun x ps h => by
  obtain ⟨m1, h1⟩ := a.tb x ps h
  obtain ⟨m2, h2⟩ := b.tb x _ h1
  exact ⟨m1 ++ m2, by rw [h2, Array.append_assoc]⟩⟩
theorem Ex.new {H : Hp} {p : Addr} {o : HO} (h : H p = none) : Ex H (upd H p o) := .of fun a u e => by
  rw [upd_ne (ne_of_none e h)]
  exact e
theorem Ex.some {H H' : Hp} {p : Addr} {o : HO} (e : Ex H H') (h : H p = some o) : ∃ o', H' p = some o' := by
  by_cases n : ∃ ps, o = .tbl ps
  · obtain ⟨ps, rfl⟩ := n
    obtain ⟨m, hm⟩ := e.tb p ps h
    exact ⟨_, hm⟩
  · exact ⟨o, e.at_ p o h fun ps z => n ⟨ps, z⟩⟩
theorem Ex.nn {H H' : Hp} {p : Addr} (e : Ex H H') (h : H' p = none) : H p = none := by
  cases h1 : H p with
  | none => rfl
  | some o =>
    obtain ⟨o', h2⟩ := e.some h1
    rw [h2] at h
    cases h
theorem Ex.mut {H H' : Hp} {p : Addr} {o : HO} (e : Ex H H') (h : H p = none) : Ex H (upd H' p o) := ⟨fun a u ha n => by
  rw [upd_ne (ne_of_none ha h)]
  exact e.at_ a u ha n, fun a ps ha => by
  rw [upd_ne (ne_of_none ha h)]
  exact e.tb a ps ha⟩
/-- the tables of code objects that are looked after -/
class TabT where
  T : PySem.W.Frag → List (Addr × Str)
theorem Ex.rd {H H' : Hp} {a : Addr} {u : HO} (e : Ex H H') (h : Rd H a u) (n : ∀ ps, u ≠ .tbl ps) : Rd H' a u := by
  rcases h with h | ⟨o, h⟩
  · exact Or.inl (e.at_ a _ h n)
  · exact Or.inr ⟨o, e.at_ a _ h fun ps z => nomatch z⟩
theorem Ex.l {K : PySem.W.Frag} {H H' : Hp} {a : Addr} {xs : List V} (e : Ex H H') (h : SqL K H a xs) : SqL K H' a xs := by
  rcases h with h | h
  · exact Or.inl (e.rd h fun ps z => nomatch z)
  · exact Or.inr h
theorem Ex.t {K : PySem.W.Frag} {H H' : Hp} {a : Addr} {xs : List V} (e : Ex H H') (h : SqT K H a xs) : SqT K H' a xs := by
  rcases h with h | h
  · exact Or.inl (e.rd h fun ps z => nomatch z)
  · exact Or.inr h
/-- an exception that was caught: its class, its dict -/
def CauO (cls : Value) (d : Option Addr) (a : Addr) : HO := .ext fun h => ∃ (oe : Obj) (vs : Array Value), h.get? a = some oe ∧ Zc cls d oe ∧ oe.data = .fields vs
theorem cau_ne {cls : Value} {d : Option Addr} {a : Addr} (ps : Array Value) : CauO cls d a ≠ .tbl ps := fun z => by
  unfold CauO at z
  cases z
/-- a tuple that is tracked -/
def SqU (H : Hp) (a : Addr) (xs : List V) : Prop := H a = some (.tup xs)
theorem SqU.s {K : PySem.W.Frag} {H : Hp} {a : Addr} {xs : List V} (h : SqU H a xs) : SqT K H a xs := .inl (.inl h)
instance {K : PySem.W.Frag} {H : Hp} {a : Addr} {xs : List V} : Coe (SqU H a xs) (SqT K H a xs) := ⟨SqU.s⟩
theorem Ex.u {H H' : Hp} {a : Addr} {xs : List V} (e : Ex H H') (h : SqU H a xs) : SqU H' a xs := e.at_ _ _ h fun ps z => nomatch z
def basicT : List String := ["int", "bool", "tuple", "list", "str", "dict"]
/-- the class nm of the program: isinstance asks its instances rightly -/
structure ExcK (K : PySem.W.Frag) (nm : Str) : Prop where
  c : ExcC K (He.ga K nm)
  t : ∀ T ∈ basicT, PySem.W.kitOne K (.ref (He.ga K nm)) (.type T) = some false
mutual
/-- v stands for the data d, by what is frozen -/
inductive Rp (K : PySem.W.Frag) (H : Hp) : V → D → Prop
  | non : Rp K H .non .none
  | bl (b : Bool) : Rp K H (.bl b) (.bool b)
  | int (i : Int) : Rp K H (.int i) (.int i)
  | str (x : Str) : Rp K H (.str x) (.str x)
  | lst {a : Addr} {xs : List V} {ds : List D} : SqL K H a xs → RpAll K H xs ds → Rp K H (.ref a) (.list ds)
  | tup {a : Addr} {xs : List V} {ds : List D} : SqU H a xs → RpAll K H xs ds → Rp K H (.ref a) (.tuple ds)
  | emp {a : Addr} : H a = some (.dK []) → Rp K H (.ref a) (.dict [])
  | exc0 {a : Addr} {nm : Str} : H a = some (CauO (.ref (He.ga K nm)) none a) → ExcK K nm → Rp K H (.ref a) (.dict [(.str nm, .none)])
  | excF {a dd : Addr} {nm : Str} {fs : List (Str × V)} {kv : List (D × D)} : H a = some (CauO (.ref (He.ga K nm)) (some dd) a) → H dd = some (.xd fs) → ExcK K nm → kv.map (·.1) = fs.map (fun p => PyData.str p.1) → RpAll K H (fs.map (·.2)) (kv.map (·.2)) → Rp K H (.ref a) (.dict ((.str nm, .none) :: kv))
  | dci {a : Addr} {od : Obj} {ks : List (Int × V)} {kv : List (Int × D)} {dd : List (D × D)} : H a = some (.frz od (.dK (ks.map fun p => ((Sum.inl p.1 : Key), p.2)))) → ks.map (·.1) = kv.map (·.1) → RpAll K H (ks.map (·.2)) (kv.map (·.2)) → kv ≠ [] → dd = kv.map (fun q => (PyData.int q.1, q.2)) → Rp K H (.ref a) (.dict dd)
inductive RpAll (K : PySem.W.Frag) (H : Hp) : List V → List D → Prop
  | nil : RpAll K H [] []
  | cons {v : V} {vs : List V} {d : D} {ds : List D} : Rp K H v d → RpAll K H vs ds → RpAll K H (v :: vs) (d :: ds)
end
mutual
theorem rp_dp0 {K : PySem.W.Frag} {H : Hp} : ∀ {v : V} {d : D}, Rp K H v d → d.hasDict = false → Dp K H v d
  | _, _, .non, _ => .non
  | _, _, .bl b, _ => .bl b
  | _, _, .int i, _ => .int i
  | _, _, .str x, _ => .str x
  | _, _, .lst h a, e => .lst h (rpa_dpa0 a (by simpa [PyData.hasDict] using e))
  | _, _, .tup h a, e => .tup h (rpa_dpa0 a (by simpa [PyData.hasDict] using e))
  | _, _, .emp _, e => by simp [PyData.hasDict] at e
  | _, _, .exc0 _ _, e => by simp [PyData.hasDict] at e
  | _, _, .excF _ _ _ _ _, e => by simp [PyData.hasDict] at e
  | _, _, .dci _ _ _ _ _, e => by simp [PyData.hasDict] at e
theorem rpa_dpa0 {K : PySem.W.Frag} {H : Hp} : ∀ {vs : List V} {ds : List D}, RpAll K H vs ds → PyData.hasDictAll ds = false → DpAll K H vs ds
  | _, _, .nil, _ => .nil
  | _, _, .cons h t, e => by
    simp only [PyData.hasDictAll, Bool.or_eq_false_iff] at e
    exact .cons (rp_dp0 h e.1) (rpa_dpa0 t e.2)
end
theorem rp_dp {K : PySem.W.Frag} {H : Hp} {v : V} {d : D} (h : Rp K H v d) (s : SeqAt.shaped d = true) : Dp K H v d := rp_dp0 h (PyData.hasDict_of_canLay d (SeqAt.canLay_of_shaped s))
mutual
theorem dp_mono {K : PySem.W.Frag} {H H' : Hp} (e : Ex H H') : ∀ {v : V} {d : D}, Rp K H v d → Rp K H' v d
  | _, _, .non => .non
  | _, _, .bl b => .bl b
  | _, _, .int i => .int i
  | _, _, .str x => .str x
  | _, _, .lst h a => .lst (e.l h) (dpa_mono e a)
  | _, _, .tup h a => .tup (e.u h) (dpa_mono e a)
  | _, _, .emp h => .emp (e.at_ _ _ h fun ps z => nomatch z)
  | _, _, .exc0 h x => .exc0 (e.at_ _ _ h cau_ne) x
  | _, _, .excF h h2 x y a => .excF (e.at_ _ _ h cau_ne) (e.at_ _ _ h2 fun ps z => nomatch z) x y (dpa_mono e a)
  | _, _, .dci h x a n w => .dci (e.at_ _ _ h fun ps z => nomatch z) x (dpa_mono e a) n w
theorem dpa_mono {K : PySem.W.Frag} {H H' : Hp} (e : Ex H H') : ∀ {vs : List V} {ds : List D}, RpAll K H vs ds → RpAll K H' vs ds
  | _, _, .nil => .nil
  | _, _, .cons h t => .cons (dp_mono e h) (dpa_mono e t)
end
theorem dpa_len {K : PySem.W.Frag} {H : Hp} : ∀ {vs : List V} {ds : List D}, RpAll K H vs ds → vs.length = ds.length
  | _, _, .nil => rfl
  | _, _, .cons _ t => congrArg Nat.succ (dpa_len t)
theorem dpa_get {K : PySem.W.Frag} {H : Hp} : ∀ {vs : List V} {ds : List D} {i : Nat} {d : D}, RpAll K H vs ds → ds[i]? = some d → ∃ v, vs[i]? = some v ∧ Rp K H v d
  | _, _, _, _, .nil, e => by simp at e
  | _, _, 0, _, .cons h _, e => by
    simp at e
    subst e
    exact ⟨_, rfl, h⟩
  | _, _, i + 1, d, .cons _ t, e => by
    obtain ⟨v, h1, h2⟩ := dpa_get (i := i) (d := d) t (by simpa using e)
    exact ⟨v, by simpa using h1, h2⟩
theorem dpa_app {K : PySem.W.Frag} {H : Hp} : ∀ {vs ws : List V} {ds es : List D}, RpAll K H vs ds → RpAll K H ws es → RpAll K H (vs ++ ws) (ds ++ es)
  | _, _, _, _, .nil, h => h
  | _, _, _, _, .cons h t, q => .cons h (dpa_app t q)
theorem dpa_take {K : PySem.W.Frag} {H : Hp} : ∀ (n : Nat) {vs : List V} {ds : List D}, RpAll K H vs ds → RpAll K H (vs.take n) (ds.take n)
  | 0, _, _, _ => .nil
  | _ + 1, _, _, .nil => .nil
  | n + 1, _, _, .cons h t => .cons h (dpa_take n t)
theorem dpa_drop {K : PySem.W.Frag} {H : Hp} : ∀ (n : Nat) {vs : List V} {ds : List D}, RpAll K H vs ds → RpAll K H (vs.drop n) (ds.drop n)
  | 0, _, _, h => h
  | _ + 1, _, _, .nil => .nil
  | n + 1, _, _, .cons _ t => dpa_drop n t
theorem dpa_set {K : PySem.W.Frag} {H : Hp} {v : V} {d : D} (h : Rp K H v d) : ∀ (i : Nat) {vs : List V} {ds : List D}, RpAll K H vs ds → RpAll K H (vs.set i v) (ds.set i d)
  | _, _, _, .nil => .nil
  | 0, _, _, .cons _ t => .cons h t
  | i + 1, _, _, .cons q t => .cons q (dpa_set h i t)
theorem dpa_rep {K : PySem.W.Frag} {H : Hp} {vs : List V} {ds : List D} (h : RpAll K H vs ds) : ∀ n : Nat, RpAll K H (List.replicate n vs).flatten (List.replicate n ds).flatten
  | 0 => .nil
  | n + 1 => by
    rw [List.replicate_succ, List.replicate_succ, List.flatten_cons, List.flatten_cons]
    exact dpa_app h (dpa_rep h n)
theorem dpa_ints {K : PySem.W.Frag} {H : Hp} : ∀ (ns : List Int), RpAll K H (ns.map V.int) (ns.map PyData.int)
  | [] => .nil
  | n :: ns => .cons (.int n) (dpa_ints ns)
/-- the pairs of a dict -/
inductive KvAll (K : PySem.W.Frag) (F : Hp) {κ : Type} : List (κ × V) → List (κ × D) → Prop
  | nil : KvAll K F [] []
  | cons {k : κ} {v : V} {d : D} {ks : List (κ × V)} {kvs : List (κ × D)} : Rp K F v d → KvAll K F ks kvs → KvAll K F ((k, v) :: ks) ((k, d) :: kvs)
theorem KvAll.mono {K : PySem.W.Frag} {F F' : Hp} {κ : Type} (e : Ex F F') : ∀ {ks : List (κ × V)} {kvs : List (κ × D)}, KvAll K F ks kvs → KvAll K F' ks kvs
  | _, _, .nil => .nil
  | _, _, .cons h t => .cons (dp_mono e h) (KvAll.mono e t)
/-- the values within an object -/
def valsO : Option HO → Option (List V)
  | some (.lst vs) => some vs
  | some (.tup vs) => some vs
  | some (.dK ks) => some (ks.map (·.2))
  | _ => none
/-- b is the inner list at place i of the object at a -/
def InnAt (H : Hp) (a : Addr) (c : Ct) (i : Nat) (b : Addr) : Prop := match c with
  | .n t => ∃ vs ds, valsO (H a) = some vs ∧ vs[i]? = some (.ref b) ∧ t.its[i]? = some (.l ds)
  | _ => False
def Inn (H : Hp) (a : Addr) (c : Ct) (b : Addr) : Prop := ∃ i, InnAt H a c i b
theorem Inn.cg {H H' : Hp} {a b : Addr} {c : Ct} (h : Inn H a c b) (e : H' a = H a) : Inn H' a c b := by
  obtain ⟨i, h⟩ := h
  refine ⟨i, ?_⟩
  cases c with
  | n t =>
    obtain ⟨vs, ds, h1, h2, h3⟩ := h
    exact ⟨vs, ds, by rw [e]; exact h1, h2, h3⟩
  | _ => exact h
theorem inn_l {H : Hp} {a b : Addr} {ds : List D} : ¬ Inn H a (.l ds) b := fun ⟨_, h⟩ => h
theorem inn_d {H : Hp} {a b : Addr} {ds : List (Key × D)} : ¬ Inn H a (.d ds) b := fun ⟨_, h⟩ => h
theorem inn_t {H : Hp} {a b : Addr} {ds : List (List Key × D)} : ¬ Inn H a (.t ds) b := fun ⟨_, h⟩ => h
/-- v stands for the item -/
def ItOk (K : PySem.W.Frag) (F H : Hp) (v : V) : Im → Prop
  | .v d => Rp K F v d
  | .l ds => ∃ b vs, v = .ref b ∧ H b = some (.lst vs) ∧ RpAll K F vs ds
inductive ItAll (K : PySem.W.Frag) (F H : Hp) : List V → List Im → Prop
  | nil : ItAll K F H [] []
  | cons {v : V} {vs : List V} {i : Im} {is : List Im} : ItOk K F H v i → ItAll K F H vs is → ItAll K F H (v :: vs) (i :: is)
theorem ItAll.len {K : PySem.W.Frag} {F H : Hp} : ∀ {vs : List V} {is : List Im}, ItAll K F H vs is → vs.length = is.length
  | _, _, .nil => rfl
  | _, _, .cons _ t => congrArg Nat.succ t.len
theorem ItAll.get {K : PySem.W.Frag} {F H : Hp} : ∀ {vs : List V} {is : List Im} {j : Nat} {i : Im}, ItAll K F H vs is → is[j]? = some i → ∃ v, vs[j]? = some v ∧ ItOk K F H v i
  | _, _, _, _, .nil, e => by simp at e
  | _, _, 0, _, .cons h _, e => by
    simp at e
    subst e
    exact ⟨_, rfl, h⟩
  | _, _, j + 1, i, .cons _ t, e => by
    obtain ⟨v, h1, h2⟩ := ItAll.get (j := j) (i := i) t (by simpa using e)
    exact ⟨v, by simpa using h1, h2⟩
theorem ItAll.mono {K : PySem.W.Frag} {F F' H H' : Hp} (e : Ex F F') : ∀ {vs : List V} {is : List Im}, ItAll K F H vs is → (∀ (j : Nat) (b : Addr) (ds : List D), vs[j]? = some (.ref b) → is[j]? = some (.l ds) → H' b = H b) → ItAll K F' H' vs is
  | _, _, .nil, _ => .nil
  | _, _, @ItAll.cons _ _ _ v vs i is h t, q => by
    refine .cons ?_ (ItAll.mono e t fun j b ds h1 h2 => q (j + 1) b ds (by simpa using h1) (by simpa using h2))
    cases i with
    | v d => exact dp_mono e h
    | l ds =>
      obtain ⟨b, ws, rfl, h1, h2⟩ := h
      exact ⟨b, ws, rfl, (q 0 b ds rfl rfl).trans h1, dpa_mono e h2⟩
/-- the object at a is the deep one, its values vs -/
def NtAt (H : Hp) (a : Addr) (vs : List V) : Nt → Prop
  | .l _ => H a = some (.lst vs)
  | .u _ => H a = some (.tup vs)
  | .d kvs => ∃ ks, H a = some (.dK ks) ∧ ks.map (·.1) = kvs.map (·.1) ∧ vs = ks.map (·.2)
theorem NtAt.vals {H : Hp} {a : Addr} {vs : List V} {t : Nt} (h : NtAt H a vs t) : valsO (H a) = some vs := by
  cases t with
  | l is => have h : H a = some (.lst vs) := h; rw [h]; rfl
  | u is => have h : H a = some (.tup vs) := h; rw [h]; rfl
  | d kvs =>
    obtain ⟨ks, h1, _, rfl⟩ := h
    rw [h1]; rfl
/-- the object at a holds c -/
def CtOk (K : PySem.W.Frag) (F H : Hp) (a : Addr) : Ct → Prop
  | .l ds => ∃ vs, H a = some (.lst vs) ∧ RpAll K F vs ds
  | .d kvs => ∃ ks, H a = some (.dK ks) ∧ KvAll K F ks kvs
  | .t kvs => ∃ ks, H a = some (.dT ks) ∧ KvAll K F ks kvs
  | .n t => ∃ vs, NtAt H a vs t ∧ ItAll K F H vs t.its ∧ ∀ (i j : Nat) (b : Addr), i ≠ j → InnAt H a (.n t) i b → InnAt H a (.n t) j b → False
/-- an inner list is there -/
theorem CtOk.innl {K : PySem.W.Frag} {F H : Hp} {a : Addr} {c : Ct} (h : CtOk K F H a c) {i : Nat} {b : Addr} (n : InnAt H a c i b) : ∃ ws, H b = some (.lst ws) := by
  cases c with
  | n t =>
    obtain ⟨vs, h1, h2, h3⟩ := h
    obtain ⟨us, ds, g1, g2, g3⟩ := n
    rw [h1.vals] at g1
    cases g1
    obtain ⟨w, w1, b', ws, rfl, w2, w3⟩ := h2.get g3
    rw [g2] at w1
    cases w1
    exact ⟨ws, w2⟩
  | _ => exact n.elim
theorem CtOk.inn {K : PySem.W.Frag} {F H : Hp} {a : Addr} {c : Ct} (h : CtOk K F H a c) {b : Addr} (n : Inn H a c b) : ∃ ws, H b = some (.lst ws) := h.innl n.choose_spec
theorem CtOk.mono {K : PySem.W.Frag} {F F' H H' : Hp} {a : Addr} {c : Ct} (h : CtOk K F H a c) (e : Ex F F') (eH : H' a = H a) (eI : ∀ b, Inn H a c b → H' b = H b) : CtOk K F' H' a c := by
  cases c with
  | n t =>
    obtain ⟨vs, h1, h2, h3⟩ := h
    refine ⟨vs, ?_, h2.mono e fun j b ds g1 g2 => eI b ⟨j, vs, ds, h1.vals, g1, g2⟩, fun i j b ne g1 g2 => h3 i j b ne ?_ ?_⟩
    · cases t with
      | l is => exact eH.trans h1
      | u is => exact eH.trans h1
      | d kvs =>
        obtain ⟨ks, z1, z2, z3⟩ := h1
        exact ⟨ks, eH.trans z1, z2, z3⟩
    · obtain ⟨us, ds, x1, x2, x3⟩ := g1
      exact ⟨us, ds, by rw [← eH]; exact x1, x2, x3⟩
    · obtain ⟨us, ds, x1, x2, x3⟩ := g2
      exact ⟨us, ds, by rw [← eH]; exact x1, x2, x3⟩
  | l ds =>
    obtain ⟨vs, h1, h2⟩ := h
    exact ⟨vs, eH.trans h1, dpa_mono e h2⟩
  | d kvs =>
    obtain ⟨ks, h1, h2⟩ := h
    exact ⟨ks, eH.trans h1, KvAll.mono e h2⟩
  | t kvs =>
    obtain ⟨ks, h1, h2⟩ := h
    exact ⟨ks, eH.trans h1, KvAll.mono e h2⟩
theorem CtOk.there' {K : PySem.W.Frag} {F H : Hp} {a : Addr} {c : Ct} (h : CtOk K F H a c) : ∃ o, H a = some o ∧ ∀ ps, o ≠ .tbl ps := by
  cases c with
  | n t =>
    obtain ⟨vs, h1, h2⟩ := h
    cases t with
    | l is => exact ⟨_, h1, fun ps z => nomatch z⟩
    | u is => exact ⟨_, h1, fun ps z => nomatch z⟩
    | d kvs =>
      obtain ⟨ks, z1, _⟩ := h1
      exact ⟨_, z1, fun ps z => nomatch z⟩
  | l ds =>
    obtain ⟨vs, h1, h2⟩ := h
    exact ⟨_, h1, fun ps z => nomatch z⟩
  | d kvs =>
    obtain ⟨ks, h1, h2⟩ := h
    exact ⟨_, h1, fun ps z => nomatch z⟩
  | t kvs =>
    obtain ⟨ks, h1, h2⟩ := h
    exact ⟨_, h1, fun ps z => nomatch z⟩
theorem CtOk.there {K : PySem.W.Frag} {F H : Hp} {a : Addr} {c : Ct} (h : CtOk K F H a c) : ∃ o, H a = some o := by
  obtain ⟨o, h1, _⟩ := h.there'
  exact ⟨o, h1⟩
theorem tabs_upd {T : List (Addr × Str)} {H : Hp} {a : Addr} {o u : HO} (t : LamX.Tabs T H) (h1 : H a = some u) (n1 : ∀ ps, u ≠ .tbl ps) (n2 : ∀ c q, u ≠ LamX.CodeO c q) : LamX.Tabs T (upd H a o) := by
  intro p hp
  obtain ⟨ps, e1, e2, e3⟩ := t p hp
  refine ⟨ps, ?_, e2, fun pos cv hcv => ?_⟩
  · rw [upd_ne fun z => n1 ps (by rw [z, h1] at e1; exact Option.some.inj e1)]
    exact e1
  · obtain ⟨c, g1, g2⟩ := e3 pos cv hcv
    refine ⟨c, g1, ?_⟩
    rw [upd_ne fun z => n2 c p.2 (by rw [z, h1] at g2; rw [z]; exact Option.some.inj g2)]
    exact g2
theorem tabs_lst {T : List (Addr × Str)} {H : Hp} {a : Addr} {o : HO} {vs : List V} (t : LamX.Tabs T H) (h : H a = some (.lst vs)) : LamX.Tabs T (upd H a o) := tabs_upd t h (fun ps z => nomatch z) (fun c q z => by unfold LamX.CodeO at z; cases z)
theorem tabs_new {T : List (Addr × Str)} {H : Hp} {a : Addr} {o : HO} (t : LamX.Tabs T H) (h : H a = none) : LamX.Tabs T (upd H a o) := t.ext fun b u e => by rw [upd_ne (ne_of_none e h)]; exact e
theorem tabs_put {T : List (Addr × Str)} {K : PySem.W.Frag} {F H : Hp} {a : Addr} {c : Ct} {o : HO} (t : LamX.Tabs T H) (h : CtOk K F H a c) : LamX.Tabs T (upd H a o) := by
  have key : ∃ u, H a = some u ∧ (∀ ps, u ≠ .tbl ps) ∧ ∀ c q, u ≠ LamX.CodeO c q := by
    cases c with
    | n t =>
      obtain ⟨vs, h1, h2⟩ := h
      cases t with
      | l is => exact ⟨_, h1, (fun ps z => nomatch z), (fun c q z => by unfold LamX.CodeO at z; cases z)⟩
      | u is => exact ⟨_, h1, (fun ps z => nomatch z), (fun c q z => by unfold LamX.CodeO at z; cases z)⟩
      | d kvs =>
        obtain ⟨ks, z1, _⟩ := h1
        exact ⟨_, z1, (fun ps z => nomatch z), (fun c q z => by unfold LamX.CodeO at z; cases z)⟩
    | l ds =>
      obtain ⟨vs, h1, h2⟩ := h
      exact ⟨_, h1, ⟨(fun ps z => nomatch z), (fun c q z => by unfold LamX.CodeO at z; cases z)⟩⟩
    | d kvs =>
      obtain ⟨ks, h1, h2⟩ := h
      exact ⟨_, h1, ⟨(fun ps z => nomatch z), (fun c q z => by unfold LamX.CodeO at z; cases z)⟩⟩
    | t kvs =>
      obtain ⟨ks, h1, h2⟩ := h
      exact ⟨_, h1, ⟨(fun ps z => nomatch z), (fun c q z => by unfold LamX.CodeO at z; cases z)⟩⟩
  obtain ⟨u, h1, n1, n2⟩ := key
  intro p hp
  obtain ⟨ps, e1, e2, e3⟩ := t p hp
  refine ⟨ps, ?_, e2, fun pos cv hcv => ?_⟩
  · rw [upd_ne fun z => n1 ps (by rw [z, h1] at e1; exact Option.some.inj e1)]
    exact e1
  · obtain ⟨c, g1, g2⟩ := e3 pos cv hcv
    refine ⟨c, g1, ?_⟩
    rw [upd_ne fun z => n2 c p.2 (by rw [z, h1] at g2; rw [z]; exact Option.some.inj g2)]
    exact g2
/-- the owned object of a slot -/
def Sl.own : Sl → Option Ct
  | .o c => some c
  | .io c => some c
  | _ => none
def SlOk (K : PySem.W.Frag) (pa : Addr) (H0 F H : Hp) (v : V) : Sl → Prop
  | .unk => True
  | .v d => Rp K F v d
  | .o c => ∃ a, v = .ref a ∧ F a = none ∧ H0 a = none ∧ CtOk K F H a c
  | .io c => v = .ref pa ∧ F pa = none ∧ H0 pa = none ∧ CtOk K F H pa c
  | .pin => v = .ref pa
theorem SlOk.owned {K : PySem.W.Frag} {pa : Addr} {H0 F H : Hp} {v : V} {s : Sl} {c : Ct} (h : SlOk K pa H0 F H v s) (e : s.own = some c) : ∃ a, v = .ref a ∧ F a = none ∧ H0 a = none ∧ CtOk K F H a c := by
  cases s with
  | unk => cases e
  | pin => cases e
  | v d => cases e
  | o c' => cases e; exact h
  | io c' => cases e; exact ⟨pa, h⟩
/-- p is no slot's object, nor within one -/
def Nob (H : Hp) (st : L2.St) (r : En) (p : Addr) : Prop := ∀ (i : Nat) (s : Sl) (c : Ct) (a : Addr), r[i]? = some s → s.own = some c → st[i]? = some (some (.ref a)) → a ≠ p ∧ ¬ Inn H a c p
variable [TabT]
/-- THE STATE: what must stand as it was (H0), what was frozen at the start (F0), what is frozen by now (F), the heap, the slots -/
structure Ok (K : PySem.W.Frag) (pa : Nat → Addr) (H0 F0 F H : Hp) (st : L2.St) (r : En) : Prop where
  hH : Ex H0 H
  fF : Ex F0 F
  fH : Ex F H
  sep : ∀ a, H0 a ≠ none → F a ≠ none → F0 a ≠ none
  len : st.length = r.length
  sl : ∀ (i : Nat) (s : Sl), r[i]? = some s → s ≠ .unk → ∃ v, st[i]? = some (some v) ∧ SlOk K (pa i) H0 F H v s
  tb : LamX.Tabs (TabT.T K) H
  dis : ∀ (i j : Nat) (s q : Sl) (c c' : Ct) (a : Addr), i ≠ j → r[i]? = some s → r[j]? = some q → s.own = some c → q.own = some c' → st[i]? = some (some (.ref a)) → st[j]? = some (some (.ref a)) → False
  inn : ∀ (i : Nat) (s : Sl) (c : Ct) (a b : Addr), r[i]? = some s → s.own = some c → st[i]? = some (some (.ref a)) → Inn H a c b → F b = none ∧ H0 b = none ∧ ∀ (j : Nat) (q : Sl) (c' : Ct) (a' : Addr), r[j]? = some q → q.own = some c' → st[j]? = some (some (.ref a')) → a' ≠ b ∧ (j ≠ i → ¬ Inn H a' c' b)
section
variable {K : PySem.W.Frag} {pa : Nat → Addr} {H0 F0 F H F' H' : Hp} {st : L2.St} {r : En}
theorem ne_none {α : Type} {o : Option α} {a : α} (h : o = some a) : o ≠ none := by
  rw [h]
  exact fun z => nomatch z
theorem none_of_not {α : Type} {o : Option α} (h : ¬ o ≠ none) : o = none := by
  cases o with
  | none => rfl
  | some a => exact absurd (ne_none rfl) h
/-- new objects only, some of them frozen -/
theorem Ok.grow (k : Ok K pa H0 F0 F H st r) (eH : Ex H H') (eF : Ex F F') (fh : Ex F' H') (new : ∀ a, F' a ≠ none → H a ≠ none → F a ≠ none) (tb : LamX.Tabs (TabT.T K) H') : Ok K pa H0 F0 F' H' st r where
  hH := k.hH.trans eH
  fF := k.fF.trans eF
  fH := fh
  sep := fun a h1 h2 => k.sep a h1 (new a h2 (by
    cases q : H0 a with
    | none => exact absurd q h1
    | some o =>
      obtain ⟨o', q'⟩ := k.hH.some q
      exact ne_none q'))
  len := k.len
  sl := fun i s h n => by
    obtain ⟨v, h1, h2⟩ := k.sl i s h n
    refine ⟨v, h1, ?_⟩
    have own : ∀ a c, F a = none → CtOk K F H a c → F' a = none ∧ CtOk K F' H' a c := fun a c hf hc => by
      obtain ⟨o, ho, hnt⟩ := hc.there'
      refine ⟨none_of_not fun z => new a z (ne_none ho) hf, hc.mono eF ((eH.at_ a o ho hnt).trans ho.symm) fun b hb => ?_⟩
      obtain ⟨ws, hw⟩ := hc.inn hb
      exact (eH.at_ b _ hw fun ps z => nomatch z).trans hw.symm
    cases s with
    | unk => trivial
    | pin => exact h2
    | v d => exact dp_mono eF h2
    | o c =>
      obtain ⟨a, e1, e2, e3, e4⟩ := h2
      obtain ⟨z1, z2⟩ := own a c e2 e4
      exact ⟨a, e1, z1, e3, z2⟩
    | io c =>
      obtain ⟨e1, e2, e3, e4⟩ := h2
      obtain ⟨z1, z2⟩ := own _ c e2 e4
      exact ⟨e1, z1, e3, z2⟩
  tb := tb
  dis := k.dis
  inn := fun i s c a b h1 h2 h3 h4 => by
    have own : ∀ (j : Nat) (q : Sl) (c' : Ct) (a' : Addr), r[j]? = some q → q.own = some c' → st[j]? = some (some (.ref a')) → H' a' = H a' ∧ CtOk K F H a' c' := fun j q c' a' g1 g2 g3 => by
      obtain ⟨v, w1, w2⟩ := k.sl j q g1 (by
        intro z
        subst z
        cases g2)
      obtain ⟨a2, z1, z2, z3, z4⟩ := w2.owned g2
      rw [g3] at w1
      cases w1
      cases z1
      obtain ⟨o, ho, hnt⟩ := z4.there'
      exact ⟨(eH.at_ _ o ho hnt).trans ho.symm, z4⟩
    obtain ⟨e1, ok1⟩ := own i s c a h1 h2 h3
    have h5 : Inn H a c b := h4.cg e1.symm
    obtain ⟨f1, f2, f3⟩ := k.inn i s c a b h1 h2 h3 h5
    obtain ⟨ws, hw⟩ := ok1.inn h5
    refine ⟨none_of_not fun z => new b z (ne_none hw) f1, f2, fun j q c' a' g1 g2 g3 => ?_⟩
    obtain ⟨y1, y2⟩ := f3 j q c' a' g1 g2 g3
    exact ⟨y1, fun nj n => y2 nj (n.cg (own j q c' a' g1 g2 g3).1.symm)⟩
/-- a new tracked object that nobody freezes -/
theorem Ok.lay (k : Ok K pa H0 F0 F H st r) {p : Addr} {o : HO} (n : H p = none) : Ok K pa H0 F0 F (upd H p o) st r :=
  k.grow (Ex.new n) (Ex.refl F) (k.fH.mut (k.fH.nn n)) (fun _ h _ => h) (k.tb.ext fun a u e => by rw [upd_ne (ne_of_none e n)]; exact e)
/-- a new object, frozen at once -/
theorem Ok.layF (k : Ok K pa H0 F0 F H st r) {p : Addr} {o : HO} (n : H p = none) : Ok K pa H0 F0 (upd F p o) (upd H p o) st r := by
  have nF := k.fH.nn n
  refine k.grow (Ex.new n) (Ex.new nF) ⟨fun a u e nt => ?_, fun a ps e => ?_⟩ (fun a h1 h2 => ?_) (k.tb.ext fun a u e => by rw [upd_ne (ne_of_none e n)]; exact e)
  · by_cases ha : a = p
    · subst ha
      rw [upd_same] at e ⊢
      exact e
    · rw [upd_ne ha] at e ⊢
      exact k.fH.at_ a u e nt
  · by_cases ha : a = p
    · subst ha
      rw [upd_same] at e ⊢
      exact ⟨#[], by rw [Array.append_empty]; exact e⟩
    · rw [upd_ne ha] at e ⊢
      exact k.fH.tb a ps e
  · by_cases ha : a = p
    · subst ha
      exact absurd n h2
    · rw [upd_ne ha] at h1
      exact h1
/-- a tracked object that is nobody's is frozen -/
theorem Ok.frz (k : Ok K pa H0 F0 F H st r) {p : Addr} {o : HO} (h : H p = some o) (n0 : H0 p = none) (nO : Nob H st r p) (nF : F p = none) : Ok K pa H0 F0 (upd F p o) H st r where
  hH := k.hH
  fF := k.fF.trans (Ex.new nF)
  fH := ⟨fun a u e nt => by
    by_cases ha : a = p
    · subst ha
      rw [upd_same] at e
      rw [h]
      exact e
    · rw [upd_ne ha] at e
      exact k.fH.at_ a u e nt, fun a ps e => by
    by_cases ha : a = p
    · subst ha
      rw [upd_same] at e
      rw [h]
      exact ⟨#[], by rw [Array.append_empty]; exact e⟩
    · rw [upd_ne ha] at e
      exact k.fH.tb a ps e⟩
  sep := fun a h1 h2 => by
    by_cases ha : a = p
    · subst ha
      exact absurd n0 h1
    · rw [upd_ne ha] at h2
      exact k.sep a h1 h2
  len := k.len
  sl := fun i s h1 n => by
    obtain ⟨v, h2, h3⟩ := k.sl i s h1 n
    refine ⟨v, h2, ?_⟩
    cases s with
    | unk => trivial
    | pin => exact h3
    | v d => exact dp_mono (Ex.new nF) h3
    | o c =>
      obtain ⟨a, e1, e2, e3, e4⟩ := h3
      have ne : a ≠ p := (nO i _ c a h1 rfl (by rw [h2, e1])).1
      exact ⟨a, e1, by rw [upd_ne ne]; exact e2, e3, e4.mono (Ex.new nF) rfl fun _ _ => rfl⟩
    | io c =>
      obtain ⟨e1, e2, e3, e4⟩ := h3
      have ne : pa i ≠ p := (nO i _ c _ h1 rfl (by rw [h2, e1])).1
      exact ⟨e1, by rw [upd_ne ne]; exact e2, e3, e4.mono (Ex.new nF) rfl fun _ _ => rfl⟩
  tb := k.tb
  dis := k.dis
  inn := fun i s c a b h1 h2 h3 h4 => by
    obtain ⟨f1, f2, f3⟩ := k.inn i s c a b h1 h2 h3 h4
    have ne : b ≠ p := fun z => (nO i s c a h1 h2 h3).2 (z ▸ h4)
    exact ⟨by rw [upd_ne ne]; exact f1, f2, f3⟩
/-- a new address is nobody's -/
theorem Ok.nobody (k : Ok K pa H0 F0 F H st r) {p : Addr} (n : H p = none) : Nob H st r p := fun i s c a h1 h2 h3 => by
  obtain ⟨v, e1, e2⟩ := k.sl i s h1 (by
    intro z
    subst z
    cases h2)
  obtain ⟨a', z1, _, _, z4⟩ := e2.owned h2
  rw [h3] at e1
  cases e1
  cases z1
  refine ⟨fun z => ?_, fun z => ?_⟩
  · subst z
    obtain ⟨o, ho⟩ := z4.there
    rw [n] at ho
    cases ho
  · obtain ⟨ws, hw⟩ := z4.inn z
    rw [n] at hw
    cases hw
/-- another frame to be kept -/
theorem Ok.frame (k : Ok K pa H0 F0 F H st r) {H0' : Hp} (h1 : Ex H0' H) (h2 : ∀ a, H0' a ≠ none → F a ≠ none → F0 a ≠ none) (h3 : ∀ (i : Nat) (s : Sl) (c : Ct) (a : Addr), r[i]? = some s → s.own = some c → st[i]? = some (some (.ref a)) → H0' a = none ∧ ∀ b, Inn H a c b → H0' b = none) : Ok K pa H0' F0 F H st r where
  hH := h1
  fF := k.fF
  fH := k.fH
  sep := h2
  len := k.len
  sl := fun i s e n => by
    obtain ⟨v, e1, e2⟩ := k.sl i s e n
    refine ⟨v, e1, ?_⟩
    cases s with
    | unk => trivial
    | pin => exact e2
    | v d => exact e2
    | o c =>
      obtain ⟨a, z1, z2, z3, z4⟩ := e2
      exact ⟨a, z1, z2, (h3 i _ c a e rfl (by rw [e1, z1])).1, z4⟩
    | io c =>
      obtain ⟨z1, z2, z3, z4⟩ := e2
      exact ⟨z1, z2, (h3 i _ c (pa i) e rfl (by rw [e1, z1])).1, z4⟩
  tb := k.tb
  dis := k.dis
  inn := fun i s c a b g1 g2 g3 g4 => by
    obtain ⟨f1, f2, f3⟩ := k.inn i s c a b g1 g2 g3 g4
    exact ⟨f1, (h3 i s c a g1 g2 g3).2 b g4, f3⟩
end
end Pu
namespace Pu
open PySem PySem.Spec PyProof.Rows L2
variable [TabT]
/-! ### slots changed -/
def Sl.isIo : Sl → Bool
  | .io _ => true
  | .pin => true
  | _ => false
def Sl.put (c : Ct) : Sl → Sl
  | .io _ => .io c
  | _ => .o c
section
variable {K : PySem.W.Frag} {pa : Nat → Addr} {H0 F0 F H F' H' : Hp} {st : L2.St} {r : En}
theorem Ok.lookup (k : Ok K pa H0 F0 F H st r) {i : Nat} {s : Sl} (h : r[i]? = some s) (n : s ≠ .unk) : ∃ v, st[i]? = some (some v) ∧ SlOk K (pa i) H0 F H v s := k.sl i s h n
theorem Ok.val (k : Ok K pa H0 F0 F H st r) {i : Nat} {d : D} (h : r[i]? = some (.v d)) : ∃ v, st[i]? = some (some v) ∧ Rp K F v d := k.sl i _ h (fun z => nomatch z)
theorem Ok.ownd (k : Ok K pa H0 F0 F H st r) {i : Nat} {s : Sl} {c : Ct} (h : r[i]? = some s) (hc : s.own = some c) : ∃ a, st[i]? = some (some (.ref a)) ∧ F a = none ∧ H0 a = none ∧ CtOk K F H a c := by
  obtain ⟨v, e1, e2⟩ := k.sl i s h (by
    intro z
    subst z
    cases hc)
  obtain ⟨a, rfl, z⟩ := e2.owned hc
  exact ⟨a, e1, z⟩
/-- the object at a, with what is within it, is no slot's -/
def Away (H0 F H : Hp) (st : L2.St) (r : En) (a : Addr) (c : Ct) : Prop := Nob H st r a ∧ ∀ b, Inn H a c b → F b = none ∧ H0 b = none ∧ a ≠ b ∧ Nob H st r b
omit [TabT] in
theorem Away.l {a : Addr} {ds : List D} (h : Nob H st r a) : Away H0 F H st r a (.l ds) := ⟨h, fun _ z => (inn_l z).elim⟩
omit [TabT] in
theorem Away.d {a : Addr} {ds : List (Key × D)} (h : Nob H st r a) : Away H0 F H st r a (.d ds) := ⟨h, fun _ z => (inn_d z).elim⟩
omit [TabT] in
theorem Away.t {a : Addr} {ds : List (List Key × D)} (h : Nob H st r a) : Away H0 F H st r a (.t ds) := ⟨h, fun _ z => (inn_t z).elim⟩
omit [TabT] in
theorem Nob.cg {a : Addr} (h : Nob H st r a) (e : ∀ (i : Nat) (s : Sl) (c : Ct) (b : Addr), r[i]? = some s → s.own = some c → st[i]? = some (some (.ref b)) → H' b = H b) : Nob H' st r a := fun i s c b h1 h2 h3 => by
  obtain ⟨g1, g2⟩ := h i s c b h1 h2 h3
  exact ⟨g1, fun n => g2 (n.cg (e i s c b h1 h2 h3).symm)⟩
omit [TabT] in
theorem Nob.upd {a : Addr} {o : HO} (h : Nob H st r a) : Nob (upd H a o) st r a := h.cg fun i s c b h1 h2 h3 => upd_ne (h i s c b h1 h2 h3).1
omit [TabT] in
/-- fewer slots -/
theorem Nob.unk {a : Addr} (h : Nob H st r a) {i : Nat} {x : Option V} : Nob H (st.set i x) (r.set i .unk) a := fun j s c b hj hc hst => by
  by_cases e : i = j
  · subst e
    rw [List.getElem?_set_self'] at hj
    cases hr : r[i]? with
    | none =>
      rw [hr] at hj
      cases hj
    | some z =>
      rw [hr] at hj
      cases hj
      cases hc
  · rw [List.getElem?_set_ne e] at hj hst
    exact h j s c b hj hc hst
/-- a slot is stored -/
theorem Ok.set (k : Ok K pa H0 F0 F H st r) {i : Nat} {v : V} {s : Sl} (hi : ∀ q, r[i]? = some q → q.isIo = false) (hs : s.isIo = false) (ok : SlOk K (pa i) H0 F H v s)
    (hd : ∀ (a : Addr) (c : Ct), s.own = some c → v = .ref a → Away H0 F H (st.set i none) (r.set i .unk) a c) : Ok K pa H0 F0 F H (st.set i (some v)) (r.set i s) where
  hH := k.hH
  fF := k.fF
  fH := k.fH
  sep := k.sep
  len := by rw [List.length_set, List.length_set, k.len]
  sl := fun j q h n => by
    by_cases e : i = j
    · subst e
      rw [List.getElem?_set_self'] at h
      by_cases hl : i < r.length
      · rw [List.getElem?_eq_getElem hl] at h
        cases h
        refine ⟨v, ?_, ok⟩
        rw [List.getElem?_set_self (by rw [k.len]; exact hl)]
      · rw [List.getElem?_eq_none (by omega)] at h
        cases h
    · rw [List.getElem?_set_ne e] at h
      obtain ⟨w, z1, z2⟩ := k.sl j q h n
      exact ⟨w, by rw [List.getElem?_set_ne e]; exact z1, z2⟩
  tb := k.tb
  dis := fun j1 j2 q1 q2 c1 c2 a ne h1 h2 o1 o2 s1 s2 => by
    by_cases e1 : i = j1
    · subst e1
      have e2 : i ≠ j2 := ne
      rw [List.getElem?_set_ne e2] at h2 s2
      rw [List.getElem?_set_self'] at h1 s1
      by_cases hl : i < r.length
      · rw [List.getElem?_eq_getElem hl] at h1
        rw [List.getElem?_eq_getElem (by rw [k.len]; exact hl)] at s1
        cases h1
        cases s1
        exact ((hd a c1 o1 rfl).1 j2 q2 c2 a (by rw [List.getElem?_set_ne e2]; exact h2) o2 (by rw [List.getElem?_set_ne e2]; exact s2)).1 rfl
      · rw [List.getElem?_eq_none (by omega)] at h1
        cases h1
    · rw [List.getElem?_set_ne e1] at h1 s1
      by_cases e2 : i = j2
      · subst e2
        rw [List.getElem?_set_self'] at h2 s2
        by_cases hl : i < r.length
        · rw [List.getElem?_eq_getElem hl] at h2
          rw [List.getElem?_eq_getElem (by rw [k.len]; exact hl)] at s2
          cases h2
          cases s2
          exact ((hd a c2 o2 rfl).1 j1 q1 c1 a (by rw [List.getElem?_set_ne e1]; exact h1) o1 (by rw [List.getElem?_set_ne e1]; exact s1)).1 rfl
        · rw [List.getElem?_eq_none (by omega)] at h2
          cases h2
      · rw [List.getElem?_set_ne e2] at h2 s2
        exact k.dis j1 j2 q1 q2 c1 c2 a ne h1 h2 o1 o2 s1 s2
  inn := by
    have old : ∀ (j : Nat) (q : Sl) (x : Option V), i ≠ j → (r.set i s)[j]? = some q → (st.set i (some v))[j]? = some x → r[j]? = some q ∧ st[j]? = some x ∧ (r.set i .unk)[j]? = some q ∧ (st.set i none)[j]? = some x := fun j q x e h1 h2 => by
      rw [List.getElem?_set_ne e] at h1 h2
      exact ⟨h1, h2, by rw [List.getElem?_set_ne e]; exact h1, by rw [List.getElem?_set_ne e]; exact h2⟩
    have new : ∀ (q : Sl) (x : Option V), (r.set i s)[i]? = some q → (st.set i (some v))[i]? = some x → q = s ∧ x = some v := fun q x h1 h2 => by
      rw [List.getElem?_set_self'] at h1 h2
      cases hr : r[i]? with
      | none =>
        rw [hr] at h1
        cases h1
      | some z =>
        cases hs : st[i]? with
        | none =>
          rw [hs] at h2
          cases h2
        | some y =>
          rw [hr] at h1
          rw [hs] at h2
          cases h1
          cases h2
          exact ⟨rfl, rfl⟩
    intro j q c a b h1 h2 h3 h4
    by_cases e : i = j
    · subst e
      obtain ⟨rfl, hx⟩ := new q _ h1 h3
      cases hx
      obtain ⟨n1, n2⟩ := hd a c h2 rfl
      obtain ⟨g1, g2, g3, g4⟩ := n2 b h4
      refine ⟨g1, g2, fun j q' c' a' w1 w2 w3 => ?_⟩
      by_cases e : i = j
      · subst e
        obtain ⟨rfl, hx⟩ := new q' _ w1 w3
        cases hx
        exact ⟨g3, fun z => absurd rfl z⟩
      · obtain ⟨y1, y2, y3, y4⟩ := old j q' _ e w1 w3
        obtain ⟨u1, u2⟩ := g4 j q' c' a' y3 w2 y4
        exact ⟨u1, fun _ => u2⟩
    · obtain ⟨x1, x2, x3, x4⟩ := old j q _ e h1 h3
      obtain ⟨g1, g2, g3⟩ := k.inn j q c a b x1 h2 x2 h4
      refine ⟨g1, g2, fun j2 q' c' a' w1 w2 w3 => ?_⟩
      by_cases e2 : i = j2
      · subst e2
        obtain ⟨rfl, hx⟩ := new q' _ w1 w3
        cases hx
        obtain ⟨n1, n2⟩ := hd a' c' w2 rfl
        refine ⟨fun z => (n1 j q c a x3 h2 x4).2 (z ▸ h4), fun _ n => ?_⟩
        exact ((n2 b n).2.2.2 j q c a x3 h2 x4).2 h4
      · obtain ⟨y1, y2, y3, y4⟩ := old j2 q' _ e2 w1 w3
        exact g3 j2 q' c' a' y1 w2 y2
theorem Ok.setV (k : Ok K pa H0 F0 F H st r) {i : Nat} {v : V} {d : D} (hi : ∀ q, r[i]? = some q → q.isIo = false) (ok : Rp K F v d) : Ok K pa H0 F0 F H (st.set i (some v)) (r.set i (.v d)) :=
  k.set (s := .v d) hi rfl ok fun _ _ z => nomatch z
/-- a slot is forgotten -/
theorem Ok.forget (k : Ok K pa H0 F0 F H st r) {i : Nat} {x : Option V} : Ok K pa H0 F0 F H (st.set i x) (r.set i .unk) where
  hH := k.hH
  fF := k.fF
  fH := k.fH
  sep := k.sep
  len := by rw [List.length_set, List.length_set, k.len]
  sl := fun j q h n => by
    by_cases e : i = j
    · subst e
      rw [List.getElem?_set_self'] at h
      by_cases hl : i < r.length
      · rw [List.getElem?_eq_getElem hl] at h
        cases h
        exact absurd rfl n
      · rw [List.getElem?_eq_none (by omega)] at h
        cases h
    · rw [List.getElem?_set_ne e] at h
      obtain ⟨w, z1, z2⟩ := k.sl j q h n
      exact ⟨w, by rw [List.getElem?_set_ne e]; exact z1, z2⟩
  tb := k.tb
  dis := fun j1 j2 q1 q2 c1 c2 a ne h1 h2 o1 o2 s1 s2 => by
    have no : ∀ (j : Nat) (q : Sl) (c : Ct), (r.set i .unk)[j]? = some q → q.own = some c → i ≠ j := fun j q c h o e => by
      subst e
      rw [List.getElem?_set_self'] at h
      by_cases hl : i < r.length
      · rw [List.getElem?_eq_getElem hl] at h
        cases h
        cases o
      · rw [List.getElem?_eq_none (by omega)] at h
        cases h
    have e1 := no j1 q1 c1 h1 o1
    have e2 := no j2 q2 c2 h2 o2
    rw [List.getElem?_set_ne e1] at h1 s1
    rw [List.getElem?_set_ne e2] at h2 s2
    exact k.dis j1 j2 q1 q2 c1 c2 a ne h1 h2 o1 o2 s1 s2
  inn := by
    have no : ∀ (j : Nat) (q : Sl) (c : Ct), (r.set i .unk)[j]? = some q → q.own = some c → i ≠ j := fun j q c h o e => by
      subst e
      rw [List.getElem?_set_self'] at h
      by_cases hl : i < r.length
      · rw [List.getElem?_eq_getElem hl] at h
        cases h
        cases o
      · rw [List.getElem?_eq_none (by omega)] at h
        cases h
    intro j q c a b h1 h2 h3 h4
    have e1 := no j q c h1 h2
    rw [List.getElem?_set_ne e1] at h1 h3
    obtain ⟨g1, g2, g3⟩ := k.inn j q c a b h1 h2 h3 h4
    refine ⟨g1, g2, fun j2 q' c' a' w1 w2 w3 => ?_⟩
    have e2 := no j2 q' c' w1 w2
    rw [List.getElem?_set_ne e2] at w1 w3
    exact g3 j2 q' c' a' w1 w2 w3
/-- an owned object is changed -/
theorem Ok.put (k : Ok K pa H0 F0 F H st r) {i : Nat} {s : Sl} {c c' : Ct} {a : Addr} {o : HO} (h : r[i]? = some s) (hc : s.own = some c) (ha : st[i]? = some (some (.ref a))) (new : CtOk K F (upd H a o) a c')
    (newI : ∀ b, Inn (upd H a o) a c' b → Inn H a c b ∨ (F b = none ∧ H0 b = none ∧ a ≠ b ∧ Nob H st r b) := by intro b hb; first | exact (inn_l hb).elim | exact (inn_d hb).elim | exact (inn_t hb).elim) : Ok K pa H0 F0 F (upd H a o) st (r.set i (s.put c')) := by
  obtain ⟨a', z1, z2, z3, z4⟩ := k.ownd h hc
  rw [ha] at z1
  cases z1
  have hl : i < r.length := (List.getElem?_eq_some_iff.mp h).1
  have po : (s.put c').own = some c' := by cases s <;> rfl
  have other : ∀ (j : Nat) (q : Sl) (c2 : Ct) (b : Addr), i ≠ j → r[j]? = some q → q.own = some c2 → st[j]? = some (some (.ref b)) → b ≠ a := fun j q c2 b e hq hq2 hb z => by
    subst z
    exact k.dis i j s q c c2 b e h hq hc hq2 ha hb
  have get : ∀ (j : Nat) (q : Sl) (c2 : Ct), (r.set i (s.put c'))[j]? = some q → q.own = some c2 → (i = j ∧ q = s.put c' ∧ c2 = c') ∨ (i ≠ j ∧ r[j]? = some q) := fun j q c2 hq ho => by
    by_cases e : i = j
    · subst e
      rw [List.getElem?_set_self hl] at hq
      cases hq
      rw [po] at ho
      cases ho
      exact .inl ⟨rfl, rfl, rfl⟩
    · rw [List.getElem?_set_ne e] at hq
      exact .inr ⟨e, hq⟩
  refine ⟨k.hH.mut z3, k.fF, k.fH.mut z2, k.sep, by rw [List.length_set, k.len], fun j q hq n => ?_, tabs_put k.tb z4, fun j1 j2 q1 q2 c1 c2 b ne h1 h2 o1 o2 s1 s2 => ?_, fun j q c2 b b2 hq ho hst hin => ?_⟩
  · by_cases e : i = j
    · subst e
      rw [List.getElem?_set_self hl] at hq
      cases hq
      obtain ⟨v, w1, w2⟩ := k.sl i s h (by
        intro z
        subst z
        cases hc)
      rw [ha] at w1
      cases w1
      refine ⟨_, ha, ?_⟩
      cases s with
      | unk => cases hc
      | pin => cases hc
      | v d => cases hc
      | o c1 => exact ⟨a, rfl, z2, z3, new⟩
      | io c1 =>
        obtain ⟨y1, y2, y3, y4⟩ := w2
        cases y1
        exact ⟨rfl, z2, z3, new⟩
    · rw [List.getElem?_set_ne e] at hq
      obtain ⟨v, w1, w2⟩ := k.sl j q hq n
      refine ⟨v, w1, ?_⟩
      cases q with
      | unk => trivial
      | pin => exact w2
      | v d => exact w2
      | o c1 =>
        obtain ⟨b, y1, y2, y3, y4⟩ := w2
        have nb : b ≠ a := other j _ c1 b e hq rfl (by rw [w1, y1])
        exact ⟨b, y1, y2, y3, y4.mono (Ex.refl F) (upd_ne nb) fun b2 hb2 => upd_ne fun z => ((k.inn j _ c1 b b2 hq rfl (by rw [w1, y1]) hb2).2.2 i s c a h hc ha).1 z.symm⟩
      | io c1 =>
        obtain ⟨y1, y2, y3, y4⟩ := w2
        have nb : pa j ≠ a := other j _ c1 (pa j) e hq rfl (by rw [w1, y1])
        exact ⟨y1, y2, y3, y4.mono (Ex.refl F) (upd_ne nb) fun b2 hb2 => upd_ne fun z => ((k.inn j _ c1 _ b2 hq rfl (by rw [w1, y1]) hb2).2.2 i s c a h hc ha).1 z.symm⟩
  · have get : ∀ (j : Nat) (q : Sl) (c2 : Ct), (r.set i (s.put c'))[j]? = some q → q.own = some c2 → ∃ q' c3, r[j]? = some q' ∧ q'.own = some c3 := fun j q c2 hq ho => by
      by_cases e : i = j
      · subst e
        exact ⟨s, c, h, hc⟩
      · rw [List.getElem?_set_ne e] at hq
        exact ⟨q, c2, hq, ho⟩
    obtain ⟨q1', c1', g1, g2⟩ := get j1 q1 c1 h1 o1
    obtain ⟨q2', c2', g3, g4⟩ := get j2 q2 c2 h2 o2
    exact k.dis j1 j2 q1' q2' c1' c2' b ne g1 g3 g2 g4 s1 s2
  · -- what is within
    have far : ∀ (j : Nat) (q : Sl) (c3 : Ct) (b3 b4 : Addr), i ≠ j → r[j]? = some q → q.own = some c3 → st[j]? = some (some (.ref b3)) → Inn (upd H a o) b3 c3 b4 → Inn H b3 c3 b4 := fun j q c3 b3 b4 e g1 g2 g3 g4 => g4.cg (upd_ne (other j q c3 b3 e g1 g2 g3)).symm
    rcases get j q c2 hq ho with ⟨rfl, rfl, rfl⟩ | ⟨e, hq'⟩
    · rw [ha] at hst
      cases hst
      rcases newI b2 hin with hi | ⟨f1, f2, f3, f4⟩
      · obtain ⟨f1, f2, f3⟩ := k.inn i s c a b2 h hc ha hi
        refine ⟨f1, f2, fun j2 q2 c3 b3 g1 g2 g3 => ?_⟩
        rcases get j2 q2 c3 g1 g2 with ⟨rfl, rfl, rfl⟩ | ⟨e, g1⟩
        · rw [ha] at g3
          cases g3
          exact ⟨(f3 i s c a h hc ha).1, fun z => absurd rfl z⟩
        · obtain ⟨y1, y2⟩ := f3 j2 q2 c3 b3 g1 g2 g3
          exact ⟨y1, fun nj n => y2 nj (far j2 q2 c3 b3 b2 e g1 g2 g3 n)⟩
      · refine ⟨f1, f2, fun j2 q2 c3 b3 g1 g2 g3 => ?_⟩
        rcases get j2 q2 c3 g1 g2 with ⟨rfl, rfl, rfl⟩ | ⟨e, g1⟩
        · rw [ha] at g3
          cases g3
          exact ⟨f3, fun z => absurd rfl z⟩
        · obtain ⟨y1, y2⟩ := f4 j2 q2 c3 b3 g1 g2 g3
          exact ⟨y1, fun _ n => y2 (far j2 q2 c3 b3 b2 e g1 g2 g3 n)⟩
    · have hin2 := far j q c2 b b2 e hq' ho hst hin
      obtain ⟨f1, f2, f3⟩ := k.inn j q c2 b b2 hq' ho hst hin2
      refine ⟨f1, f2, fun j2 q2 c3 b3 g1 g2 g3 => ?_⟩
      rcases get j2 q2 c3 g1 g2 with ⟨rfl, rfl, rfl⟩ | ⟨e2, g1⟩
      · rw [ha] at g3
        cases g3
        obtain ⟨y1, y2⟩ := f3 i s c a h hc ha
        refine ⟨y1, fun _ n => ?_⟩
        rcases newI b2 n with hi | ⟨_, _, _, f4⟩
        · exact y2 (fun z => e z) hi
        · exact (f4 j q c2 b hq' ho hst).2 hin2
      · obtain ⟨y1, y2⟩ := f3 j2 q2 c3 b3 g1 g2 g3
        exact ⟨y1, fun nj n => y2 nj (far j2 q2 c3 b3 b2 e2 g1 g2 g3 n)⟩
/-- a slot's object is no other slot's -/
theorem Ok.away (k : Ok K pa H0 F0 F H st r) {i : Nat} {s : Sl} {c : Ct} {a : Addr} (h : r[i]? = some s) (hc : s.own = some c) (ha : st[i]? = some (some (.ref a))) {x : Option V} : Away H0 F H (st.set i x) (r.set i .unk) a c := by
  have hl : i < r.length := (List.getElem?_eq_some_iff.mp h).1
  have old : ∀ (j : Nat) (q : Sl) (c2 : Ct) (b : Addr), (r.set i .unk)[j]? = some q → q.own = some c2 → (st.set i x)[j]? = some (some (.ref b)) → i ≠ j ∧ r[j]? = some q ∧ st[j]? = some (some (.ref b)) := fun j q c2 b hj hc2 hst => by
    by_cases e : i = j
    · subst e
      rw [List.getElem?_set_self hl] at hj
      cases hj
      cases hc2
    · rw [List.getElem?_set_ne e] at hj hst
      exact ⟨e, hj, hst⟩
  refine ⟨fun j q c2 b hj hc2 hst => ?_, fun b hb => ?_⟩
  · obtain ⟨e, hj, hst⟩ := old j q c2 b hj hc2 hst
    refine ⟨fun z => ?_, fun z => ((k.inn j q c2 b a hj hc2 hst z).2.2 i s c a h hc ha).1 rfl⟩
    subst z
    exact k.dis i j s q c c2 b e h hj hc hc2 ha hst
  · obtain ⟨g1, g2, g3⟩ := k.inn i s c a b h hc ha hb
    refine ⟨g1, g2, (g3 i s c a h hc ha).1, fun j q c2 b2 hj hc2 hst => ?_⟩
    obtain ⟨e, hj, hst⟩ := old j q c2 b2 hj hc2 hst
    obtain ⟨y1, y2⟩ := g3 j q c2 b2 hj hc2 hst
    exact ⟨y1, y2 fun z => e z.symm⟩
/-- objects that are nobody's are frozen -/
theorem Ok.frzS (k : Ok K pa H0 F0 F H st r) (S : Addr → Bool) (h1 : ∀ b, S b = true → ∃ o, H b = some o) (n0 : ∀ b, S b = true → H0 b = none) (nF : ∀ b, S b = true → F b = none) (nO : ∀ b, S b = true → Nob H st r b) :
    Ok K pa H0 F0 (fun b => if S b = true then H b else F b) H st r ∧ Ex F (fun b => if S b = true then H b else F b) := by
  have ne : ∀ {b o}, F b = some o → ¬ S b = true := fun {b o} e z => by
    rw [nF b z] at e
    cases e
  have eF : Ex F (fun b => if S b = true then H b else F b) := ⟨fun b o e nt => by
    show (if S b = true then H b else F b) = _
    rw [if_neg (ne e)]
    exact e, fun b ps e => ⟨#[], by
    show (if S b = true then H b else F b) = _
    rw [if_neg (ne e), Array.append_empty]
    exact e⟩⟩
  refine ⟨⟨k.hH, k.fF.trans eF, ⟨fun b o e nt => ?_, fun b ps e => ?_⟩, fun b z1 z2 => ?_, k.len, fun i s h n => ?_, k.tb, k.dis, fun i s c a b g1 g2 g3 g4 => ?_⟩, eF⟩
  · have e : (if S b = true then H b else F b) = some o := e
    by_cases hb : S b = true
    · rw [if_pos hb] at e
      exact e
    · rw [if_neg hb] at e
      exact k.fH.at_ b o e nt
  · have e : (if S b = true then H b else F b) = some (.tbl ps) := e
    by_cases hb : S b = true
    · rw [if_pos hb] at e
      exact ⟨#[], by rw [Array.append_empty]; exact e⟩
    · rw [if_neg hb] at e
      exact k.fH.tb b ps e
  · have z2 : (if S b = true then H b else F b) ≠ none := z2
    by_cases hb : S b = true
    · exact absurd (n0 b hb) z1
    · rw [if_neg hb] at z2
      exact k.sep b z1 z2
  · obtain ⟨v, w1, w2⟩ := k.sl i s h n
    refine ⟨v, w1, ?_⟩
    have far : ∀ (c : Ct) (a : Addr), s.own = some c → v = .ref a → ¬ S a = true := fun c a g1 g2 z => by
      subst g2
      exact (nO a z i s c a h g1 w1).1 rfl
    cases s with
    | unk => trivial
    | pin => exact w2
    | v d => exact dp_mono eF w2
    | o c =>
      obtain ⟨a, e1, e2, e3, e4⟩ := w2
      exact ⟨a, e1, by
        show (if S a = true then H a else F a) = none
        rw [if_neg (far c a rfl e1)]
        exact e2, e3, e4.mono eF rfl fun _ _ => rfl⟩
    | io c =>
      obtain ⟨e1, e2, e3, e4⟩ := w2
      exact ⟨e1, by
        show (if S (pa i) = true then H (pa i) else F (pa i)) = none
        rw [if_neg (far c _ rfl e1)]
        exact e2, e3, e4.mono eF rfl fun _ _ => rfl⟩
  · obtain ⟨f1, f2, f3⟩ := k.inn i s c a b g1 g2 g3 g4
    have hb : ¬ S b = true := fun z => (nO b z i s c a g1 g2 g3).2 g4
    exact ⟨by
      show (if S b = true then H b else F b) = none
      rw [if_neg hb]
      exact f1, f2, f3⟩
theorem its_rp {K : PySem.W.Frag} {F H F' : Hp} (e : Ex F F') : ∀ {vs : List V} {is : List Im}, ItAll K F H vs is → (∀ (j : Nat) (b : Addr) (ds : List D), vs[j]? = some (.ref b) → is[j]? = some (.l ds) → F' b = H b) → RpAll K F' vs (is.map Im.data)
  | _, _, .nil, _ => .nil
  | _, _, @ItAll.cons _ _ _ v vs i is h t, q => by
    refine .cons ?_ (its_rp e t fun j b ds h1 h2 => q (j + 1) b ds (by simpa using h1) (by simpa using h2))
    cases i with
    | v d => exact dp_mono e h
    | l ds =>
      obtain ⟨b, ws, rfl, h1, h2⟩ := h
      exact .lst (.inl (.inl ((q 0 b ds rfl rfl).trans h1))) (dpa_mono e h2)
/-- a deep object as data, within a heap where it stands -/
theorem nt_rp {K : PySem.W.Frag} {F H F' : Hp} {a : Addr} {t : Nt} {d : D} (h : CtOk K F H a (.n t)) (e : Ex F F') (hd : t.data = some d) (ha : F' a = H a) (hi : ∀ b, Inn H a (.n t) b → F' b = H b) : Rp K F' (.ref a) d := by
  obtain ⟨vs, h1, h2, h3⟩ := h
  have h4 := its_rp e h2 fun j b ds g1 g2 => hi b ⟨j, vs, ds, h1.vals, g1, g2⟩
  cases t with
  | l its =>
    cases hd
    exact .lst (.inl (.inl (ha.trans h1))) h4
  | u its =>
    cases hd
    exact .tup (ha.trans h1) h4
  | d kvs => cases hd
end
/-! ### readings -/
structure Cc where
  K : PySem.W.Frag
  mg : Str → Option Value
  W : WX
def ExOk (c : Cc) (F H : Hp) (e : Exn) (cls : Value) (dd : Option Addr) : Prop := cls = .ref (He.ga c.K e.name) ∧
  ((e.flds = [] ∧ dd = none) ∨ ∃ d fs, dd = some d ∧ F d = some (.xd fs) ∧ fs.map (·.1) = e.flds.map (·.1) ∧ RpAll c.K F (fs.map (·.2)) (e.flds.map (·.2)))
def XW (c : Cc) (pa : Nat → Addr) (H0 F0 F : Hp) : Exn → En → Prop := fun e r' => ∀ F' H' st' cls dd, Ok c.K pa H0 F0 F' H' st' r' → Ex F F' → ExOk c F' H' e cls dd → c.W cls dd st' H'
theorem XW.mono {c : Cc} {pa : Nat → Addr} {H0 F0 F F1 : Hp} (e : Ex F F1) : ∀ x r, XW c pa H0 F0 F x r → XW c pa H0 F0 F1 x r := fun x r h F' H' st' cls dd ok ex => h F' H' st' cls dd ok (e.trans ex)
/-- a value, or a new object of one's own -/
def RvOk (K : PySem.W.Frag) (H0 F H : Hp) (st : L2.St) (r : En) (v : V) : RV → Prop
  | .v d => Rp K F v d
  | .o c => ∃ a, v = .ref a ∧ F a = none ∧ H0 a = none ∧ CtOk K F H a c ∧ Away H0 F H st r a c
def tM (c : Cc) (m : M D) : TE := fun st H Q => ∃ pa H0 F0 F r, Ok c.K pa H0 F0 F H st r ∧ Po (XW c pa H0 F0 F) (m r) fun d r' => ∀ F' H' v, Ok c.K pa H0 F0 F' H' st r' → Ex F F' → Rp c.K F' v d → Q v H'
def tO (c : Cc) (m : M RV) : TE := fun st H Q => ∃ pa H0 F0 F r, Ok c.K pa H0 F0 F H st r ∧ Po (XW c pa H0 F0 F) (m r) fun d r' => ∀ F' H' v, Ok c.K pa H0 F0 F' H' st r' → Ex F F' → RvOk c.K H0 F' H' st r' v d → Q v H'
def tT (c : Cc) (m : M Bool) : TT := fun st H Q => ∃ pa H0 F0 F r, Ok c.K pa H0 F0 F H st r ∧ Po (XW c pa H0 F0 F) (m r) fun b r' => ∀ F' H', Ok c.K pa H0 F0 F' H' st r' → Ex F F' → Q b H'
def tA (c : Cc) (m : M (List D)) : TA := fun st H Q => ∃ pa H0 F0 F r, Ok c.K pa H0 F0 F H st r ∧ Po (XW c pa H0 F0 F) (m r) fun ds r' => ∀ F' H' vs, Ok c.K pa H0 F0 F' H' st r' → Ex F F' → RpAll c.K F' vs ds → Q vs H'
inductive Fl where
  | nx | bk | ct | rt (r : RV)
def flEnd (K : PySem.W.Frag) (pa : Nat → Addr) (H0 F0 F : Hp) (Dd : Ends) (r' : En) : Fl → Prop
  | .nx => ∀ F' H' st', Ok K pa H0 F0 F' H' st' r' → Ex F F' → Dd.nx st' H'
  | .bk => ∀ F' H' st', Ok K pa H0 F0 F' H' st' r' → Ex F F' → Dd.bk st' H'
  | .ct => ∀ F' H' st', Ok K pa H0 F0 F' H' st' r' → Ex F F' → Dd.ct st' H'
  | .rt rv => ∀ F' H' st' v, Ok K pa H0 F0 F' H' st' r' → Ex F F' → RvOk K H0 F' H' st' r' v rv → Dd.rt v H'
def sM (c : Cc) (m : M Fl) : TS := fun Dd st H => ∃ pa H0 F0 F r, Ok c.K pa H0 F0 F H st r ∧ Po (XW c pa H0 F0 F) (m r) fun fl r' => flEnd c.K pa H0 F0 F Dd r' fl
theorem flEnd.mono {K : PySem.W.Frag} {pa : Nat → Addr} {H0 F0 F F1 : Hp} {Dd : Ends} {r' : En} {fl : Fl} (e : Ex F F1) (h : flEnd K pa H0 F0 F Dd r' fl) : flEnd K pa H0 F0 F1 Dd r' fl := by
  cases fl with
  | nx => exact fun F' H' st' k ex => h F' H' st' k (e.trans ex)
  | bk => exact fun F' H' st' k ex => h F' H' st' k (e.trans ex)
  | ct => exact fun F' H' st' k ex => h F' H' st' k (e.trans ex)
  | rt rv => exact fun F' H' st' v k ex => h F' H' st' v k (e.trans ex)
section
variable {X : Cx} {c : Cc}
theorem pe_cq {e : Expr} {t t' : TE} (h : PE X e t) (i : ∀ st H Q, t' st H Q → t st H Q) : PE X e t' := ⟨fun pins s st H Q I q => h.run pins s st H Q I (i st H Q q)⟩
theorem pt_cq {e : Expr} {t t' : TT} (h : PT X e t) (i : ∀ st H Q, t' st H Q → t st H Q) : PT X e t' := ⟨fun pins s st H Q I q => h.run pins s st H Q I (i st H Q q)⟩
theorem pw_cq {e : Expr} {t t' : TT} (h : PW X e t) (i : ∀ st H Q, t' st H Q → t st H Q) : PW X e t' := ⟨fun wh pins s st H Q I q => h.run wh pins s st H Q I (i st H Q q)⟩
theorem pa_cq {e : List Expr} {t t' : TA} (h : PA X e t) (i : ∀ st H Q, t' st H Q → t st H Q) : PA X e t' := ⟨fun pos pins s st H Q I q => h.run pos pins s st H Q I (i st H Q q)⟩
theorem ps_cq {e : Stmt} {t t' : TS} (h : PS X e t) (i : ∀ Dd st H, t' Dd st H → t Dd st H) : PS X e t' := ⟨fun pins s st H Dd I q => h.run pins s st H Dd I (i Dd st H q)⟩
theorem pss_cq {e : List Stmt} {t t' : TS} (h : PSs X e t) (i : ∀ Dd st H, t' Dd st H → t Dd st H) : PSs X e t' := ⟨fun pins s st H Dd I q => h.run pins s st H Dd I (i Dd st H q)⟩
/-! ### the chaining of two parts -/
theorem seqM {α : Type} {pa : Nat → Addr} {H0 F0 F H : Hp} {st : L2.St} {r : En} {ma : M D} {f : D → M α} {k : α → En → Prop} {Q : VK} (ok : Ok c.K pa H0 F0 F H st r) (po : Po (XW c pa H0 F0 F) (ma.bind f r) k)
    (h : ∀ d r1 F1 H1 v, Ok c.K pa H0 F0 F1 H1 st r1 → Ex F F1 → Rp c.K F1 v d → Po (XW c pa H0 F0 F1) (f d r1) k → Q v H1) : tM c ma st H Q :=
  ⟨pa, H0, F0, F, r, ok, (Po.bind po).mono (fun _ _ x => x) fun d r1 q F1 H1 v k1 e1 dp => h d r1 F1 H1 v k1 e1 dp (q.mono (XW.mono e1) fun _ _ x => x)⟩
theorem seqO {α : Type} {pa : Nat → Addr} {H0 F0 F H : Hp} {st : L2.St} {r : En} {ma : M RV} {f : RV → M α} {k : α → En → Prop} {Q : VK} (ok : Ok c.K pa H0 F0 F H st r) (po : Po (XW c pa H0 F0 F) (ma.bind f r) k)
    (h : ∀ d r1 F1 H1 v, Ok c.K pa H0 F0 F1 H1 st r1 → Ex F F1 → RvOk c.K H0 F1 H1 st r1 v d → Po (XW c pa H0 F0 F1) (f d r1) k → Q v H1) : tO c ma st H Q :=
  ⟨pa, H0, F0, F, r, ok, (Po.bind po).mono (fun _ _ x => x) fun d r1 q F1 H1 v k1 e1 dp => h d r1 F1 H1 v k1 e1 dp (q.mono (XW.mono e1) fun _ _ x => x)⟩
theorem seqT {α : Type} {pa : Nat → Addr} {H0 F0 F H : Hp} {st : L2.St} {r : En} {ma : M Bool} {f : Bool → M α} {k : α → En → Prop} {Q : Bool → Hp → Prop} (ok : Ok c.K pa H0 F0 F H st r) (po : Po (XW c pa H0 F0 F) (ma.bind f r) k)
    (h : ∀ d r1 F1 H1, Ok c.K pa H0 F0 F1 H1 st r1 → Ex F F1 → Po (XW c pa H0 F0 F1) (f d r1) k → Q d H1) : tT c ma st H Q :=
  ⟨pa, H0, F0, F, r, ok, (Po.bind po).mono (fun _ _ x => x) fun d r1 q F1 H1 k1 e1 => h d r1 F1 H1 k1 e1 (q.mono (XW.mono e1) fun _ _ x => x)⟩
theorem seqA {α : Type} {pa : Nat → Addr} {H0 F0 F H : Hp} {st : L2.St} {r : En} {ma : M (List D)} {f : List D → M α} {k : α → En → Prop} {Q : List V → Hp → Prop} (ok : Ok c.K pa H0 F0 F H st r) (po : Po (XW c pa H0 F0 F) (ma.bind f r) k)
    (h : ∀ d r1 F1 H1 vs, Ok c.K pa H0 F0 F1 H1 st r1 → Ex F F1 → RpAll c.K F1 vs d → Po (XW c pa H0 F0 F1) (f d r1) k → Q vs H1) : tA c ma st H Q :=
  ⟨pa, H0, F0, F, r, ok, (Po.bind po).mono (fun _ _ x => x) fun d r1 q F1 H1 v k1 e1 dp => h d r1 F1 H1 v k1 e1 dp (q.mono (XW.mono e1) fun _ _ x => x)⟩
theorem againM {pa : Nat → Addr} {H0 F0 F F1 H : Hp} {st : L2.St} {r : En} {m : M D} {Q : VK} (ok : Ok c.K pa H0 F0 F1 H st r) (e : Ex F F1) (po : Po (XW c pa H0 F0 F1) (m r) fun d r' => ∀ F' H' v, Ok c.K pa H0 F0 F' H' st r' → Ex F F' → Rp c.K F' v d → Q v H') : tM c m st H Q :=
  ⟨pa, H0, F0, F1, r, ok, po.mono (fun _ _ x => x) fun d r' q F' H' v k e' => q F' H' v k (e.trans e')⟩
theorem againT {pa : Nat → Addr} {H0 F0 F F1 H : Hp} {st : L2.St} {r : En} {m : M Bool} {Q : Bool → Hp → Prop} (ok : Ok c.K pa H0 F0 F1 H st r) (e : Ex F F1) (po : Po (XW c pa H0 F0 F1) (m r) fun d r' => ∀ F' H', Ok c.K pa H0 F0 F' H' st r' → Ex F F' → Q d H') : tT c m st H Q :=
  ⟨pa, H0, F0, F1, r, ok, po.mono (fun _ _ x => x) fun d r' q F' H' k e' => q F' H' k (e.trans e')⟩
theorem againS {pa : Nat → Addr} {H0 F0 F F1 H : Hp} {st : L2.St} {r : En} {m : M Fl} {Dd : Ends} (ok : Ok c.K pa H0 F0 F1 H st r) (e : Ex F F1) (po : Po (XW c pa H0 F0 F1) (m r) fun fl r' => flEnd c.K pa H0 F0 F Dd r' fl) : sM c m Dd st H :=
  ⟨pa, H0, F0, F1, r, ok, po.mono (fun _ _ x => x) fun d r' q => q.mono e⟩
/-! ### names and constants -/
def getS (i : Nat) : M D := fun r => match r[i]? with
  | some (.v d) => .ok d r
  | _ => .no
theorem getS_po {i : Nat} {r : En} {Xp : Exn → En → Prop} {k : D → En → Prop} (h : Po Xp (getS i r) k) : ∃ d, r[i]? = some (.v d) ∧ k d r := by
  unfold getS at h
  split at h
  · exact ⟨_, by assumption, h⟩
  · exact h.elim
theorem e_var (i : Nat) {x : Str} {pos : Pos} (hN : X.N[i]? = some x := by rfl) (hv : Vis X.env.scope x := by first | exact Or.inl rfl | exact Or.inr (Or.inl rfl) | exact Or.inr (Or.inr rfl)) (hd : (x == ("__debug__" : Str)) = false := by decide)
    (hcd : (x == ("__classdict__" : Str)) = false := by decide) : PE X (.Name x pos) (tM c (getS i)) :=
  pe_cq (pe_var (i := i) hN hv hd hcd) fun st H Q ⟨pa, H0, F0, F, r, ok, po⟩ => by
    obtain ⟨d, h1, h2⟩ := getS_po po
    obtain ⟨v, e1, e2⟩ := ok.val h1
    exact ⟨v, e1, h2 F H v ok (Ex.refl F) e2⟩
theorem e_cst {e : Expr} {v : V} {d : D} (h : PE X e (tC v)) (hr : ∀ F, Rp c.K F v d) : PE X e (tM c (M.ret d)) :=
  pe_cq h fun st H Q ⟨pa, H0, F0, F, r, ok, po⟩ => po F H v ok (Ex.refl F) (hr F)
theorem e_int {i j pos} : PE X (.Constant (.int i) j pos) (tM c (M.ret (.int i))) := e_cst pe_int fun _ => .int i
theorem e_bl {b j pos} : PE X (.Constant (.bool b) j pos) (tM c (M.ret (.bool b))) := e_cst pe_bl fun _ => .bl b
theorem e_non {j pos} : PE X (.Constant .none j pos) (tM c (M.ret .none)) := e_cst pe_non fun _ => .non
theorem e_str {x j pos} : PE X (.Constant (.str x) j pos) (tM c (M.ret (.str x))) := e_cst pe_str fun _ => .str x
theorem e_globI {x : Str} {i : Int} {t : Tok} {pos : Pos} (hm : X.mg x = some (.int i t)) (hg : Gl X x := by rfl) (hd : (x == ("__debug__" : Str)) = false := by decide) : PE X (.Name x pos) (tM c (M.ret (.int i))) := e_cst (pe_glob (v := .int i) hg hm ⟨_, rfl⟩ hd) fun _ => .int i
/-! ### a value from an owned one -/
def RV.data : RV → Option D
  | .v d => some d
  | .o (.l ds) => some (.list ds)
  | .o (.d _) => none
  | .o (.t _) => none
  | .o (.n t) => t.data
theorem opt_po' {α : Type} {o : Option α} {r : En} {Xp : Exn → En → Prop} {k : α → En → Prop} (h : Po Xp (M.opt o r) k) : ∃ a, o = some a ∧ k a r := by
  cases o with
  | none => exact h.elim
  | some a => exact ⟨a, rfl, h⟩
def frzM (m : M RV) : M D := m.bind fun rv => M.opt rv.data
open Classical in
theorem Ok.frzRv {K : PySem.W.Frag} {pa : Nat → Addr} {H0 F0 F H : Hp} {st : L2.St} {r : En} (k : Ok K pa H0 F0 F H st r) {a : Addr} {t : Nt} {d : D} (z : F a = none ∧ H0 a = none ∧ CtOk K F H a (.n t) ∧ Away H0 F H st r a (.n t)) (hd : t.data = some d) : ∃ F', Ok K pa H0 F0 F' H st r ∧ Ex F F' ∧ Rp K F' (.ref a) d := by
  obtain ⟨z1, z2, z4, z5⟩ := z
  have hS : ∀ b, decide (b = a ∨ Inn H a (.n t) b) = true → b = a ∨ Inn H a (.n t) b := fun b hb => of_decide_eq_true hb
  obtain ⟨k3, eF⟩ := k.frzS (fun b => decide (b = a ∨ Inn H a (.n t) b)) (fun b hb => by
      rcases hS b hb with rfl | hb
      · exact z4.there
      · obtain ⟨ws, hw⟩ := z4.inn hb
        exact ⟨_, hw⟩) (fun b hb => by
      rcases hS b hb with rfl | hb
      · exact z2
      · exact (z5.2 b hb).2.1) (fun b hb => by
      rcases hS b hb with rfl | hb
      · exact z1
      · exact (z5.2 b hb).1) (fun b hb => by
      rcases hS b hb with rfl | hb
      · exact z5.1
      · exact (z5.2 b hb).2.2.2)
  exact ⟨_, k3, eF, nt_rp z4 eF hd (if_pos (decide_eq_true (.inl rfl))) fun b hb => if_pos (decide_eq_true (.inr hb))⟩
theorem e_val {e : Expr} {m : M RV} (h : PE X e (tO c m)) : PE X e (tM c (frzM m)) :=
  pe_cq h fun st H Q ⟨pa, H0, F0, F, r, ok, po⟩ => seqO ok po fun rv r1 F1 H1 v k1 e1 dp q => by
    cases rv with
    | v d => exact q F1 H1 v k1 e1 dp
    | o ct =>
      cases ct with
      | l ds =>
        obtain ⟨a, rfl, z1, z2, ⟨vs, z3, z4⟩, z5⟩ := dp
        have k2 := k1.frz z3 z2 z5.1 z1
        exact q _ H1 _ k2 (e1.trans (Ex.new z1)) (.lst (.inl (.inl upd_same)) (dpa_mono (Ex.new z1) z4))
      | t kvs => exact q.elim
      | d kvs => exact q.elim
      | n t =>
        obtain ⟨d, hd, q⟩ := opt_po' q
        obtain ⟨a, rfl, z⟩ := dp
        obtain ⟨F2, k2, eF, rp⟩ := k1.frzRv z hd
        exact q F2 H1 _ k2 (e1.trans eF) rp
theorem o_val {e : Expr} {m : M D} (h : PE X e (tM c m)) : PE X e (tO c (m.bind fun d => M.ret (.v d))) :=
  pe_cq h fun st H Q ⟨pa, H0, F0, F, r, ok, po⟩ => seqM ok po fun d r1 F1 H1 v k1 e1 dp q => q F1 H1 v k1 e1 dp
/-! ### argument lists -/
def aNil : M (List D) := M.ret []
def aCons (m : M D) (ms : M (List D)) : M (List D) := m.bind fun d => ms.bind fun ds => M.ret (d :: ds)
theorem a_nil : PA X [] (tA c aNil) := pa_cq pa_nil fun st H Q ⟨pa, H0, F0, F, r, ok, po⟩ => po F H [] ok (Ex.refl F) .nil
theorem a_cons {e : Expr} {es : List Expr} {m : M D} {ms : M (List D)} (h : PE X e (tM c m)) (hr : PA X es (tA c ms)) (hs : starEach (e :: es) X.env = (false, eval e X.env) :: starEach es X.env := by rfl) : PA X (e :: es) (tA c (aCons m ms)) :=
  pa_cq (pa_cons h hr hs) fun st H Q ⟨pa, H0, F0, F, r, ok, po⟩ => seqM ok po fun d r1 F1 H1 v k1 e1 dp q => seqA k1 q fun ds r2 F2 H2 vs k2 e2 dps q2 => q2 F2 H2 _ k2 (e1.trans e2) (.cons (dp_mono e2 dp) dps)
/-! ### displays -/
def szC (n : Nat) {α : Type} (a : α) : Option α := if n ≤ 16777216 then some a else none
theorem szC_po {α : Type} {n : Nat} {a : α} {r : En} {Xp : Exn → En → Prop} {k : α → En → Prop} (h : Po Xp (M.opt (szC n a) r) k) : n ≤ sizeLine ∧ k a r := by
  unfold szC at h
  split at h
  · exact ⟨by rw [sizeLine_eq]; assumption, h⟩
  · exact h.elim
def eTup (ms : M (List D)) : M D := ms.bind fun ds => M.opt (szC ds.length (.tuple ds))
def oLst (ms : M (List D)) : M RV := ms.bind fun ds => M.opt (szC ds.length (.o (.l ds)))
theorem e_tup {es : List Expr} {x1 : Nat} {pos : Pos} {ms : M (List D)} (h : PA X es (tA c ms)) : PE X (.Tuple es x1 pos) (tM c (eTup ms)) :=
  pe_cq (pe_tup h) fun st H Q ⟨pa, H0, F0, F, r, ok, po⟩ => seqA ok po fun ds r1 F1 H1 vs k1 e1 dps q => by
    obtain ⟨hz, q⟩ := szC_po q
    refine ⟨by rw [dpa_len dps]; exact hz, fun p np => ?_⟩
    have nF := k1.fH.nn np
    exact q _ _ _ (k1.layF np) (e1.trans (Ex.new nF)) (.tup upd_same (dpa_mono (Ex.new nF) dps))
theorem o_lst {es : List Expr} {pos : Pos} {ms : M (List D)} (h : PA X es (tA c ms)) : PE X (.List es pos) (tO c (oLst ms)) :=
  pe_cq (pe_lst h) fun st H Q ⟨pa, H0, F0, F, r, ok, po⟩ => seqA ok po fun ds r1 F1 H1 vs k1 e1 dps q => by
    obtain ⟨hz, q⟩ := szC_po q
    refine ⟨by rw [dpa_len dps]; exact hz, fun p np => ?_⟩
    have nF := k1.fH.nn np
    exact q F1 _ _ (k1.lay np) e1 ⟨p, rfl, nF, k1.hH.nn np, ⟨vs, upd_same, dps⟩, .l (k1.nobody np).upd⟩
/-! ### operators on data: g tells the answer -/
/-- nothing new, or one new frozen object -/
def NewF (F H F' H' : Hp) : Prop := (F' = F ∧ H' = H) ∨ ∃ p o, H p = none ∧ F' = upd F p o ∧ H' = upd H p o
theorem NewF.ok {K : PySem.W.Frag} {pa : Nat → Addr} {H0 F0 F H F' H' : Hp} {st : L2.St} {r : En} (n : NewF F H F' H') (k : Ok K pa H0 F0 F H st r) : Ok K pa H0 F0 F' H' st r ∧ Ex F F' := by
  rcases n with ⟨rfl, rfl⟩ | ⟨p, o, np, rfl, rfl⟩
  · exact ⟨k, Ex.refl _⟩
  · exact ⟨k.layF np, Ex.new (k.fH.nn np)⟩
def rD2 (K : PySem.W.Frag) (g : D → D → Option D) : R2 := fun x y H Q => ∃ F d e z, Ex F H ∧ Rp K F x d ∧ Rp K F y e ∧ g d e = some z ∧ ∀ v F' H', NewF F H F' H' → Rp K F' v z → Q v H'
def rDA (K : PySem.W.Frag) (g : List D → Option D) : List V → Hp → VK → Prop := fun xs H Q => ∃ F ds z, Ex F H ∧ RpAll K F xs ds ∧ g ds = some z ∧ ∀ v F' H', NewF F H F' H' → Rp K F' v z → Q v H'
def bin (g : D → D → Option D) (ma mb : M D) : M D := ma.bind fun x => mb.bind fun y => M.opt (g x y)
def una (g : D → Option D) (ma : M D) : M D := ma.bind fun x => M.opt (g x)
def nry (g : List D → Option D) (ms : M (List D)) : M D := ms.bind fun ds => M.opt (g ds)
def nryO (g : List D → Option (List D)) (ms : M (List D)) : M RV := ms.bind fun ds => M.opt ((g ds).map fun z => .o (.l z))
theorem opt_po {α : Type} {o : Option α} {r : En} {Xp : Exn → En → Prop} {k : α → En → Prop} (h : Po Xp (M.opt o r) k) : ∃ a, o = some a ∧ k a r := by
  cases o with
  | none => exact h.elim
  | some a => exact ⟨a, rfl, h⟩
theorem op_end {pa : Nat → Addr} {H0 F0 F H : Hp} {st : L2.St} {r r' : En} {d : D} {Q : VK} (k : Ok c.K pa H0 F0 F H st r) (q : ∀ F' H' v, Ok c.K pa H0 F0 F' H' st r → Ex F F' → Rp c.K F' v d → Q v H') :
    ∀ v F' H', NewF F H F' H' → Rp c.K F' v d → Q v H' := fun v F' H' n dp => by
  obtain ⟨k2, e2⟩ := n.ok k
  exact q F' H' v k2 e2 dp
theorem bin_ok {g : D → D → Option D} {ta tb : M D} {st : L2.St} {H : Hp} {Q : VK} (h : tM c (bin g ta tb) st H Q) : tOp (rD2 c.K g) (tM c ta) (tM c tb) st H Q := by
  obtain ⟨pa, H0, F0, F, r, ok, po⟩ := h
  refine seqM ok po fun d r1 F1 H1 v k1 e1 dp q => seqM k1 q fun d2 r2 F2 H2 v2 k2 e2 dp2 q2 => ?_
  obtain ⟨z, hz, q3⟩ := opt_po q2
  exact ⟨F2, d, d2, z, k2.fH, dp_mono e2 dp, dp2, hz, op_end (r' := r2) k2 fun F' H' v ok ex dp => q3 F' H' v ok ((e1.trans e2).trans ex) dp⟩
theorem e_op {op : Operator} {g : D → D → Option D} {a b : Expr} {ma mb : M D} {pos : Pos} (ho : OpR X (binaryOp op) (rD2 c.K g)) (ha : PE X a (tM c ma)) (hb : PE X b (tM c mb)) : PE X (.BinOp a op b pos) (tM c (bin g ma mb)) :=
  pe_cq (pe_op ho ha hb) fun _ _ _ h => bin_ok h
theorem e_cmp {op : CmpOp} {g : D → D → Option D} {a b : Expr} {ma mb : M D} {pos : Pos} (ho : OpR X (compareOp op) (rD2 c.K g)) (ha : PE X a (tM c ma)) (hb : PE X b (tM c mb)) (hm : behindInMarks op b = false := by first | exact nomark _ | rfl) : PE X (.Compare a [op] [b] pos) (tM c (bin g ma mb)) :=
  pe_cq (pe_cmpR ho ha hb hm) fun _ _ _ h => bin_ok h
theorem e_ix {g : D → D → Option D} {a b : Expr} {ma mb : M D} {pos : Pos} (ho : IxR X (rD2 c.K g)) (ha : PE X a (tM c ma)) (hb : PE X b (tM c mb)) (hs : PlainIx b := by exact fun _ _ => rfl) : PE X (.Subscript a b pos) (tM c (bin g ma mb)) :=
  pe_cq (pe_ix ho ha hb hs) fun _ _ _ h => bin_ok h
theorem e_callB {id : String} {g : List D → Option D} {x : Str} {e : Expr} {es : List Expr} {p pos : Pos} {ms : M (List D)} (hc : CallR X (.builtin id) (rDA c.K g)) (hm : X.mg x = none) (ha : PA X (e :: es) (tA c ms)) (hg : Gl X x := by rfl) (hv : bootBuiltins x = some (.builtin id) := by decide +kernel) (hn : x ≠ "__name__" := by decide) (hdb : (x == ("__debug__" : Str)) = false := by decide)
    (he : starEach (e :: es) X.env = (false, eval e X.env) :: starEach es X.env := by rfl) (hpl : (backTo pos (starEach es X.env)).any (·.1) = false := by rfl) : PE X (.Call (.Name x p) (e :: es) [] pos) (tM c (nry g ms)) :=
  pe_cq (pe_callB hc hg hm hv ha hn hdb he hpl) fun _ _ _ ⟨pa, H0, F0, F, r, ok, po⟩ => seqA ok po fun ds r1 F1 H1 vs k1 e1 dps q => by
    obtain ⟨z, hz, q3⟩ := opt_po q
    exact ⟨F1, ds, z, k1.fH, dps, hz, op_end (r' := r1) k1 fun F' H' v ok ex dp => q3 F' H' v ok (e1.trans ex) dp⟩
theorem e_callT {T : String} {g : List D → Option D} {x : Str} {e : Expr} {es : List Expr} {p pos : Pos} {ms : M (List D)} (hc : CallR X (.type T) (rDA c.K g)) (hm : X.mg x = none) (ha : PA X (e :: es) (tA c ms)) (hg : Gl X x := by rfl) (hv : bootBuiltins x = some (.type T) := by decide +kernel) (hn : x ≠ "__name__" := by decide) (hdb : (x == ("__debug__" : Str)) = false := by decide)
    (he : starEach (e :: es) X.env = (false, eval e X.env) :: starEach es X.env := by rfl) (hpl : (backTo pos (starEach es X.env)).any (·.1) = false := by rfl) : PE X (.Call (.Name x p) (e :: es) [] pos) (tM c (nry g ms)) :=
  pe_cq (pe_callTy hc hg hm hv ha hn hdb he hpl) fun _ _ _ ⟨pa, H0, F0, F, r, ok, po⟩ => seqA ok po fun ds r1 F1 H1 vs k1 e1 dps q => by
    obtain ⟨z, hz, q3⟩ := opt_po q
    exact ⟨F1, ds, z, k1.fH, dps, hz, op_end (r' := r1) k1 fun F' H' v ok ex dp => q3 F' H' v ok (e1.trans ex) dp⟩
/-! ### tests -/
def tru : D → Option Bool
  | .none => some false
  | .bool b => some b
  | .int i => some (i != 0)
  | .str x => if x.length ≤ 16777216 then some ((x.length : Int) != 0) else none
  | .list ds => some (!ds.isEmpty)
  | .tuple ds => some (!ds.isEmpty)
  | .dict _ => none
def tBool (m : M D) : M Bool := m.bind fun d => M.opt (match d with
  | .bool b => some b
  | _ => none)
def tTru (m : M D) : M Bool := m.bind fun d => M.opt (tru d)
def tNotM (m : M Bool) : M Bool := m.bind fun b => M.ret (!b)
def tAndM (m n : M Bool) : M Bool := m.bind fun b => if b = true then n else M.ret false
def tOrM (m n : M Bool) : M Bool := m.bind fun b => if b = true then M.ret true else n
theorem dpa_emp {K : PySem.W.Frag} {F : Hp} : ∀ {vs : List V} {ds : List D}, RpAll K F vs ds → (!ds.isEmpty) = !vs.isEmpty
  | _, _, .nil => rfl
  | _, _, .cons _ _ => rfl
/-- a comparison as a test -/
theorem t_cmp {op : CmpOp} {g : D → D → Option D} {a b : Expr} {ma mb : M D} {pos : Pos} (ho : OpR X (compareOp op) (rD2 c.K g)) (ha : PE X a (tM c ma)) (hb : PE X b (tM c mb)) (hm : behindInMarks op b = false := by first | exact nomark _ | rfl) : PT X (.Compare a [op] [b] pos) (tT c (tBool (bin g ma mb))) :=
  pt_cq (pt_cmpR ho ha hb hm) fun st H Q h => by
    obtain ⟨pa, H0, F0, F, r, ok, po⟩ := h
    refine bin_ok ?_
    refine seqM ok po fun d r1 F1 H1 v k1 e1 dp q => ?_
    obtain ⟨b, hb, q⟩ := opt_po q
    cases dp with
    | bl b' =>
      cases hb
      exact ⟨_, rfl, q F1 H1 k1 e1⟩
    | _ => cases hb
theorem t_tru {e : Expr} {m : M D} (h : PE X e (tM c m)) (hK : c.K = X.K := by rfl) (he : ∀ whole, isTrue e X.env whole = (do let v ← whole; standAt e.pos; holding [v] (truthy v)) := by intro _; rfl) : PT X e (tT c (tTru m)) :=
  pt_cq (pt_truth h he) fun st H Q ⟨pa, H0, F0, F, r, ok, po⟩ => seqM ok po fun d r1 F1 H1 v k1 e1 dp q => by
    obtain ⟨b, hb, q⟩ := opt_po q
    have fin := q F1 H1 k1 e1
    cases dp with
    | non => cases hb; exact ⟨_, rfl, fin⟩
    | bl b' => cases hb; exact ⟨_, rfl, fin⟩
    | int i => cases hb; exact ⟨_, rfl, fin⟩
    | str x =>
      have hb : (if x.length ≤ 16777216 then some ((x.length : Int) != 0) else none) = some b := hb
      by_cases hx : x.length ≤ 16777216
      · rw [if_pos hx] at hb
        cases hb
        exact ⟨_, ⟨by rw [sizeLine_eq]; exact hx, rfl⟩, fin⟩
      · rw [if_neg hx] at hb
        cases hb
    | lst h1 h2 =>
      cases hb
      exact ⟨_, .inl ⟨_, by rw [← hK]; exact k1.fH.l h1, dpa_emp h2⟩, fin⟩
    | tup h1 h2 =>
      cases hb
      exact ⟨_, .inr (.inl ⟨_, by rw [← hK]; exact k1.fH.t h1, dpa_emp h2⟩), fin⟩
    | _ => cases hb
theorem t_not {e : Expr} {m : M Bool} {pos : Pos} (h : PT X e (tT c m)) : PT X (.UnaryOp .Not e pos) (tT c (tNotM m)) :=
  pt_cq (pt_not h) fun st H Q ⟨pa, H0, F0, F, r, ok, po⟩ => seqT ok po fun b r1 F1 H1 k1 e1 q => q F1 H1 k1 e1
theorem w_and1 {e : Expr} {m : M Bool} {pos : Pos} (h : PT X e (tT c m)) : PW X (.BoolOp .And [e] pos) (tT c m) := pw_and1 h
theorem w_or1 {e : Expr} {m : M Bool} {pos : Pos} (h : PT X e (tT c m)) : PW X (.BoolOp .Or [e] pos) (tT c m) := pw_or1 h
theorem w_and {a b : Expr} {rest : List Expr} {m n : M Bool} {pos : Pos} (h : PT X a (tT c m)) (h2 : PW X (.BoolOp .And (b :: rest) pos) (tT c n)) : PW X (.BoolOp .And (a :: b :: rest) pos) (tT c (tAndM m n)) :=
  pw_cq (pw_and h h2) fun st H Q ⟨pa, H0, F0, F, r, ok, po⟩ => seqT ok po fun b r1 F1 H1 k1 e1 q => by
    cases b with
    | true => exact againT k1 e1 q
    | false => exact q F1 H1 k1 e1
theorem w_or {a b : Expr} {rest : List Expr} {m n : M Bool} {pos : Pos} (h : PT X a (tT c m)) (h2 : PW X (.BoolOp .Or (b :: rest) pos) (tT c n)) : PW X (.BoolOp .Or (a :: b :: rest) pos) (tT c (tOrM m n)) :=
  pw_cq (pw_or h h2) fun st H Q ⟨pa, H0, F0, F, r, ok, po⟩ => seqT ok po fun b r1 F1 H1 k1 e1 q => by
    cases b with
    | true => exact q F1 H1 k1 e1
    | false => exact againT k1 e1 q
/-! ### and, or, not as values -/
def eNot (m : M D) : M D := (tBool m).bind fun b => M.ret (.bool (!b))
def eAnd (m n : M D) : M D := (tBool m).bind fun b => if b = true then n else M.ret (.bool false)
def eOr (m n : M D) : M D := (tBool m).bind fun b => if b = true then M.ret (.bool true) else n
theorem seqB {α : Type} {pa : Nat → Addr} {H0 F0 F H : Hp} {st : L2.St} {r : En} {ma : M D} {f : Bool → M α} {k : α → En → Prop} {Q : VK} (ok : Ok c.K pa H0 F0 F H st r) (po : Po (XW c pa H0 F0 F) ((tBool ma).bind f r) k)
    (h : ∀ b r1 F1 H1, Ok c.K pa H0 F0 F1 H1 st r1 → Ex F F1 → Po (XW c pa H0 F0 F1) (f b r1) k → Q (.bl b) H1) : tM c ma st H Q := by
  have po2 : Po (XW c pa H0 F0 F) (ma.bind (fun d => (M.opt (match d with
    | .bool b => some b
    | _ => none)).bind f) r) k := by
    unfold tBool M.bind at po
    unfold M.bind
    cases hm : ma r with
    | ok d r1 =>
      rw [hm] at po
      exact po
    | ex e r1 =>
      rw [hm] at po
      exact po
    | no =>
      rw [hm] at po
      exact po
  refine seqM ok po2 fun d r1 F1 H1 v k1 e1 dp q => ?_
  cases dp with
  | bl b => exact h b r1 F1 H1 k1 e1 q
  | _ => exact q.elim
theorem e_not {e : Expr} {m : M D} {pos : Pos} (h : PE X e (tM c m)) : PE X (.UnaryOp .Not e pos) (tM c (eNot m)) :=
  pe_cq (pe_not h) fun st H Q ⟨pa, H0, F0, F, r, ok, po⟩ => seqB ok po fun b r1 F1 H1 k1 e1 q => ⟨b, rfl, q F1 H1 _ k1 e1 (.bl _)⟩
theorem e_one {op} {e : Expr} {m : M D} {pos : Pos} (h : PE X e (tM c m)) : PE X (.BoolOp op [e] pos) (tM c m) := pe_one h
theorem e_and {a b : Expr} {rest : List Expr} {m n : M D} {pos : Pos} (h : PE X a (tM c m)) (h2 : PE X (.BoolOp .And (b :: rest) pos) (tM c n)) : PE X (.BoolOp .And (a :: b :: rest) pos) (tM c (eAnd m n)) :=
  pe_cq (pe_and h h2) fun st H Q ⟨pa, H0, F0, F, r, ok, po⟩ => seqB ok po fun b r1 F1 H1 k1 e1 q => ⟨b, rfl, by
    cases b with
    | true => exact againM k1 e1 q
    | false => exact q F1 H1 _ k1 e1 (.bl _)⟩
/-- a if t else b -/
def eIf (t : M Bool) (m n : M D) : M D := t.bind fun b => if b = true then m else n
end
end Pu
namespace Pu
open PySem PySem.Spec PyProof.Rows L2
variable [TabT]
/-! ### storing -/
def setN (i : Nat) (s : Sl) (r : En) : Option En := match r[i]? with
  | some (.io _) => none
  | some .pin => none
  | some _ => some (r.set i s)
  | none => none
theorem setN_some {i : Nat} {s : Sl} {r r' : En} (h : setN i s r = some r') : r' = r.set i s ∧ ∀ q, r[i]? = some q → q.isIo = false := by
  unfold setN at h
  split at h
  · cases h
  · cases h
  · rename_i q hn hp hq
    cases h
    refine ⟨rfl, fun q' e => ?_⟩
    rw [hq] at e
    cases e
    cases q with
    | io c => exact absurd rfl (hn c)
    | pin => exact absurd rfl hp
    | _ => rfl
  · cases h
def setM (i : Nat) (s : Sl) : M Fl := fun r => match setN i s r with
  | some r' => .ok .nx r'
  | none => .no
theorem setM_po {i : Nat} {s : Sl} {r : En} {Xp : Exn → En → Prop} {k : Fl → En → Prop} (h : Po Xp (setM i s r) k) : k .nx (r.set i s) ∧ ∀ q, r[i]? = some q → q.isIo = false := by
  unfold setM at h
  cases e : setN i s r with
  | none =>
    rw [e] at h
    exact h.elim
  | some r' =>
    rw [e] at h
    obtain ⟨rfl, h2⟩ := setN_some e
    exact ⟨h, h2⟩
def slOf : RV → Sl
  | .v d => .v d
  | .o c => .o c
def sSet (i : Nat) (m : M D) : M Fl := m.bind fun d => setM i (.v d)
def sSetO (i : Nat) (m : M RV) : M Fl := m.bind fun d => setM i (slOf d)
def sNil : M Fl := M.ret .nx
def sSeq (m n : M Fl) : M Fl := m.bind fun fl => match fl with
  | .nx => n
  | f => M.ret f
def sIf (t : M Bool) (a b : M Fl) : M Fl := t.bind fun x => if x = true then a else b
def sRet (m : M RV) : M Fl := m.bind fun d => M.ret (.rt d)
def sDrop (m : M D) : M Fl := m.bind fun _ => M.ret .nx
def sDropO (m : M RV) : M Fl := m.bind fun _ => M.ret .nx
section
variable {X : Cx} {c : Cc} {K : PySem.W.Frag} {pa : Nat → Addr} {H0 F0 F H : Hp} {st0 : L2.St} {r0 : En}
theorem Ok.setRv (k : Ok K pa H0 F0 F H st0 r0) {i : Nat} {v : V} {d : RV} (hi : ∀ q, r0[i]? = some q → q.isIo = false) (h : RvOk K H0 F H st0 r0 v d) : Ok K pa H0 F0 F H (st0.set i (some v)) (r0.set i (slOf d)) := by
  cases d with
  | v d => exact k.setV hi h
  | o ct =>
    obtain ⟨a, rfl, z1, z2, z3, z4⟩ := h
    refine k.set (s := .o ct) hi rfl ⟨a, rfl, z1, z2, z3⟩ fun a' c' e0 e => ?_
    cases e
    cases e0
    exact ⟨z4.1.unk, fun b hb => by
      obtain ⟨g1, g2, g3, g4⟩ := z4.2 b hb
      exact ⟨g1, g2, g3, g4.unk⟩⟩
theorem s_set {i : Nat} {x : Str} {e : Expr} {m : M D} {pos pos' : Pos} (he : PE X e (tM c m)) (hN : X.N.Nodup) (hi : X.N[i]? = some x := by rfl) (hx : Loc X.env.scope x := by first | exact Or.inl rfl | exact Or.inr rfl)
    (hs : swapsWith e (some (.Name x pos')) pos.line X.env = pure false := by rfl) (hf : X.fn x = true ∨ X.env.scope.names.lookup x = some .local := by first | exact .inl rfl | exact .inr rfl) : PS X (.Assign [.Name x pos'] e pos) (sM c (sSet i m)) :=
  ps_cq (ps_set hN hi hx he hs hf) fun Dd st H ⟨pa, H0, F0, F, r, ok, po⟩ => seqM ok po fun d r1 F1 H1 v k1 e1 dp q => by
    obtain ⟨q, hi⟩ := setM_po q
    exact q F1 H1 _ (k1.setV hi dp) e1
theorem s_setO {i : Nat} {x : Str} {e : Expr} {m : M RV} {pos pos' : Pos} (he : PE X e (tO c m)) (hN : X.N.Nodup) (hi : X.N[i]? = some x := by rfl) (hx : Loc X.env.scope x := by first | exact Or.inl rfl | exact Or.inr rfl)
    (hs : swapsWith e (some (.Name x pos')) pos.line X.env = pure false := by rfl) (hf : X.fn x = true ∨ X.env.scope.names.lookup x = some .local := by first | exact .inl rfl | exact .inr rfl) : PS X (.Assign [.Name x pos'] e pos) (sM c (sSetO i m)) :=
  ps_cq (ps_set hN hi hx he hs hf) fun Dd st H ⟨pa, H0, F0, F, r, ok, po⟩ => seqO ok po fun d r1 F1 H1 v k1 e1 dp q => by
    obtain ⟨q, hi⟩ := setM_po q
    exact q F1 H1 _ (k1.setRv hi dp) e1
theorem ss_nil : PSs X [] (sM c sNil) := pss_cq pss_nil fun Dd st H ⟨pa, H0, F0, F, r, ok, po⟩ => po F H st ok (Ex.refl F)
theorem seqS {s1 : M Fl} {t : TS} {n : M Fl} {Dd : Ends} {st : L2.St} {H : Hp} (h : sM c (sSeq s1 n) Dd st H) (ht : ∀ Dd st H, sM c n Dd st H → t Dd st H) : sM c s1 { Dd with nx := t Dd } st H := by
  obtain ⟨pa, H0, F0, F, r, ok, po⟩ := h
  refine ⟨pa, H0, F0, F, r, ok, (Po.bind po).mono (fun _ _ x => x) fun fl r1 q => ?_⟩
  cases fl with
  | nx => exact fun F' H' st' k e => ht Dd st' H' (againS k e (q.mono (XW.mono e) fun _ _ x => x))
  | bk => exact q
  | ct => exact q
  | rt rv => exact q
theorem ss_cons {s : Stmt} {rest : List Stmt} {m n : M Fl} (h1 : PS X s (sM c m)) (h2 : PSs X rest (sM c n)) : PSs X (s :: rest) (sM c (sSeq m n)) :=
  pss_cq (pss_cons h1 h2) fun Dd st H h => seqS h fun _ _ _ x => x
theorem ss_one {s : Stmt} {m : M Fl} (h1 : PS X s (sM c m)) : PSs X [s] (sM c m) := pss_one h1
theorem s_if {t : Expr} {a b : List Stmt} {mt : M Bool} {ma mb : M Fl} {pos : Pos} (ht : PT X t (tT c mt)) (ha : PSs X a (sM c ma)) (hb : PSs X b (sM c mb)) : PS X (.If t a b pos) (sM c (sIf mt ma mb)) :=
  ps_cq (ps_if ht ha hb) fun Dd st H ⟨pa, H0, F0, F, r, ok, po⟩ => seqT ok po fun b r1 F1 H1 k1 e1 q => by
    cases b with
    | true => exact againS k1 e1 q
    | false => exact againS k1 e1 q
theorem s_ret {e : Expr} {m : M RV} {pos : Pos} (h : PE X e (tO c m)) : PS X (.Return (some e) pos) (sM c (sRet m)) :=
  ps_cq (ps_ret h) fun Dd st H ⟨pa, H0, F0, F, r, ok, po⟩ => seqO ok po fun d r1 F1 H1 v k1 e1 dp q => q F1 H1 st v k1 e1 dp
/-! ### an owned variable frozen, taken -/
def frzE (i : Nat) (r : En) : En := match r[i]? with
  | some (.o (.l ds)) => r.set i (.v (.list ds))
  | some (.o (.n t)) => (match t.data with
    | some d => r.set i (.v d)
    | none => r)
  | _ => r
def frz (i : Nat) {α : Type} (m : M α) : M α := fun r => m (frzE i r)
def takeS (i : Nat) : M RV := fun r => match r[i]? with
  | some (.v d) => .ok (.v d) r
  | some (.o ct) => .ok (.o ct) (r.set i .unk)
  | _ => .no
theorem set_same {st : L2.St} {i : Nat} {v : Option V} (h : st[i]? = some v) : st.set i v = st := by
  apply List.ext_getElem?
  intro j
  by_cases e : i = j
  · subst e
    rw [List.getElem?_set_self (List.getElem?_eq_some_iff.mp h).1, h]
  · rw [List.getElem?_set_ne e]
theorem o_take (i : Nat) {x : Str} {pos : Pos} (hN : X.N[i]? = some x := by rfl) (hv : Vis X.env.scope x := by first | exact Or.inl rfl | exact Or.inr (Or.inl rfl) | exact Or.inr (Or.inr rfl)) (hd : (x == ("__debug__" : Str)) = false := by decide)
    (hcd : (x == ("__classdict__" : Str)) = false := by decide) : PE X (.Name x pos) (tO c (takeS i)) :=
  pe_cq (pe_var (i := i) hN hv hd hcd) fun st H Q ⟨pa, H0, F0, F, r, ok, po⟩ => by
    unfold takeS at po
    split at po
    · rename_i d h
      obtain ⟨v, e1, e2⟩ := ok.val h
      exact ⟨v, e1, po F H v ok (Ex.refl F) e2⟩
    · rename_i ct h
      obtain ⟨a, z1, z2, z3, z4⟩ := ok.ownd h rfl
      have k2 := ok.forget (i := i) (x := some (V.ref a))
      rw [set_same z1] at k2
      have aw := ok.away (x := some (V.ref a)) h rfl z1
      rw [set_same z1] at aw
      exact ⟨_, z1, po F H _ k2 (Ex.refl F) ⟨a, rfl, z2, z3, z4, aw⟩⟩
    · exact po.elim
end
/-! ### targets -/
def Agr (is : List Nat) (st st' : L2.St) : Prop := st'.length = st.length ∧ ∀ j, j ∉ is → st'[j]? = st[j]?
/-- what is stored where: a datum to a target -/
abbrev Tg := D → En → Option En
abbrev Tgs := List D → En → Option En
def gM (K : PySem.W.Frag) (is : List Nat) (tg : Tg) : TG := fun v st H Q => ∃ pa H0 F0 F r d r', Ok K pa H0 F0 F H st r ∧ Rp K F v d ∧ tg d r = some r' ∧ ∀ st', Ok K pa H0 F0 F H st' r' → Agr is st st' → Q st' H
def gMs (K : PySem.W.Frag) (is : List Nat) (tg : Tgs) : TGs := fun vs st H Q => ∃ pa H0 F0 F r ds r', Ok K pa H0 F0 F H st r ∧ RpAll K F vs ds ∧ tg ds r = some r' ∧ ∀ st', Ok K pa H0 F0 F H st' r' → Agr is st st' → Q st' H
def gN (i : Nat) : Tg := fun d r => setN i (.v d) r
def gT (tg : Tgs) : Tg := fun d r => match d with
  | .tuple ds => tg ds r
  | .list ds => tg ds r
  | _ => none
def gNl : Tgs := fun ds r => match ds with
  | [] => some r
  | _ => none
def gCn (t : Tg) (ts : Tgs) : Tgs := fun ds r => match ds with
  | d :: ds => (t d r).bind fun r' => ts ds r'
  | _ => none
section
variable {X : Cx} {c : Cc}
theorem pg_cq {e : Expr} {t t' : TG} (h : PG X e t) (i : ∀ v st H Q, t' v st H Q → t v st H Q) : PG X e t' := ⟨fun pins s st H v u Q I rv q => h.run pins s st H v u Q I rv (i v st H Q q)⟩
theorem pgs_cq {e : List Expr} {t t' : TGs} (h : PGs X e t) (i : ∀ v st H Q, t' v st H Q → t v st H Q) : PGs X e t' := ⟨fun pins s st H v u Q I rv q => h.run pins s st H v u Q I rv (i v st H Q q)⟩
theorem g_name (i : Nat) {K : PySem.W.Frag} {x : Str} {pos : Pos} (hN : X.N.Nodup) (hi : X.N[i]? = some x := by rfl) (hx : Loc X.env.scope x := by first | exact Or.inl rfl | exact Or.inr rfl) (hf : X.fn x = true ∨ X.env.scope.names.lookup x = some .local := by first | exact .inl rfl | exact .inr rfl) : PG X (.Name x pos) (gM K [i] (gN i)) :=
  pg_cq (pg_name hN hi hx hf) fun v st H Q ⟨pa, H0, F0, F, r, d, r', ok, dp, e, q⟩ => by
    obtain ⟨rfl, h2⟩ := setN_some e
    exact q _ (ok.setV h2 dp) ⟨List.length_set, fun j hj => List.getElem?_set_ne (fun z => hj (by rw [z]; exact List.mem_singleton.mpr rfl))⟩
theorem g_nil {K : PySem.W.Frag} : PGs X [] (gMs K [] gNl) := pgs_cq pgs_nil fun v st H Q ⟨pa, H0, F0, F, r, ds, r', ok, dp, e, q⟩ => by
  cases dp with
  | nil =>
    cases e
    exact ⟨rfl, q st ok ⟨rfl, fun _ _ => rfl⟩⟩
  | cons _ _ => cases e
theorem g_cons {K : PySem.W.Frag} {e : Expr} {es : List Expr} {is js : List Nat} {t : Tg} {ts : Tgs} (h1 : PG X e (gM K is t)) (h2 : PGs X es (gMs K js ts)) (hs : (assignEach (e :: es) X.env).map (·.2) = assign e X.env :: (assignEach es X.env).map (·.2) := by rfl) : PGs X (e :: es) (gMs K (is ++ js) (gCn t ts)) :=
  pgs_cq (pgs_cons h1 h2 hs) fun v st H Q ⟨pa, H0, F0, F, r, ds, r', ok, dp, e, q⟩ => by
    cases dp with
    | nil => cases e
    | @cons v0 vs d ds d0 dr =>
      have e : (t d r).bind (fun r' => ts ds r') = some r' := e
      cases ht : t d r with
      | none =>
        rw [ht] at e
        cases e
      | some r1 =>
        rw [ht] at e
        refine ⟨v0, vs, rfl, pa, H0, F0, F, r, d, r1, ok, d0, ht, fun st' k1 ag => ⟨pa, H0, F0, F, r1, ds, r', k1, dr, e, fun st2 k2 ag2 => q st2 k2 ⟨ag2.1.trans ag.1, fun j hj => ?_⟩⟩⟩
        rw [ag2.2 j (fun z => hj (List.mem_append_right _ z)), ag.2 j (fun z => hj (List.mem_append_left _ z))]
theorem pg_or' {e : Expr} {t t' : TG} (h : PG X e t) (h' : PG X e t') : PG X e (fun v st H Q => t v st H Q ∨ t' v st H Q) := ⟨fun pins s st H v u Q I rv q => q.elim (h.run pins s st H v u Q I rv) (h'.run pins s st H v u Q I rv)⟩
theorem g_tup {es : List Expr} {k : Nat} {pos : Pos} {is : List Nat} {ts : Tgs} {n : Nat} (h : PGs X es (gMs X.K is ts)) (hl : ∀ ds r r', ts ds r = some r' → ds.length = n) (hc : X.calm = true := by rfl) (hn : (assignEach es X.env).length = n := by rfl) (hst : (assignEach es X.env).findIdx? (·.1) = none := by rfl) : PG X (.Tuple es k pos) (gM X.K is (gT ts)) :=
  pg_cq (pg_or' (pg_tup hc h hn hst) (pg_unl hc h hn hst)) fun v st H Q ⟨pa, H0, F0, F, r, d, r', ok, dp, e, q⟩ => by
    cases dp with
    | @tup a xs ds h1 h2 =>
      have e : ts ds r = some r' := e
      exact .inl ⟨a, xs, rfl, ok.fH.t h1, (dpa_len h2).trans (hl _ _ _ e), pa, H0, F0, F, r, ds, r', ok, h2, e, q⟩
    | @lst a xs ds h1 h2 =>
      have e : ts ds r = some r' := e
      exact .inr ⟨a, xs, rfl, ok.fH.l h1, (dpa_len h2).trans (hl _ _ _ e), pa, H0, F0, F, r, ds, r', ok, h2, e, q⟩
    | _ => cases e
theorem gNl_len : ∀ ds r r', gNl ds r = some r' → ds.length = 0 := fun ds r r' h => by
  cases ds with
  | nil => rfl
  | cons _ _ => cases h
theorem gCn_len {t : Tg} {ts : Tgs} {n : Nat} (h : ∀ ds r r', ts ds r = some r' → ds.length = n) : ∀ ds r r', gCn t ts ds r = some r' → ds.length = n + 1 := fun ds r r' e => by
  cases ds with
  | nil => cases e
  | cons d ds =>
    have e : (t d r).bind (fun r' => ts ds r') = some r' := e
    cases ht : t d r with
    | none =>
      rw [ht] at e
      cases e
    | some r1 =>
      rw [ht] at e
      exact congrArg Nat.succ (h ds r1 r' e)
/-- target = e -/
def sAsg (tg : Tg) (m : M D) : M Fl := m.bind fun d r => match tg d r with
  | some r' => .ok .nx r'
  | none => .no
theorem s_asg {tg e : Expr} {m : M D} {is : List Nat} {t : Tg} {pos : Pos} (he : PE X e (tM c m)) (hg : PG X tg (gM c.K is t)) (hs : swapsWithSole [tg] e pos.line X.env = pure false := by rfl) (hw : swappedStores [tg] e X.env = pure none := by rfl)
    (h1 : (assignEach [tg] X.env).map (·.2) = [assign tg X.env] := by rfl) : PS X (.Assign [tg] e pos) (sM c (sAsg t m)) :=
  ps_cq (ps_asg he hg hs hw h1) fun Dd st H ⟨pa, H0, F0, F, r, ok, po⟩ => seqM ok po fun d r1 F1 H1 v k1 e1 dp q => by
    cases ht : t d r1 with
    | none =>
      rw [ht] at q
      exact q.elim
    | some r2 =>
      rw [ht] at q
      exact ⟨pa, H0, F0, F1, r1, d, r2, k1, dp, ht, fun st' k2 _ => q F1 H1 st' k2 e1⟩
/-- x, y = a, b -/
def sPar (i j : Nat) (ms : M (List D)) : M Fl := ms.bind fun ds => match ds with
  | [a, b] => fun r => match (setN i (.v a) r).bind (setN j (.v b)) with
    | some r' => .ok .nx r'
    | none => .no
  | _ => M.no
end
/-! ### loops -/
def forL (tg : Tg) (b : M Fl) : List D → M Fl
  | [], r => .ok .nx r
  | x :: xs, r => match tg x r with
    | none => .no
    | some r1 => match b r1 with
      | .ok .nx r2 => forL tg b xs r2
      | .ok .ct r2 => forL tg b xs r2
      | .ok .bk r2 => .ok .nx r2
      | .ok (.rt v) r2 => .ok (.rt v) r2
      | .ex e r2 => .ex e r2
      | .no => .no
def sFor (src : M (List D)) (tg : Tg) (b : M Fl) : M Fl := src.bind fun xs => forL tg b xs
/-- what is walked: its items -/
structure Yl (K : PySem.W.Frag) (F1 : Hp) (J : It) (xs : List D) : Prop where
  go : ∀ i H, i < xs.length → Ex F1 H → J.go i H
  stop : ∀ H, Ex F1 H → J.stop xs.length H
  yld : ∀ (i : Nat) (H : Hp) (x : V) (H' : Hp) (d : D), xs[i]? = some d → Ex F1 H → J.yld i H x H' → (H' = H ∧ Rp K F1 x d) ∨ ∃ T vs ds, x = .ref T ∧ H T = none ∧ H' = upd H T (.tup vs) ∧ d = .tuple ds ∧ RpAll K F1 vs ds
def iM (c : Cc) (m : M (List D)) : TI := fun st H R => ∃ pa H0 F0 F r, Ok c.K pa H0 F0 F H st r ∧ Po (XW c pa H0 F0 F) (m r) fun xs r' => ∀ F' H' J, Ok c.K pa H0 F0 F' H' st r' → Ex F F' → Yl c.K F' J xs → R J H'
theorem Yl.step {K : PySem.W.Frag} {F1 : Hp} {J : It} {xs : List D} (y : Yl K F1 J xs) {pa : Nat → Addr} {H0 F0 F H : Hp} {st : L2.St} {r : En} (k : Ok K pa H0 F0 F H st r) (e : Ex F1 F) {i : Nat} {x : V} {H' : Hp} {d : D} (hd : xs[i]? = some d) (hy : J.yld i H x H') :
    ∃ F', Ok K pa H0 F0 F' H' st r ∧ Ex F F' ∧ Rp K F' x d := by
  rcases y.yld i H x H' d hd (e.trans k.fH) hy with ⟨rfl, dp⟩ | ⟨T, vs, ds, rfl, nT, rfl, rfl, dps⟩
  · exact ⟨F, k, Ex.refl F, dp_mono e dp⟩
  · have nF := k.fH.nn nT
    exact ⟨_, k.layF nT, Ex.new nF, .tup upd_same (dpa_mono (e.trans (Ex.new nF)) dps)⟩
theorem drop_cons {α : Type} {xs : List α} {i : Nat} {x : α} (h : xs[i]? = some x) : xs.drop i = x :: xs.drop (i + 1) := by
  obtain ⟨hl, e⟩ := List.getElem?_eq_some_iff.mp h
  rw [List.drop_eq_getElem_cons hl, e]
section
variable {X : Cx} {c : Cc}
theorem pi_cq {tg e : Expr} {t t' : TI} (h : PI X tg e t) (i : ∀ st H R, t' st H R → t st H R) : PI X tg e t' := ⟨fun pins s st H R I q => h.run pins s st H R I (i st H R q)⟩
theorem s_for {tg iter : Expr} {body : List Stmt} {src : M (List D)} {is : List Nat} {t : Tg} {mb : M Fl} {pos : Pos} (hi : PI X tg iter (iM c src)) (hg : PG X tg (gM c.K is t)) (hb : PSs X body (sM c mb)) (hp : PassesOwn (model X.prog X.w) X.A X.env X.xe) (hc : X.calm = true := by rfl)
    (hs : ∀ x, foldedSetIterable iter X.env x = pure x := by intro _; rfl) : PS X (.For tg iter body [] pos) (sM c (sFor src t mb)) :=
  ps_cq (ps_for hp hc hi hg hb hs) fun Dd st H ⟨pa, H0, F0, F, r, ok, po⟩ => by
    refine ⟨pa, H0, F0, F, r, ok, (Po.bind po).mono (fun _ _ x => x) fun xs r1 q F1 H1 J k1 e1 y => ?_⟩
    refine ⟨fun i m st H => i + m = xs.length ∧ ∃ F' r', Ok c.K pa H0 F0 F' H st r' ∧ Ex F1 F' ∧ Po (XW c pa H0 F0 F') (forL t mb (xs.drop i) r') (fun fl r' => flEnd c.K pa H0 F0 F' Dd r' fl), ⟨xs.length, by omega, F1, r1, k1, Ex.refl F1, q.mono (XW.mono e1) fun _ _ x => x.mono e1⟩, fun i m st H hW => ?_⟩
    obtain ⟨hm, F', r', k, e, po⟩ := hW
    by_cases hl : i < xs.length
    · have hx : xs[i]? = some xs[i] := List.getElem?_eq_getElem hl
      rw [drop_cons hx] at po
      refine .inr ⟨y.go i H hl (e.trans k.fH), fun st2 H2 => ∃ F2 r2, Ok c.K pa H0 F0 F2 H2 st2 r2 ∧ Ex F1 F2 ∧ Po (XW c pa H0 F0 F2) (forL t mb (xs.drop (i + 1)) r2) (fun fl r' => flEnd c.K pa H0 F0 F2 Dd r' fl), fun st2 H2 ⟨F2, r2, a1, a2, a3⟩ => ⟨m - 1, by omega, by omega, F2, r2, a1, a2, a3⟩, fun x H2 hy => ?_⟩
      obtain ⟨F2, k2, e2, dp2⟩ := y.step k e hx hy
      unfold forL at po
      cases ht : t xs[i] r' with
      | none =>
        rw [ht] at po
        exact po.elim
      | some r2 =>
        rw [ht] at po
        refine ⟨pa, H0, F0, F2, r', xs[i], r2, k2, dp2, ht, fun st3 k3 _ => ?_⟩
        refine ⟨pa, H0, F0, F2, r2, k3, ?_⟩
        have po : Po (XW c pa H0 F0 F') (match mb r2 with
          | .ok .nx r2 => forL t mb (xs.drop (i + 1)) r2
          | .ok .ct r2 => forL t mb (xs.drop (i + 1)) r2
          | .ok .bk r2 => .ok .nx r2
          | .ok (.rt v) r2 => .ok (.rt v) r2
          | .ex e r2 => .ex e r2
          | .no => .no) (fun fl r' => flEnd c.K pa H0 F0 F' Dd r' fl) := po
        cases hb : mb r2 with
        | no =>
          rw [hb] at po
          exact po.elim
        | ex ee r3 =>
          rw [hb] at po
          exact XW.mono e2 _ _ po
        | ok fl r3 =>
          rw [hb] at po
          cases fl with
          | nx => exact fun F4 H4 st4 k4 e4 => ⟨F4, r3, k4, (e.trans e2).trans e4, po.mono (XW.mono (e2.trans e4)) fun _ _ x => x.mono (e2.trans e4)⟩
          | ct => exact fun F4 H4 st4 k4 e4 => ⟨F4, r3, k4, (e.trans e2).trans e4, po.mono (XW.mono (e2.trans e4)) fun _ _ x => x.mono (e2.trans e4)⟩
          | bk => exact fun F4 H4 st4 k4 e4 => po F4 H4 st4 k4 (e2.trans e4)
          | rt rv => exact fun F4 H4 st4 v k4 e4 => po F4 H4 st4 v k4 (e2.trans e4)
    · have ei : i = xs.length := by omega
      subst ei
      rw [List.drop_length] at po
      exact .inl ⟨y.stop H (e.trans k.fH), po F' H st k (Ex.refl F')⟩
end
end Pu
namespace Pu
open PySem PySem.Spec PyProof.Rows L2
variable [TabT]
/-! ### what is walked -/
theorem pi_or {X : Cx} {tg e : Expr} {t t' : TI} (h : PI X tg e t) (h' : PI X tg e t') : PI X tg e (fun st H R => t st H R ∨ t' st H R) :=
  ⟨fun pins s st H R I q => q.elim (h.run pins s st H R I) (h'.run pins s st H R I)⟩
def seqOf : D → Option (List D)
  | .list ds => some ds
  | .tuple ds => some ds
  | _ => none
def iSeq (m : M D) : M (List D) := m.bind fun d => M.opt (seqOf d)
theorem yl_list {K : PySem.W.Frag} {F : Hp} {a : Addr} {vs : List V} {ds : List D} (h : SqL K F a vs) (hr : RpAll K F vs ds) : Yl K F (Itl K a) ds where
  go := fun i H hi e => by
    have hl := dpa_len hr
    exact ⟨vs, vs[i]'(by omega), e.l h, List.getElem?_eq_getElem (by omega)⟩
  stop := fun H e => ⟨vs, e.l h, by rw [dpa_len hr]; exact Nat.le_refl _⟩
  yld := fun i H x H' d hd e hy => by
    obtain ⟨rfl, q⟩ := hy
    obtain ⟨v, h1, h2⟩ := dpa_get hr hd
    have z := q vs (e.l h)
    rw [h1] at z
    cases z
    exact .inl ⟨rfl, h2⟩
theorem yl_tup {K : PySem.W.Frag} {F : Hp} {a : Addr} {vs : List V} {ds : List D} (h : SqT K F a vs) (hr : RpAll K F vs ds) : Yl K F (Itt K a) ds where
  go := fun i H hi e => by
    have hl := dpa_len hr
    exact ⟨vs, vs[i]'(by omega), e.t h, List.getElem?_eq_getElem (by omega)⟩
  stop := fun H e => ⟨vs, e.t h, by rw [dpa_len hr]; exact Nat.le_refl _⟩
  yld := fun i H x H' d hd e hy => by
    obtain ⟨rfl, q⟩ := hy
    obtain ⟨v, h1, h2⟩ := dpa_get hr hd
    have z := q vs (e.t h)
    rw [h1] at z
    cases z
    exact .inl ⟨rfl, h2⟩
section
variable {X : Cx} {c : Cc}
theorem i_seq {tg e : Expr} {m : M D} (h : PE X e (tM c m)) (hK : c.K = X.K := by rfl) : PI X tg e (iM c (iSeq m)) :=
  pi_cq (pi_or (pi_list h) (pi_tup h)) fun st H R ⟨pa, H0, F0, F, r, ok, po⟩ => by
    have po : Po (XW c pa H0 F0 F) ((m r).bind fun d => M.opt (seqOf d)) _ := po
    cases hm : m r with
    | no =>
      rw [hm] at po
      exact po.elim
    | ex e r1 =>
      rw [hm] at po
      exact .inl ⟨pa, H0, F0, F, r, ok, by rw [hm]; exact po⟩
    | ok d r1 =>
      rw [hm] at po
      obtain ⟨xs, hx, q⟩ := opt_po (show Po (XW c pa H0 F0 F) (M.opt (seqOf d) r1) _ from po)
      cases d with
      | list ds =>
        cases hx
        refine .inl ⟨pa, H0, F0, F, r, ok, ?_⟩
        rw [hm]
        intro F' H' v k e dp
        cases dp with
        | @lst a vs _ h1 h2 => exact ⟨a, rfl, ⟨vs, by rw [← hK]; exact k.fH.l h1⟩, q F' H' _ k e (by rw [← hK]; exact yl_list h1 h2)⟩
      | tuple ds =>
        cases hx
        refine .inr ⟨pa, H0, F0, F, r, ok, ?_⟩
        rw [hm]
        intro F' H' v k e dp
        cases dp with
        | @tup a vs _ h1 h2 => exact ⟨a, rfl, ⟨vs, by rw [← hK]; exact k.fH.t h1⟩, q F' H' _ k e (by rw [← hK]; exact yl_tup h1 h2)⟩
      | _ => cases hx
/-! range -/
def rngD (lo : Int) (n : Nat) : List D := (List.range n).map fun k => .int (lo + (k : Nat))
/-- a choice that nothing can reckon out -/
noncomputable def cI {α : Type} (p : Prop) (a b : α) : α := @ite α p (Classical.propDecidable p) a b
theorem cI_eq {α : Type} (p : Prop) [Decidable p] (a b : α) : cI p a b = if p then a else b := by
  unfold cI
  by_cases h : p
  · rw [if_pos h, if_pos h]
  · rw [if_neg h, if_neg h]
noncomputable def cd (p : Prop) : Bool := @decide p (Classical.propDecidable p)
theorem cd_eq (p : Prop) [Decidable p] : cd p = decide p := by
  unfold cd
  by_cases h : p
  · exact (@decide_eq_true p (Classical.propDecidable p) h).trans (decide_eq_true h).symm
  · exact (@decide_eq_false p (Classical.propDecidable p) h).trans (decide_eq_false h).symm
noncomputable def rng1 : List D → Option (List D)
  | [.int j] => cI (-(2 ^ 62) ≤ j ∧ j < 2 ^ 62) (some (rngD 0 j.toNat)) none
  | _ => none
noncomputable def rng2 : List D → Option (List D)
  | [.int i, .int j] => cI ((-(2 ^ 62) ≤ i ∧ i < 2 ^ 62) ∧ (-(2 ^ 62) ≤ j ∧ j < 2 ^ 62)) (some (rngD i (j - i).toNat)) none
  | _ => none
def iBy (g : List D → Option (List D)) (ms : M (List D)) : M (List D) := ms.bind fun ds => M.opt (g ds)
theorem rng1_some {ds xs : List D} (h : rng1 ds = some xs) : ∃ j : Int, ds = [.int j] ∧ (-(2 ^ 62) ≤ j ∧ j < 2 ^ 62) ∧ xs = rngD 0 j.toNat := by
  unfold rng1 at h
  split at h
  · rw [cI_eq] at h
    split at h
    · cases h
      exact ⟨_, rfl, by assumption, rfl⟩
    · cases h
  · cases h
theorem rpa_one {K : PySem.W.Frag} {F : Hp} {vs : List V} {d : D} (h : RpAll K F vs [d]) : ∃ v, vs = [v] ∧ Rp K F v d := by
  cases h with
  | cons h t =>
    cases t
    exact ⟨_, rfl, h⟩
theorem rpa_two {K : PySem.W.Frag} {F : Hp} {vs : List V} {d e : D} (h : RpAll K F vs [d, e]) : ∃ v w, vs = [v, w] ∧ Rp K F v d ∧ Rp K F w e := by
  cases h with
  | cons h t =>
    obtain ⟨w, rfl, h2⟩ := rpa_one t
    exact ⟨_, w, rfl, h, h2⟩
theorem rp_int {K : PySem.W.Frag} {F : Hp} {v : V} {i : Int} (h : Rp K F v (.int i)) : v = .int i := by
  cases h
  rfl
theorem rngD_len (lo : Int) (n : Nat) : (rngD lo n).length = n := by simp [rngD]
theorem yl_rng {K : PySem.W.Frag} {F : Hp} (lo : Int) (n : Nat) : Yl K F (Itr lo n) (rngD lo n) where
  go := fun i H hi e => by
    rw [rngD_len] at hi
    exact hi
  stop := fun H e => by
    rw [rngD_len]
    exact Nat.le_refl _
  yld := fun i H x H' d hd e hy => by
    obtain ⟨rfl, rfl⟩ := hy
    refine .inl ⟨rfl, ?_⟩
    unfold rngD at hd
    rw [List.getElem?_map] at hd
    cases hr : (List.range n)[i]? with
    | none =>
      rw [hr] at hd
      cases hd
    | some k =>
      rw [hr] at hd
      cases hd
      obtain ⟨h1, h2⟩ := List.getElem?_eq_some_iff.mp hr
      rw [List.getElem_range] at h2
      subst h2
      exact .int _
theorem i_rng1 {tg a : Expr} {ms : M (List D)} {p pos : Pos} (ha : PA X [a] (tA c ms)) (hm : X.mg "range" = none) (hg : Gl X "range" := by rfl) (hs : starEach [a] X.env = [(false, eval a X.env)] := by rfl) : PI X tg (.Call (.Name "range" p) [a] [] pos) (iM c (iBy rng1 ms)) :=
  pi_cq (pi_range1 hg hm ha hs) fun st H R ⟨pa, H0, F0, F, r, ok, po⟩ => seqA ok po fun ds r1 F1 H1 vs k1 e1 dps q => by
    obtain ⟨xs, hx, q⟩ := opt_po q
    obtain ⟨j, rfl, hj, rfl⟩ := rng1_some hx
    obtain ⟨v, rfl, d⟩ := rpa_one dps
    cases rp_int d
    exact ⟨j, rfl, hj.1, hj.2, q F1 H1 _ k1 e1 (yl_rng 0 j.toNat)⟩
end
/-! ### enumerate -/
/-- the tuple at a, each item in a new pair -/
def ItE (K : PySem.W.Frag) (a : Addr) : It where
  go := fun i H => ∃ (xs : List V) (x : V), SqT K H a xs ∧ xs[i]? = some x
  yld := fun i H v H' => ∃ T x, v = .ref T ∧ H T = none ∧ H' = upd H T (.tup [.int (i : Nat), x]) ∧ ∀ xs, SqT K H a xs → xs[i]? = some x
  stop := fun i H => ∃ xs : List V, SqT K H a xs ∧ xs.length ≤ i
theorem turn_en {P : Program} {w : World} {K : PySem.W.Frag} {elts : List Expr} {kk : Nat} {tpos : Pos} (a q it : Addr) :
    Turn P w K (.Tuple elts kk tpos) (ItE K a) [q, it] q (fun i h => (∃ old, IsEnum h q it ((i : Nat) : Int) old) ∧ h.IsTupleIter it a i ∧ q ≠ it ∧ a ≠ it ∧ a ≠ q) where
  mem := List.mem_cons_self
  obj := fun i h hst b hb => by
    obtain ⟨⟨old, h1⟩, ⟨o, h2, h3, h4⟩, _⟩ := hst
    rcases List.mem_cons.mp hb with rfl | hb
    · exact ⟨_, h1, fun v z => nomatch z⟩
    · rw [List.mem_singleton.mp hb]
      exact ⟨o, h2, fun v z => by rw [h4] at z; cases z⟩
  keep := fun i h h' hst kp => by
    obtain ⟨⟨old, h1⟩, h2, h3⟩ := hst
    exact ⟨⟨old, kp q List.mem_cons_self _ h1⟩, h2.at fun o z => kp it (List.mem_cons_of_mem _ (List.mem_singleton.mpr rfl)) o z, h3⟩
  item := by
    intro X hP hw hK hc i pins s st H E I hf hst hg
    subst hP hw hK
    obtain ⟨⟨old, h1⟩, h2, h3, h4, h5⟩ := hst
    obtain ⟨xs, x, hq, hx⟩ := hg
    obtain ⟨us, rv, ht, hz⟩ := I.tuple hq
    obtain ⟨u, hu, ru⟩ := rv.get hx
    have lq : q < s.heap.objs.size := Heap.lt_size h1
    have li : it < s.heap.objs.size := by
      obtain ⟨o, z, _⟩ := h2
      exact Heap.lt_size z
    have dr : Draws X.prog X.w X.A.in1 it [it, a] us.toArray.size (fun i v => us.toArray[i]? = some v) (fun i h => h.IsTupleIter it a i ∧ h.IsTuple a us.toArray) := Draws.tuple (A := X.A.in1) (show X.A.in1.handled = none from I.ok.hd hc) it a h4 us.toArray
    have hlt : i < us.toArray.size := by
      have := (List.getElem?_eq_some_iff.mp hu).1
      simpa using this
    have nq : q ∉ [it, a] := fun z => by
      rcases List.mem_cons.mp z with z | z
      · exact h3 z
      · exact h5 (List.mem_singleton.mp z).symm
    refine wpAny_pyNext_enum_itemD dr h1 ⟨h2, ht⟩ hlt h3 nq fun y h' tk hy out hs' hT hsz hk => ?_
    have ey : y = u := by
      have z : us.toArray[i]? = some y := hy
      rw [show us.toArray[i]? = us[i]? by simp, hu] at z
      cases z
      rfl
    subst ey
    refine ⟨_, rfl, wpAny_letOwnedTupleGo_enum (s := { s with heap := h', toks := tk + 1 }) out fun h2' hen sb => ?_⟩
    have hT2 : h2'.get? s.heap.objs.size = some { cls := .type "tuple", data := .seq #[.int i tk, y] } := (sb.2 _ (Nat.ne_of_gt lq)).trans hT
    have new : ObjOk X.prog X.w (upd H s.heap.objs.size (.tup [.int (i : Nat), x])) h2' s.heap.objs.size (.tup [.int (i : Nat), x]) := by
      refine ⟨?_, [.int i tk, y], .cons ⟨_, rfl⟩ (.cons ru .nil), ⟨_, hT2, rfl, _, rfl⟩⟩
      show 2 ≤ sizeLine
      decide
    have kp : ∀ b o, b ∉ [q, it] → s.heap.get? b = some o → h2'.get? b = some o := fun b o hb z => by
      have b1 : b ≠ q := fun z => hb (by rw [z]; exact List.mem_cons_self)
      have b2 : b ≠ it := fun z => hb (by rw [z]; exact List.mem_cons_of_mem _ (List.mem_singleton.mpr rfl))
      exact (sb.2 b b1).trans (hk b o b1 b2 z)
    have J := I.turnedNew (t' := tk + 1) kp hf (Nat.le_refl _) new
    refine ⟨.ref s.heap.objs.size, _, J, rfl, ⟨_, x, rfl, I.hok.fresh (Nat.le_refl _), rfl, fun ys hy2 => by rw [I.tuple_inj hy2 hq]; exact hx⟩, ⟨⟨y, ?_⟩, ?_, h3, h4, h5⟩, fun b hb => ?_⟩
    · rw [show ((i + 1 : Nat) : Int) = (i : Int) + 1 by omega]
      exact hen
    · exact hs'.1.at fun o z => (sb.2 it (Ne.symm h3)).trans z
    · have lb : b < s.heap.objs.size := by
        rcases List.mem_cons.mp hb with z | z
        · rw [z]
          exact lq
        · rw [List.mem_singleton.mp z]
          exact li
      rw [upd_ne (Nat.ne_of_lt lb)]
      exact (hf b hb).1
  done := by
    intro X hP hw hK hc i pins s st H E I hf hst hg
    subst hP hw hK
    obtain ⟨⟨old, h1⟩, h2, h3, h4, h5⟩ := hst
    obtain ⟨xs, hq, hx⟩ := hg
    obtain ⟨us, rv, ht, hz⟩ := I.tuple hq
    obtain ⟨f0, f1, f2, f3, f4, f5⟩ := hf it (List.mem_cons_of_mem _ (List.mem_singleton.mpr rfl))
    have hl := rv.length
    have hT : s.TypeIs (.ref q) "enumerate" := ⟨_, h1, rfl⟩
    unfold pyNext
    refine wpAny_bind (wpAny_attempt (wpAny_callSpecial?_slot (name := Str.ofString "__next__") hT F.slot_enumerate_next (wpAny_call_entry F.slot_enumerate_next hT F.entry_enumerate_next ?_ (F.args_enumerate_next_1 _))))
    show wpAny _ _ (field (.ref q) 2 >>= _) _ _ _
    refine wpAny_bind (wpAny_field h1 rfl (x := .ref it) rfl ?_)
    refine wpAny_bind (wpAny_nextOf_tuple_end (I.ok.hd hc) h2 ht (by simp; omega) fun h' x he' hx' => ?_)
    obtain ⟨o, ho, hcl⟩ := hx'
    refine wpAny_bind (wpAny_isInstance (T := "StopIteration") (b := true) ⟨o, ho, hcl⟩ isSubtype_stop ?_)
    exact wpAny_pure ⟨rfl, I.turned (t' := s.toks) (fun b o hb z => he' b o hb z) f0 f1 f3 f4 f5⟩
  self := fun A i s Q E hst h => by
    obtain ⟨⟨_, h1⟩, _⟩ := hst
    exact wpAny_pyIter_enum h1 h
end Pu
namespace Pu
open PySem PySem.Spec PyProof.Rows L2 RZ
variable [TabT]
set_option maxHeartbeats 1000000 in
theorem meets_en1 {v : Value} {o : Obj} {Hh : Heap → Prop} (B : Begins v o Hh) : Meets (Builtin.«enumerate.__new__» ⟨[.type "enumerate", v], []⟩) (fun _ R s => Hh s.heap ∧
    R (.ok (.ret (.ref (s.heap.push o).objs.size))) { s with heap := (s.heap.push o).push { cls := .type "enumerate", data := .fields #[.none, .bool false, .ref s.heap.objs.size, rawInt 0, .none, .none] } }) :=
  .of_wp fun prog w A R s h => by
    obtain ⟨hp, gg, dd, tk, os⟩ := s
    obtain ⟨h1, h⟩ := h
    have hsub := sub_enumerate
    have q1 : ∀ {A' : Around} {E : Value → Shared → Prop} {Q : Value → Shared → Prop}, Q (.ref hp.objs.size) ⟨hp.push o, gg, dd, tk, os⟩ → wpAny (model prog w) A' (pyIter v) Q E ⟨hp, gg, dd, tk, os⟩ :=
      fun q => B.iter prog w _ _ ⟨hp, gg, dd, tk, os⟩ _ h1 q
    wp_walk using q1
    refine wpAny_stack_any fun sk => wpAny_pure ?_
    split
    · rename_i cc _ _ _ _ _
      cases (cc == Value.type "enumerate")
      · wp_walk using q1
        exact ⟨_, rfl, h⟩
      · wp_walk using q1
        exact ⟨_, rfl, h⟩
    · wp_walk using q1
      exact ⟨_, rfl, h⟩
theorem call_en {prog : Program} {w : World} {A : Around} {E : Value → Shared → Prop} {s : Shared} {v : Value} {o : Obj} {Hh : Heap → Prop} {Q : Value → Shared → Prop} (B : Begins v o Hh) (h1 : Hh s.heap)
    (h : ∀ h', IsEnum h' (s.heap.objs.size + 1) s.heap.objs.size 0 .none → h'.get? s.heap.objs.size = some o → (∀ b o, s.heap.get? b = some o → h'.get? b = some o) → Q (.ref (s.heap.objs.size + 1)) { s with heap := h' }) :
    wpAny (model prog w) A (call (.type "enumerate") [v]) Q E s := by
  refine callType_new F.called_enumerate (by decide) (F.typeCall_enumerate_1 _) (F.newCall_enumerate_1 _) (fun obj => F.args_object_init_2 obj _) F.entry_enumerate_new (meets_en1 B) ⟨h1, ?_⟩
  have hz : (s.heap.push o).objs.size = s.heap.objs.size + 1 := Heap.size_push ..
  show _ ∧ _
  rw [hz]
  have he : IsEnum ((s.heap.push o).push { cls := .type "enumerate", data := .fields #[.none, .bool false, .ref s.heap.objs.size, rawInt 0, .none, .none] }) (s.heap.objs.size + 1) s.heap.objs.size 0 .none := by
    have z := Heap.get?_push_size (s.heap.push o) (o := { cls := .type "enumerate", data := .fields #[.none, .bool false, .ref s.heap.objs.size, rawInt 0, .none, .none] }) rfl
    rw [hz] at z
    exact z
  exact ⟨⟨_, he, rfl⟩, h _ he (Heap.get?_push_of_some _ (Heap.get?_push_size _ B.free)) fun b o x => Heap.get?_push_of_some _ (Heap.get?_push_of_some _ x)⟩
def iEnT (K : PySem.W.Frag) (ta : TA) : TI := fun st H R => ta st H fun vs H1 => ∃ a xs, vs = [.ref a] ∧ SqT K H1 a xs ∧ R (ItE K a) H1
theorem pi_enT {X : Cx} {e : Expr} {ta : TA} {p pos tpos : Pos} {elts : List Expr} {kk : Nat} (hg : Gl X "enumerate") (hm : X.mg "enumerate" = none) (ha : PA X [e] ta) (hs : starEach [e] X.env = [(false, eval e X.env)] := by rfl) :
    PI X (.Tuple elts kk tpos) (.Call (.Name "enumerate" p) [e] [] pos) (iEnT X.K ta) := by
  refine ⟨fun pins s st H R I h => ?_⟩
  refine Call_ (ld_blt I hg hm boot_enumerate (PyProof.Rows.callWith_type1 (thn (ha.run pos pins s st H _ I h) fun us s1 hh => ?_) hs rfl))
  obtain ⟨vs, H1, I1, r1, a, xs, ex, hq, q⟩ := hh
  subst ex
  cases r1 with
  | cons ra rr =>
    cases rr
    cases ra
    obtain ⟨its, rv, ht, hz⟩ := I1.tuple hq
    have la : a < s1.heap.objs.size := ht.lt
    refine call_en (begins_tuple a its.toArray) ht fun h' hen hit kp => wpAny_pyIter_enum hen ?_
    have I2 : Inv X pins st H1 { s1 with heap := h' } := I1.kept (t' := s1.toks) kp
    refine ⟨s1.heap.objs.size + 1, [s1.heap.objs.size + 1, s1.heap.objs.size], _, _, H1, rfl, I2, turn_en a (s1.heap.objs.size + 1) s1.heap.objs.size, ⟨⟨.none, hen⟩, ⟨_, hit, rfl, rfl⟩, Nat.succ_ne_self _, Nat.ne_of_lt la, Nat.ne_of_lt (Nat.lt_succ_of_lt la)⟩, fun b hb => ?_, q⟩
    have lb : s1.heap.objs.size ≤ b := by
      rcases List.mem_cons.mp hb with z | z
      · rw [z]
        exact Nat.le_succ _
      · rw [List.mem_singleton.mp z]
        exact Nat.le_refl _
    exact I1.fpOk lb (I1.hok.fresh lb)
/-- the pairs (k, d) -/
def enF : Nat → List D → List D
  | _, [] => []
  | k, d :: ds => .tuple [.int (k : Nat), d] :: enF (k + 1) ds
theorem enF_len : ∀ (k : Nat) (ds : List D), (enF k ds).length = ds.length
  | _, [] => rfl
  | k, d :: ds => congrArg Nat.succ (enF_len (k + 1) ds)
theorem enF_get : ∀ (k : Nat) (ds : List D) (i : Nat), (enF k ds)[i]? = (ds[i]?).map fun d => .tuple [.int ((k + i : Nat) : Int), d]
  | _, [], _ => rfl
  | k, d :: ds, 0 => rfl
  | k, d :: ds, i + 1 => by
    show (enF (k + 1) ds)[i]? = (ds[i]?).map _
    rw [enF_get (k + 1) ds i, show k + 1 + i = k + (i + 1) by omega]
def enOf : List D → Option (List D)
  | [d] => (seqOf d).map (enF 0)
  | _ => none
theorem enF_some {ds : List D} {i : Nat} {d : D} (h : (enF 0 ds)[i]? = some d) : ∃ x, ds[i]? = some x ∧ d = .tuple [.int (i : Nat), x] := by
  rw [enF_get, Nat.zero_add] at h
  cases hd : ds[i]? with
  | none =>
    rw [hd] at h
    cases h
  | some x =>
    rw [hd] at h
    cases h
    exact ⟨x, rfl, rfl⟩
theorem yl_enL {K : PySem.W.Frag} {F : Hp} {a : Addr} {vs : List V} {ds : List D} (h : SqL K F a vs) (hr : RpAll K F vs ds) : Yl K F (Ite K a) (enF 0 ds) where
  go := fun i H hi e => by
    rw [enF_len] at hi
    have hl := dpa_len hr
    exact ⟨vs, vs[i]'(by omega), e.l h, List.getElem?_eq_getElem (by omega)⟩
  stop := fun H e => ⟨vs, e.l h, by rw [enF_len, dpa_len hr]; exact Nat.le_refl _⟩
  yld := fun i H x H' d hd e hy => by
    obtain ⟨T, y, rfl, nT, rfl, q⟩ := hy
    obtain ⟨dx, h1, rfl⟩ := enF_some hd
    obtain ⟨v, h2, h3⟩ := dpa_get hr h1
    have z := q vs (e.l h)
    rw [h2] at z
    cases z
    exact .inr ⟨T, _, _, rfl, nT, rfl, rfl, .cons (.int _) (.cons h3 .nil)⟩
theorem yl_enT {K : PySem.W.Frag} {F : Hp} {a : Addr} {vs : List V} {ds : List D} (h : SqT K F a vs) (hr : RpAll K F vs ds) : Yl K F (ItE K a) (enF 0 ds) where
  go := fun i H hi e => by
    rw [enF_len] at hi
    have hl := dpa_len hr
    exact ⟨vs, vs[i]'(by omega), e.t h, List.getElem?_eq_getElem (by omega)⟩
  stop := fun H e => ⟨vs, e.t h, by rw [enF_len, dpa_len hr]; exact Nat.le_refl _⟩
  yld := fun i H x H' d hd e hy => by
    obtain ⟨T, y, rfl, nT, rfl, q⟩ := hy
    obtain ⟨dx, h1, rfl⟩ := enF_some hd
    obtain ⟨v, h2, h3⟩ := dpa_get hr h1
    have z := q vs (e.t h)
    rw [h2] at z
    cases z
    exact .inr ⟨T, _, _, rfl, nT, rfl, rfl, .cons (.int _) (.cons h3 .nil)⟩
section
variable {X : Cx} {c : Cc}
theorem i_enum {e : Expr} {ms : M (List D)} {p pos tpos : Pos} {elts : List Expr} {kk : Nat} (ha : PA X [e] (tA c ms)) (hm : X.mg "enumerate" = none) (hK : c.K = X.K := by rfl) (hg : Gl X "enumerate" := by rfl) (hs : starEach [e] X.env = [(false, eval e X.env)] := by rfl) :
    PI X (.Tuple elts kk tpos) (.Call (.Name "enumerate" p) [e] [] pos) (iM c (iBy enOf ms)) :=
  pi_cq (pi_or (pi_enum hg hm ha hs) (pi_enT hg hm ha hs)) fun st H R ⟨pa, H0, F0, F, r, ok, po⟩ => by
    have po : Po (XW c pa H0 F0 F) ((ms r).bind fun ds => M.opt (enOf ds)) _ := po
    cases hm : ms r with
    | no =>
      rw [hm] at po
      exact po.elim
    | ex e r1 =>
      rw [hm] at po
      exact .inl ⟨pa, H0, F0, F, r, ok, by rw [hm]; exact po⟩
    | ok ds r1 =>
      rw [hm] at po
      obtain ⟨xs, hx, q⟩ := opt_po (show Po (XW c pa H0 F0 F) (M.opt (enOf ds) r1) _ from po)
      unfold enOf at hx
      split at hx
      · rename_i d
        cases d with
        | list ys =>
          cases hx
          refine .inl ⟨pa, H0, F0, F, r, ok, ?_⟩
          rw [hm]
          intro F' H' vs k e dps
          obtain ⟨v, rfl, dp⟩ := rpa_one dps
          cases dp with
          | @lst a us _ h1 h2 => exact ⟨a, us, rfl, by rw [← hK]; exact k.fH.l h1, q F' H' _ k e (by rw [← hK]; exact yl_enL h1 h2)⟩
        | tuple ys =>
          cases hx
          refine .inr ⟨pa, H0, F0, F, r, ok, ?_⟩
          rw [hm]
          intro F' H' vs k e dps
          obtain ⟨v, rfl, dp⟩ := rpa_one dps
          cases dp with
          | @tup a us _ h1 h2 => exact ⟨a, us, rfl, by rw [← hK]; exact k.fH.t h1, q F' H' _ k e (by rw [← hK]; exact yl_enT h1 h2)⟩
        | _ => cases hx
      · cases hx
/-! zip of two lists, of two tuples -/
def zipD (xs ys : List D) : List D := List.zipWith (fun x y => .tuple [x, y]) xs ys
def zipOf : List D → Option (List D)
  | [.list xs, .list ys] => some (zipD xs ys)
  | [.tuple xs, .tuple ys] => some (zipD xs ys)
  | _ => none
theorem zipD_some {xs ys : List D} {i : Nat} {d : D} (h : (zipD xs ys)[i]? = some d) : ∃ x y, xs[i]? = some x ∧ ys[i]? = some y ∧ d = .tuple [x, y] := by
  unfold zipD at h
  rw [List.getElem?_zipWith] at h
  cases h1 : xs[i]? with
  | none =>
    rw [h1] at h
    cases h
  | some x =>
    cases h2 : ys[i]? with
    | none =>
      rw [h1, h2] at h
      cases h
    | some y =>
      rw [h1, h2] at h
      cases h
      exact ⟨x, y, rfl, rfl, rfl⟩
theorem zipD_len (xs ys : List D) : (zipD xs ys).length = min xs.length ys.length := List.length_zipWith
theorem yl_zipL {K : PySem.W.Frag} {F : Hp} {a b : Addr} {vs ws : List V} {ds es : List D} (h : SqL K F a vs) (hr : RpAll K F vs ds) (h' : SqL K F b ws) (hr' : RpAll K F ws es) : Yl K F (Itz K a b) (zipD ds es) where
  go := fun i H hi e => by
    rw [zipD_len] at hi
    have hl := dpa_len hr
    have hl' := dpa_len hr'
    exact ⟨vs, ws, vs[i]'(by omega), ws[i]'(by omega), e.l h, e.l h', List.getElem?_eq_getElem (by omega), List.getElem?_eq_getElem (by omega)⟩
  stop := fun H e => ⟨vs, ws, e.l h, e.l h', by rw [zipD_len, dpa_len hr, dpa_len hr']; omega⟩
  yld := fun i H x H' d hd e hy => by
    obtain ⟨T, y1, y2, rfl, nT, rfl, q1, q2⟩ := hy
    obtain ⟨d1, d2, g1, g2, rfl⟩ := zipD_some hd
    obtain ⟨v, h2, h3⟩ := dpa_get hr g1
    obtain ⟨w, h4, h5⟩ := dpa_get hr' g2
    have z1 := q1 vs (e.l h)
    have z2 := q2 ws (e.l h')
    rw [h2] at z1
    rw [h4] at z2
    cases z1
    cases z2
    exact .inr ⟨T, _, _, rfl, nT, rfl, rfl, .cons h3 (.cons h5 .nil)⟩
theorem yl_zipT {K : PySem.W.Frag} {F : Hp} {a b : Addr} {vs ws : List V} {ds es : List D} (h : SqT K F a vs) (hr : RpAll K F vs ds) (h' : SqT K F b ws) (hr' : RpAll K F ws es) : Yl K F (ItzT K a b) (zipD ds es) where
  go := fun i H hi e => by
    rw [zipD_len] at hi
    have hl := dpa_len hr
    have hl' := dpa_len hr'
    exact ⟨vs, ws, vs[i]'(by omega), ws[i]'(by omega), e.t h, e.t h', List.getElem?_eq_getElem (by omega), List.getElem?_eq_getElem (by omega)⟩
  stop := fun H e => ⟨vs, ws, e.t h, e.t h', by rw [zipD_len, dpa_len hr, dpa_len hr']; omega⟩
  yld := fun i H x H' d hd e hy => by
    obtain ⟨T, y1, y2, rfl, nT, rfl, q1, q2⟩ := hy
    obtain ⟨d1, d2, g1, g2, rfl⟩ := zipD_some hd
    obtain ⟨v, h2, h3⟩ := dpa_get hr g1
    obtain ⟨w, h4, h5⟩ := dpa_get hr' g2
    have z1 := q1 vs (e.t h)
    have z2 := q2 ws (e.t h')
    rw [h2] at z1
    rw [h4] at z2
    cases z1
    cases z2
    exact .inr ⟨T, _, _, rfl, nT, rfl, rfl, .cons h3 (.cons h5 .nil)⟩
theorem i_zip {e e2 : Expr} {ms : M (List D)} {p pos tpos : Pos} {elts : List Expr} {kk : Nat} (ha : PA X [e, e2] (tA c ms)) (hm : X.mg "zip" = none) (hK : c.K = X.K := by rfl) (hg : Gl X "zip" := by rfl) (hs : starEach [e, e2] X.env = (false, eval e X.env) :: starEach [e2] X.env := by rfl) (hpl : (backTo pos (starEach [e2] X.env)).any (·.1) = false := by rfl) :
    PI X (.Tuple elts kk tpos) (.Call (.Name "zip" p) [e, e2] [] pos) (iM c (iBy zipOf ms)) :=
  pi_cq (pi_zipA hg hm ha hs hpl) fun st H R ⟨pa, H0, F0, F, r, ok, po⟩ => seqA ok po fun ds r1 F1 H1 vs k1 e1 dps q => by
    obtain ⟨xs, hx, q⟩ := opt_po q
    unfold zipOf at hx
    split at hx
    · cases hx
      obtain ⟨v, w, rfl, d, d2⟩ := rpa_two dps
      cases d with
      | @lst a us _ h1 h2 =>
        cases d2 with
        | @lst b ws _ h3 h4 => exact ⟨a, b, us, ws, rfl, .inl ⟨by rw [← hK]; exact k1.fH.l h1, by rw [← hK]; exact k1.fH.l h3, q F1 H1 _ k1 e1 (by rw [← hK]; exact yl_zipL h1 h2 h3 h4)⟩⟩
    · cases hx
      obtain ⟨v, w, rfl, d, d2⟩ := rpa_two dps
      cases d with
      | @tup a us _ h1 h2 =>
        cases d2 with
        | @tup b ws _ h3 h4 => exact ⟨a, b, us, ws, rfl, .inr ⟨by rw [← hK]; exact k1.fH.t h1, by rw [← hK]; exact k1.fH.t h3, q F1 H1 _ k1 e1 (by rw [← hK]; exact yl_zipT h1 h2 h3 h4)⟩⟩
    · cases hx
end
/-! ### list comprehensions -/
def wipeE (r : En) : List Nat → En
  | [] => r
  | i :: is => (wipeE r is).set i .unk
/-- behind the block: the block's own slots as they were -/
def backE (r : En) (q : En) : List Nat → En
  | [] => q
  | i :: is => (backE r q is).set i (r.getD i .unk)
def noOwn (r : En) (is : List Nat) : Bool := is.all fun i => match r[i]? with
  | some s => s.own.isNone
  | none => false
def compL (is : List Nat) (tg : Tg) (tt : M Bool) (te : M D) : List D → List D → M (List D)
  | [], acc, r => .ok acc r
  | x :: xs, acc, r => match tg x (wipeE r is) with
    | none => .no
    | some r1 => match tt r1 with
      | .ok true r2 => (match te r2 with
        | .ok y r3 => if acc.length < 16777216 then compL is tg tt te xs (acc ++ [y]) r3 else .no
        | _ => .no)
      | .ok false r2 => compL is tg tt te xs acc r2
      | _ => .no
def oComp (src : M (List D)) (is : List Nat) (tg : Tg) (tt : M Bool) (te : M D) : M RV := src.bind fun xs r => if noOwn r is = true then (match compL is tg tt te xs [] r with
  | .ok ys q => .ok (.o (.l ys)) (backE r (wipeE q is) is)
  | _ => .no) else .no
def yes : M Bool := M.ret true
theorem wipe_get {st : L2.St} {j : Nat} : ∀ {is : List Nat}, (wipe st is)[j]? = if j ∈ is then (if j < st.length then some none else none) else st[j]?
  | [] => by simp [wipe]
  | i :: is => by
    unfold wipe
    by_cases e : i = j
    · subst e
      rw [if_pos (List.mem_cons_self), List.getElem?_set_self']
      by_cases hl : i < st.length
      · rw [if_pos hl, List.getElem?_eq_getElem (by rw [wipe_length]; exact hl)]
        rfl
      · rw [if_neg hl, List.getElem?_eq_none (by rw [wipe_length]; omega)]
        rfl
    · rw [List.getElem?_set_ne e, wipe_get (is := is)]
      have : (j ∈ i :: is) ↔ j ∈ is := by
        rw [List.mem_cons]
        exact ⟨fun h => h.elim (fun z => absurd z.symm e) id, .inr⟩
      by_cases hj : j ∈ is
      · rw [if_pos hj, if_pos (this.mpr hj)]
      · rw [if_neg hj, if_neg (fun z => hj (this.mp z))]
theorem wipeE_len (r : En) : ∀ is : List Nat, (wipeE r is).length = r.length
  | [] => rfl
  | i :: is => by
    unfold wipeE
    rw [List.length_set, wipeE_len r is]
theorem backE_len (r q : En) : ∀ is : List Nat, (backE r q is).length = q.length
  | [] => rfl
  | i :: is => by
    unfold backE
    rw [List.length_set, backE_len r q is]
theorem backE_get {r q : En} {j : Nat} : ∀ {is : List Nat}, (backE r q is)[j]? = if j ∈ is then (if j < q.length then some (r.getD j .unk) else none) else q[j]?
  | [] => by simp [backE]
  | i :: is => by
    unfold backE
    by_cases e : i = j
    · subst e
      rw [if_pos (List.mem_cons_self), List.getElem?_set_self']
      by_cases hl : i < q.length
      · rw [if_pos hl, List.getElem?_eq_getElem (by rw [backE_len]; exact hl)]
        rfl
      · rw [if_neg hl, List.getElem?_eq_none (by rw [backE_len]; omega)]
        rfl
    · rw [List.getElem?_set_ne e, backE_get (is := is)]
      have : (j ∈ i :: is) ↔ j ∈ is := by
        rw [List.mem_cons]
        exact ⟨fun h => h.elim (fun z => absurd z.symm e) id, .inr⟩
      by_cases hj : j ∈ is
      · rw [if_pos hj, if_pos (this.mpr hj)]
      · rw [if_neg hj, if_neg (fun z => hj (this.mp z))]
section
variable {K : PySem.W.Frag} {pa : Nat → Addr} {H0 F0 F H : Hp} {st : L2.St} {r : En}
omit [TabT] in
theorem Nob.wiped {a : Addr} (h : Nob H st r a) : ∀ is : List Nat, Nob H (wipe st is) (wipeE r is) a
  | [] => h
  | i :: is => (Nob.wiped h is).unk
theorem Ok.wiped (k : Ok K pa H0 F0 F H st r) : ∀ is : List Nat, Ok K pa H0 F0 F H (wipe st is) (wipeE r is)
  | [] => k
  | i :: is => (Ok.wiped k is).forget
/-- an object that is nobody's changes -/
theorem Ok.aside (k : Ok K pa H0 F0 F H st r) {p : Addr} {o : HO} (n0 : H0 p = none) (nF : F p = none) (nO : Nob H st r p) (tb : LamX.Tabs (TabT.T K) (upd H p o)) : Ok K pa H0 F0 F (upd H p o) st r where
  hH := k.hH.mut n0
  fF := k.fF
  fH := k.fH.mut nF
  sep := k.sep
  len := k.len
  sl := fun i s h n => by
    obtain ⟨v, h1, h2⟩ := k.sl i s h n
    refine ⟨v, h1, ?_⟩
    cases s with
    | unk => trivial
    | pin => exact h2
    | v d => exact h2
    | o ct =>
      obtain ⟨a, rfl, z1, z2, z3⟩ := h2
      obtain ⟨ne, ni⟩ := nO i _ ct a h rfl (by rw [h1])
      exact ⟨a, rfl, z1, z2, z3.mono (Ex.refl F) (upd_ne ne) fun b hb => upd_ne fun z => ni (z ▸ hb)⟩
    | io ct =>
      obtain ⟨rfl, z1, z2, z3⟩ := h2
      obtain ⟨ne, ni⟩ := nO i _ ct _ h rfl (by rw [h1])
      exact ⟨rfl, z1, z2, z3.mono (Ex.refl F) (upd_ne ne) fun b hb => upd_ne fun z => ni (z ▸ hb)⟩
  tb := tb
  dis := k.dis
  inn := fun i s c a b h1 h2 h3 h4 => by
    obtain ⟨f1, f2, f3⟩ := k.inn i s c a b h1 h2 h3 (h4.cg (upd_ne (nO i s c a h1 h2 h3).1).symm)
    exact ⟨f1, f2, fun j q c' a' g1 g2 g3 => by
      obtain ⟨y1, y2⟩ := f3 j q c' a' g1 g2 g3
      exact ⟨y1, fun nj n => y2 nj (n.cg (upd_ne (nO j q c' a' g1 g2 g3).1).symm)⟩⟩
/-- the block's end -/
theorem Ok.back (k : Ok K pa H0 F0 F H st r) {F' H' : Hp} {q : En} {is : List Nat} (hn : noOwn r is = true) (e : Ex F F') (k2 : Ok K pa H0 F0 F' H' (wipe st is) (wipeE q is)) : Ok K pa H0 F0 F' H' st (backE r (wipeE q is) is) := by
  have l1 : st.length = q.length := by
    have := k2.len
    rw [wipe_length, wipeE_len] at this
    exact this
  have l2 := k.len
  have own : ∀ (j : Nat) (s : Sl) (c : Ct), (backE r (wipeE q is) is)[j]? = some s → s.own = some c → j ∉ is ∧ (wipeE q is)[j]? = some s := fun j s c h hc => by
    rw [backE_get] at h
    by_cases hj : j ∈ is
    · rw [if_pos hj] at h
      have hz := List.all_eq_true.mp hn j hj
      split at h
      · cases h
        rw [List.getD_eq_getElem?_getD] at hc
        cases hr : r[j]? with
        | none =>
          rw [hr] at hz
          cases hz
        | some x =>
          rw [hr] at hz hc
          have hz : x.own.isNone = true := hz
          have hc : x.own = some c := hc
          rw [hc] at hz
          cases hz
      · cases h
    · rw [if_neg hj] at h
      exact ⟨hj, h⟩
  refine ⟨k2.hH, k2.fF, k2.fH, k2.sep, by rw [backE_len, wipeE_len]; exact l1, fun j s h n => ?_, k2.tb, fun i j s q2 c c' a ne h1 h2 o1 o2 s1 s2 => ?_, fun i s c a b h1 h2 h3 h4 => ?_⟩
  · by_cases hj : j ∈ is
    · rw [backE_get, if_pos hj] at h
      split at h
      · cases h
        rw [List.getD_eq_getElem?_getD] at n ⊢
        have hz := List.all_eq_true.mp hn j hj
        cases hr : r[j]? with
        | none =>
          rw [hr] at hz
          cases hz
        | some x =>
          rw [hr] at n
          have n : x ≠ .unk := n
          obtain ⟨v, z1, z2⟩ := k.sl j x hr n
          refine ⟨v, z1, ?_⟩
          rw [hr] at hz
          show SlOk K (pa j) H0 F' H' v x
          cases x with
          | unk => trivial
          | pin => exact z2
          | v d => exact dp_mono e z2
          | o ct => cases hz
          | io ct => cases hz
      · cases h
    · have h2 := h
      rw [backE_get, if_neg hj] at h2
      obtain ⟨v, z1, z2⟩ := k2.sl j s h2 n
      rw [wipe_get, if_neg hj] at z1
      exact ⟨v, z1, z2⟩
  · obtain ⟨g1, g2⟩ := own i s c h1 o1
    obtain ⟨g3, g4⟩ := own j q2 c' h2 o2
    exact k2.dis i j s q2 c c' a ne g2 g4 o1 o2 (by rw [wipe_get, if_neg g1]; exact s1) (by rw [wipe_get, if_neg g3]; exact s2)
  · obtain ⟨g1, g2⟩ := own i s c h1 h2
    obtain ⟨f1, f2, f3⟩ := k2.inn i s c a b g2 h2 (by rw [wipe_get, if_neg g1]; exact h3) h4
    refine ⟨f1, f2, fun j q2 c' a' w1 w2 w3 => ?_⟩
    obtain ⟨g3, g4⟩ := own j q2 c' w1 w2
    exact f3 j q2 c' a' g4 w2 (by rw [wipe_get, if_neg g3]; exact w3)
end
theorem wipe_eq {st st' : L2.St} {is : List Nat} (hl : st'.length = st.length) (h : ∀ j, j ∉ is → st'[j]? = (wipe st is)[j]?) : wipe st' is = wipe st is := by
  apply List.ext_getElem?
  intro j
  rw [wipe_get]
  by_cases hj : j ∈ is
  · rw [if_pos hj, wipe_get, if_pos hj, hl]
  · rw [if_neg hj, h j hj]
theorem compL_cons {is : List Nat} {tg : Tg} {tt : M Bool} {te : M D} {x : D} {xs acc ys : List D} {r q : En} (h : compL is tg tt te (x :: xs) acc r = .ok ys q) :
    ∃ r1, tg x (wipeE r is) = some r1 ∧ ((∃ r2 y r3, tt r1 = .ok true r2 ∧ te r2 = .ok y r3 ∧ acc.length < 16777216 ∧ compL is tg tt te xs (acc ++ [y]) r3 = .ok ys q) ∨ ∃ r2, tt r1 = .ok false r2 ∧ compL is tg tt te xs acc r2 = .ok ys q) := by
  unfold compL at h
  split at h
  · cases h
  · rename_i r1 h1
    refine ⟨r1, h1, ?_⟩
    split at h
    · rename_i r2 h2
      split at h
      · rename_i y r3 h3
        split at h
        · exact .inl ⟨r2, y, r3, h2, h3, by assumption, h⟩
        · cases h
      · cases h
    · rename_i r2 h2
      exact .inr ⟨r2, h2, h⟩
    · cases h
abbrev Cc.nox (c : Cc) : Cc := { c with W := fun _ _ _ _ => False }
section
variable {X : Cx} {c : Cc}
/-- the block's reading from the mirror -/
theorem lc_ok {src : M (List D)} {is js : List Nat} {t : Tg} {tt : M Bool} {te : M D} {st : L2.St} {H : Hp} {Q : VK} (hjs : ∀ j ∈ js, j ∈ is) (h : tO c (oComp src is t tt te) st H Q) :
    tLc (iM c src) (gM c.K js t) (tT c.nox tt) (tM c.nox te) is st H Q := by
  obtain ⟨pa, H0, F0, F, r, ok, po⟩ := h
  refine ⟨pa, H0, F0, F, r, ok, (Po.bind po).mono (fun _ _ x => x) fun xs r1 q F1 H1 J k1 e1 y Dd nD => ?_⟩
  by_cases hn : noOwn r1 is = true
  case neg =>
    rw [if_neg hn] at q
    exact q.elim
  rw [if_pos hn] at q
  cases hcl : compL is t tt te xs [] r1 with
  | no =>
    rw [hcl] at q
    exact q.elim
  | ex ee rr =>
    rw [hcl] at q
    exact q.elim
  | ok ys qe =>
    rw [hcl] at q
    have n0 : H0 Dd = none := k1.hH.nn nD
    have nF1 : F1 Dd = none := k1.fH.nn nD
    have nF0 : F0 Dd = none := k1.fF.nn nF1
    have kw := (k1.wiped is)
    refine ⟨fun i m H => i + m = xs.length ∧ ∃ F' q acc vs, Ok c.K pa H0 F0 F' H (wipe st is) (wipeE q is) ∧ Ex F1 F' ∧ H Dd = some (.lst vs) ∧ RpAll c.K F' vs acc ∧ F' Dd = none ∧ Nob H (wipe st is) (wipeE q is) Dd ∧ compL is t tt te (xs.drop i) acc q = .ok ys qe,
      ⟨xs.length, by omega, F1, r1, [], [], kw.aside n0 nF1 (kw.nobody nD) (tabs_new kw.tb nD), Ex.refl F1, upd_same, .nil, nF1, (kw.nobody nD).upd, hcl⟩, fun i m H hW => ?_⟩
    obtain ⟨hm, F', q', acc, vs, k, e, hD, hv, nF, nO, hc⟩ := hW
    by_cases hl : i < xs.length
    · have hx : xs[i]? = some xs[i] := List.getElem?_eq_getElem hl
      rw [drop_cons hx] at hc
      obtain ⟨r2, ht, hrest⟩ := compL_cons hc
      refine .inr ⟨y.go i H hl (e.trans k.fH), fun H2 => ∃ F' q acc vs, Ok c.K pa H0 F0 F' H2 (wipe st is) (wipeE q is) ∧ Ex F1 F' ∧ H2 Dd = some (.lst vs) ∧ RpAll c.K F' vs acc ∧ F' Dd = none ∧ Nob H2 (wipe st is) (wipeE q is) Dd ∧ compL is t tt te (xs.drop (i + 1)) acc q = .ok ys qe,
        fun H2 z => ⟨m - 1, by omega, by omega, z⟩, fun x H2 hy => ?_⟩
      -- the frame with the list that is made
      have kf : Ok c.K pa (upd H0 Dd (.lst vs)) F0 F' H (wipe st is) (wipeE q' is) := k.frame ⟨fun a o z nt => by
          by_cases ha : a = Dd
          · subst ha
            rw [upd_same] at z
            rw [hD]
            exact z
          · rw [upd_ne ha] at z
            exact k.hH.at_ a o z nt, fun a ps z => by
          by_cases ha : a = Dd
          · subst ha
            rw [upd_same] at z
            cases z
          · rw [upd_ne ha] at z
            exact k.hH.tb a ps z⟩ (fun a z1 z2 => by
          by_cases ha : a = Dd
          · subst ha
            exact absurd nF z2
          · rw [upd_ne ha] at z1
            exact k.sep a z1 z2) (fun j s ct a hj hct hst => by
          obtain ⟨na, ni⟩ := nO j s ct a hj hct hst
          rw [upd_ne na]
          obtain ⟨a', g1, g2, g3, g4⟩ := k.ownd hj hct
          rw [hst] at g1
          cases g1
          exact ⟨g3, fun b hb => by
            have nb : b ≠ Dd := fun z => ni (z ▸ hb)
            rw [upd_ne nb]
            exact (k.inn j s ct a b hj hct hst hb).2.1⟩)
      obtain ⟨F2, k2, e2, dp2⟩ := y.step kf e hx hy
      -- back to the old frame
      have unframe : ∀ {F3 H3 : Hp} {st3 : L2.St} {r3 : En}, Ok c.K pa (upd H0 Dd (.lst vs)) F0 F3 H3 st3 r3 → Ok c.K pa H0 F0 F3 H3 st3 r3 ∧ H3 Dd = some (.lst vs) ∧ F3 Dd = none ∧ Nob H3 st3 r3 Dd := fun {F3 H3 st3 r3} k3 => by
        have h0 : Ex H0 (upd H0 Dd (.lst vs)) := Ex.new n0
        refine ⟨k3.frame (h0.trans k3.hH) (fun a z1 z2 => k3.sep a (by
          cases hz : H0 a with
          | none => exact absurd hz z1
          | some o => exact (h0.some hz).elim fun _ q => ne_none q) z2) (fun j s ct a hj hct hst => ?_), k3.hH.at_ Dd _ upd_same (fun ps z => nomatch z), none_of_not fun z => k3.sep Dd (ne_none upd_same) z nF0, fun j s ct a hj hct hst => ⟨?_, ?_⟩⟩
        · obtain ⟨a', g1, g2, g3, g4⟩ := k3.ownd hj hct
          rw [hst] at g1
          cases g1
          exact ⟨h0.nn g3, fun b hb => h0.nn (k3.inn j s ct a b hj hct hst hb).2.1⟩
        · obtain ⟨a', g1, g2, g3, g4⟩ := k3.ownd hj hct
          rw [hst] at g1
          cases g1
          intro z
          subst z
          rw [upd_same] at g3
          cases g3
        · intro z
          have g3 := (k3.inn j s ct a Dd hj hct hst z).2.1
          rw [upd_same] at g3
          cases g3
      refine ⟨pa, _, F0, F2, _, xs[i], r2, k2, dp2, ht, fun st3 k3 ag => ?_⟩
      have hw : wipe st3 is = wipe st is := wipe_eq (by rw [ag.1, wipe_length]) fun j hj => ag.2 j fun z => hj (hjs j z)
      refine ⟨hw, ?_⟩
      rcases hrest with ⟨r3, yv, r4, h1, h2, h3, h4⟩ | ⟨r3, h1, h4⟩
      · refine ⟨pa, _, F0, F2, r2, k3, ?_⟩
        rw [h1]
        intro F4 H4 k4 e4
        show tM c.nox te st3 H4 _
        refine ⟨pa, _, F0, F4, r3, k4, ?_⟩
        rw [h2]
        intro F5 H5 v k5 e5 dp5
        obtain ⟨k6, hD6, nF6, nO6⟩ := unframe k5
        refine ⟨vs, hD6, by rw [dpa_len hv, sizeLine_eq]; exact h3, F5, r4, acc ++ [yv], vs ++ [v], ?_, ((e.trans e2).trans e4).trans e5, upd_same, dpa_app (dpa_mono ((e2.trans e4).trans e5) hv) (.cons dp5 .nil), nF6, ?_, h4⟩
        · have k7 := (k6.aside n0 nF6 nO6 (o := .lst (vs ++ [v])) (tabs_lst k6.tb hD6)).wiped is
          rw [hw] at k7
          exact k7
        · rw [← hw]
          exact (nO6.wiped is).upd
      · refine ⟨pa, _, F0, F2, r2, k3, ?_⟩
        rw [h1]
        intro F4 H4 k4 e4
        obtain ⟨k6, hD6, nF6, nO6⟩ := unframe k4
        show ∃ F' q acc vs, _
        refine ⟨F4, r3, acc, vs, ?_, (e.trans e2).trans e4, hD6, dpa_mono (e2.trans e4) hv, nF6, ?_, h4⟩
        · have k7 := k6.wiped is
          rw [hw] at k7
          exact k7
        · rw [← hw]
          exact nO6.wiped is
    · have ei : i = xs.length := by omega
      subst ei
      rw [List.drop_length] at hc
      cases hc
      have kb := k1.back hn e k
      refine .inl ⟨y.stop H (e.trans k.fH), q F' H _ kb (e1.trans e) ⟨Dd, rfl, nF, n0, ⟨vs, hD, hv⟩, .l fun j s ct a hj hct hst => ?_⟩⟩
      rw [backE_get] at hj
      by_cases hji : j ∈ is
      · rw [if_pos hji] at hj
        split at hj
        · cases hj
          have hz := List.all_eq_true.mp hn j hji
          rw [List.getD_eq_getElem?_getD] at hct
          cases hr : r1[j]? with
          | none =>
            rw [hr] at hz
            cases hz
          | some x =>
            rw [hr] at hz hct
            have hz : x.own.isNone = true := hz
            have hct : x.own = some ct := hct
            rw [hct] at hz
            cases hz
        · cases hj
      · rw [if_neg hji] at hj
        exact nO j s ct a hj hct (by rw [wipe_get, if_neg hji]; exact hst)
theorem o_lc {elt tg iter : Expr} {ifs : List Expr} {scope : Scope} {own : List (Str × Nat)} {pos : Pos} {src : M (List D)} {js : List Nat} {t : Tg} {tt : M Bool} {te : M D} (hi : PI X tg iter (iM c src)) (ok : BlkOk X.N X.env.scope scope own)
    (hg : ∀ (s : Shared) (H : Hp) (C : Addr) (cl : List (Str × Addr)) (fp : List Addr), PG (X.blk s H scope (compEnvC scope cl C X.env) fp) tg (gM c.K js t)) (ht : ∀ (s : Shared) (H : Hp) (C : Addr) (cl : List (Str × Addr)) (fp : List Addr), PTs (X.blk s H scope (compEnvC scope cl C X.env) fp) ifs (tT c.nox tt))
    (he : ∀ (s : Shared) (H : Hp) (C : Addr) (cl : List (Str × Addr)) (fp : List Addr), PE (X.blk s H scope (compEnvC scope cl C X.env) fp) elt (tM c.nox te)) (hN : X.N.Nodup) (hjs : ∀ j ∈ js, j ∈ own.map (·.2) := by decide) (hc : X.calm = true := by rfl) (hs : ∀ x, foldedSetIterable iter X.env x = pure x := by intro _; rfl) :
    PE X (.ListComp elt [⟨tg, iter, ifs, 0⟩] scope pos) (tO c (oComp src (own.map (·.2)) t tt te)) :=
  pe_cq (pe_lc hc hN hi ok hg ht he hs) fun st H Q h => lc_ok hjs h
theorem ts_nil : PTs X [] (tT c yes) := ⟨fun pins s st H Q I h => (pts_nil (X := X)).run pins s st H Q I (by
  obtain ⟨pa, H0, F0, F, r, ok, po⟩ := h
  exact po F H ok (Ex.refl F))⟩
theorem ts_one {e : Expr} {m : M Bool} (h : PT X e (tT c m)) : PTs X [e] (tT c m) := pts_one h
end
end Pu
namespace Pu
open PySem PySem.Spec PyProof.Rows L2
variable [TabT]
/-! ### what a def promises -/
def ArgsOk (rs : List Sl) : Prop := ∀ s ∈ rs, (∃ d, s = .v d) ∨ ∃ ct, s = .io ct
def spG (K : PySem.W.Frag) (mg : Str → Option Value) (n : Nat) (f : List Sl → Re RV) : Sp := fun vs H Q E => vs.length = n ∧ ∃ pa Hk F rs, Ok K pa Hk F F H (vs.map some) rs ∧ ArgsOk rs ∧
  Po (fun e rs' => ∀ F' H' cls dd, Ok K pa Hk F F' H' (vs.map some) rs' → ExOk ⟨K, mg, fun _ _ _ _ => True⟩ F' H' e cls dd → E cls dd H') (f rs)
    fun rv rs' => ∀ F' H' v, Ok K pa Hk F F' H' (vs.map some) rs' → RvOk K Hk F' H' (vs.map some) rs' v rv → Q v H'
def backA : List Sl → En → Option (List Sl)
  | [], _ => some []
  | .io _ :: ss, .io ct :: q => (backA ss q).map fun z => .io ct :: z
  | .io _ :: _, _ => none
  | .pin :: _, _ => none
  | s :: ss, _ :: q => (backA ss q).map fun z => s :: z
  | _ :: _, [] => none
def backR {α : Type} (rs : List Sl) (x : Re α) : Re α := match x with
  | .ok a r => (match backA rs r with
    | some z => .ok a z
    | none => .no)
  | .ex e r => (match backA rs r with
    | some z => .ex e z
    | none => .no)
  | .no => .no
def flRv : M Fl → M RV := fun m r => match m r with
  | .ok (.rt rv) r => .ok rv r
  | .ok .nx r => .ok (.v .none) r
  | .ok _ _ => .no
  | .ex e r => .ex e r
  | .no => .no
/-- a def: n slots, its body -/
@[irreducible] def fnOf (n : Nat) (m : M Fl) : List Sl → Re RV := fun rs => backR rs (flRv m (rs ++ List.replicate (n - rs.length) .unk))
theorem backA_len : ∀ {rs : List Sl} {q : En} {z : List Sl}, backA rs q = some z → z.length = rs.length
  | [], _, _, h => by
    cases h
    rfl
  | .io _ :: ss, .io ct :: q, z, h => by
    have h : (backA ss q).map (fun z => Sl.io ct :: z) = some z := h
    cases hb : backA ss q with
    | none =>
      rw [hb] at h
      cases h
    | some y =>
      rw [hb] at h
      cases h
      exact congrArg Nat.succ (backA_len hb)
  | .io _ :: _, .unk :: _, _, h => by cases h
  | .io _ :: _, .v _ :: _, _, h => by cases h
  | .io _ :: _, .o _ :: _, _, h => by cases h
  | .io _ :: _, .pin :: _, _, h => by cases h
  | .io _ :: _, [], _, h => by cases h
  | .unk :: ss, _ :: q, z, h => by
    have h : (backA ss q).map (fun z => Sl.unk :: z) = some z := h
    cases hb : backA ss q with
    | none =>
      rw [hb] at h
      cases h
    | some y =>
      rw [hb] at h
      cases h
      exact congrArg Nat.succ (backA_len hb)
  | .v d :: ss, _ :: q, z, h => by
    have h : (backA ss q).map (fun z => Sl.v d :: z) = some z := h
    cases hb : backA ss q with
    | none =>
      rw [hb] at h
      cases h
    | some y =>
      rw [hb] at h
      cases h
      exact congrArg Nat.succ (backA_len hb)
  | .o d :: ss, _ :: q, z, h => by
    have h : (backA ss q).map (fun z => Sl.o d :: z) = some z := h
    cases hb : backA ss q with
    | none =>
      rw [hb] at h
      cases h
    | some y =>
      rw [hb] at h
      cases h
      exact congrArg Nat.succ (backA_len hb)
  | .unk :: _, [], _, h => by cases h
  | .pin :: _, _, _, h => by cases h
  | .v _ :: _, [], _, h => by cases h
  | .o _ :: _, [], _, h => by cases h
/-- place by place: the caller's object as it is now, all else as it was -/
theorem backA_get : ∀ {rs : List Sl} {q : En} {z : List Sl}, backA rs q = some z → ∀ (i : Nat) (s : Sl), z[i]? = some s → (∃ ct ct', rs[i]? = some (.io ct) ∧ s = .io ct' ∧ q[i]? = some (.io ct')) ∨ (rs[i]? = some s ∧ s.isIo = false)
  | [], _, _, h, i, s, hs => by
    cases h
    cases hs
  | .io c0 :: ss, .io ct :: q, z, h, i, s, hs => by
    have h : (backA ss q).map (fun z => Sl.io ct :: z) = some z := h
    cases hb : backA ss q with
    | none =>
      rw [hb] at h
      cases h
    | some y =>
      rw [hb] at h
      cases h
      cases i with
      | zero =>
        cases hs
        exact .inl ⟨c0, ct, rfl, rfl, rfl⟩
      | succ i => exact backA_get hb i s hs
  | .io _ :: _, .unk :: _, _, h, _, _, _ => by cases h
  | .io _ :: _, .v _ :: _, _, h, _, _, _ => by cases h
  | .io _ :: _, .o _ :: _, _, h, _, _, _ => by cases h
  | .io _ :: _, .pin :: _, _, h, _, _, _ => by cases h
  | .io _ :: _, [], _, h, _, _, _ => by cases h
  | .unk :: ss, _ :: q, z, h, i, s, hs => by
    have h : (backA ss q).map (fun z => Sl.unk :: z) = some z := h
    cases hb : backA ss q with
    | none =>
      rw [hb] at h
      cases h
    | some y =>
      rw [hb] at h
      cases h
      cases i with
      | zero =>
        cases hs
        exact .inr ⟨rfl, rfl⟩
      | succ i => exact backA_get hb i s hs
  | .v d :: ss, _ :: q, z, h, i, s, hs => by
    have h : (backA ss q).map (fun z => Sl.v d :: z) = some z := h
    cases hb : backA ss q with
    | none =>
      rw [hb] at h
      cases h
    | some y =>
      rw [hb] at h
      cases h
      cases i with
      | zero =>
        cases hs
        exact .inr ⟨rfl, rfl⟩
      | succ i => exact backA_get hb i s hs
  | .o d :: ss, _ :: q, z, h, i, s, hs => by
    have h : (backA ss q).map (fun z => Sl.o d :: z) = some z := h
    cases hb : backA ss q with
    | none =>
      rw [hb] at h
      cases h
    | some y =>
      rw [hb] at h
      cases h
      cases i with
      | zero =>
        cases hs
        exact .inr ⟨rfl, rfl⟩
      | succ i => exact backA_get hb i s hs
  | .unk :: _, [], _, h, _, _, _ => by cases h
  | .pin :: _, _, _, h, _, _, _ => by cases h
  | .v _ :: _, [], _, h, _, _, _ => by cases h
  | .o _ :: _, [], _, h, _, _, _ => by cases h
section
variable {K : PySem.W.Frag} {pa : Nat → Addr} {Hk F F' H H' : Hp} {vs : List V} {rs : List Sl} {st' : L2.St} {r' : En}
/-- the arguments behind the call -/
theorem Ok.ended (k : Ok K pa Hk F F H (vs.map some) rs) (ao : ArgsOk rs) (k' : Ok K pa Hk F F' H' st' r') {z : List Sl} (hz : backA rs r' = some z) : Ok K pa Hk F F' H' (vs.map some) z where
  hH := k'.hH
  fF := k'.fF
  fH := k'.fH
  sep := k'.sep
  len := by rw [k.len, backA_len hz]
  sl := fun i s hs n => by
    rcases backA_get hz i s hs with ⟨ct, ct', h1, rfl, h2⟩ | ⟨h1, h2⟩
    · obtain ⟨v, g1, g2⟩ := k.sl i _ h1 (fun z => nomatch z)
      obtain ⟨w, g3, g4⟩ := k'.sl i _ h2 (fun z => nomatch z)
      obtain ⟨rfl, _⟩ := g2
      obtain ⟨rfl, g5⟩ := g4
      exact ⟨_, g1, rfl, g5⟩
    · obtain ⟨v, g1, g2⟩ := k.sl i s h1 n
      refine ⟨v, g1, ?_⟩
      rcases ao s (List.mem_of_getElem? h1) with ⟨d, rfl⟩ | ⟨ct, rfl⟩
      · exact dp_mono k'.fF g2
      · cases h2
  tb := k'.tb
  dis := fun i j s q c c' a ne h1 h2 o1 o2 s1 s2 => by
    have orig : ∀ (j : Nat) (s : Sl) (c : Ct), z[j]? = some s → s.own = some c → ∃ s' c', rs[j]? = some s' ∧ s'.own = some c' := fun j s c hj hc => by
      rcases backA_get hz j s hj with ⟨ct, ct', h1, rfl, h2⟩ | ⟨h1, h2⟩
      · exact ⟨_, ct, h1, rfl⟩
      · exact ⟨s, c, h1, hc⟩
    obtain ⟨s', c1, g1, g2⟩ := orig i s c h1 o1
    obtain ⟨q', c2, g3, g4⟩ := orig j q c' h2 o2
    exact k.dis i j s' q' c1 c2 a ne g1 g3 g2 g4 s1 s2
  inn := fun i s c a b h1 h2 h3 h4 => by
    have now : ∀ (j : Nat) (s : Sl) (c : Ct) (a : Addr), z[j]? = some s → s.own = some c → (vs.map some)[j]? = some (some (.ref a)) → r'[j]? = some s ∧ st'[j]? = some (some (.ref a)) := fun j s c a hj hc hst => by
      rcases backA_get hz j s hj with ⟨ct, ct', h1, rfl, h2⟩ | ⟨h1, h2⟩
      · obtain ⟨v, g1, g2⟩ := k.sl j _ h1 (fun z => nomatch z)
        obtain ⟨w, g3, g4⟩ := k'.sl j _ h2 (fun z => nomatch z)
        obtain ⟨rfl, _⟩ := g2
        obtain ⟨rfl, g5⟩ := g4
        rw [g1] at hst
        cases hst
        exact ⟨h2, g3⟩
      · rcases ao s (List.mem_of_getElem? h1) with ⟨d, rfl⟩ | ⟨ct, rfl⟩
        · cases hc
        · cases h2
    obtain ⟨w1, w2⟩ := now i s c a h1 h2 h3
    obtain ⟨f1, f2, f3⟩ := k'.inn i s c a b w1 h2 w2 h4
    refine ⟨f1, f2, fun j q c' a' y1 y2 y3 => ?_⟩
    obtain ⟨w3, w4⟩ := now j q c' a' y1 y2 y3
    exact f3 j q c' a' w3 y2 w4
theorem RvOk.ended (k : Ok K pa Hk F F H (vs.map some) rs) (ao : ArgsOk rs) (k' : Ok K pa Hk F F' H' st' r') {z : List Sl} (hz : backA rs r' = some z) {v : V} {rv : RV} (h : RvOk K Hk F' H' st' r' v rv) : RvOk K Hk F' H' (vs.map some) z v rv := by
  cases rv with
  | v d => exact h
  | o ct =>
    obtain ⟨a, rfl, z1, z2, z3, z4⟩ := h
    have key : ∀ b, Nob H' st' r' b → Nob H' (vs.map some) z b := fun b hb i s c a hs hc hst => by
      rcases backA_get hz i s hs with ⟨ct0, ct', h1, rfl, h2⟩ | ⟨h1, h2⟩
      · obtain ⟨v, g1, g2⟩ := k.sl i _ h1 (fun z => nomatch z)
        obtain ⟨w, g3, g4⟩ := k'.sl i _ h2 (fun z => nomatch z)
        obtain ⟨rfl, _⟩ := g2
        obtain ⟨rfl, g5⟩ := g4
        rw [hst] at g1
        cases g1
        exact hb i _ c _ h2 hc g3
      · rcases ao s (List.mem_of_getElem? h1) with ⟨d, rfl⟩ | ⟨ct, rfl⟩
        · cases hc
        · cases h2
    exact ⟨a, rfl, z1, z2, z3, key a z4.1, fun b hb => by
      obtain ⟨g1, g2, g3, g4⟩ := z4.2 b hb
      exact ⟨g1, g2, g3, key b g4⟩⟩
/-- the slots at the start -/
theorem Ok.begin (k : Ok K pa Hk F F H (vs.map some) rs) (n : Nat) : Ok K pa Hk F F H (vs.map some ++ List.replicate n none) (rs ++ List.replicate n .unk) := by
  have hl : vs.length = rs.length := by
    have := k.len
    rw [List.length_map] at this
    exact this
  have get : ∀ (i : Nat) (s : Sl), (rs ++ List.replicate n Sl.unk)[i]? = some s → s ≠ .unk → rs[i]? = some s ∧ i < rs.length := fun i s h ne => by
    by_cases hi : i < rs.length
    · rw [List.getElem?_append_left hi] at h
      exact ⟨h, hi⟩
    · rw [List.getElem?_append_right (by omega), List.getElem?_replicate] at h
      split at h
      · cases h
        exact absurd rfl ne
      · cases h
  refine ⟨k.hH, k.fF, k.fH, k.sep, by simp [hl], fun i s h ne => ?_, k.tb, fun i j s q c c' a ne h1 h2 o1 o2 s1 s2 => ?_, fun i s c a b h1 h2 h3 h4 => ?_⟩
  · obtain ⟨h1, h2⟩ := get i s h ne
    obtain ⟨v, g1, g2⟩ := k.sl i s h1 ne
    exact ⟨v, by rw [List.getElem?_append_left (by rw [List.length_map]; omega)]; exact g1, g2⟩
  · obtain ⟨g1, l1⟩ := get i s h1 (by intro z; subst z; cases o1)
    obtain ⟨g2, l2⟩ := get j q h2 (by intro z; subst z; cases o2)
    rw [List.getElem?_append_left (by rw [List.length_map]; omega)] at s1 s2
    exact k.dis i j s q c c' a ne g1 g2 o1 o2 s1 s2
  · obtain ⟨g1, l1⟩ := get i s h1 (by intro z; subst z; cases h2)
    rw [List.getElem?_append_left (by rw [List.length_map]; omega)] at h3
    obtain ⟨f1, f2, f3⟩ := k.inn i s c a b g1 h2 h3 h4
    refine ⟨f1, f2, fun j q c' a' w1 w2 w3 => ?_⟩
    obtain ⟨g2, l2⟩ := get j q w1 (by intro z; subst z; cases w2)
    rw [List.getElem?_append_left (by rw [List.length_map]; omega)] at w3
    exact f3 j q c' a' g2 w2 w3
end
abbrev ccOf (K : PySem.W.Frag) (mg : Str → Option Value) (E : XK) : Cc := ⟨K, mg, fun cls d _ H => E cls d H⟩
/-! ### room, with no guard of a text under way -/
/-- a frame of a def: no generator -/
structure Tpe (env : Env) : Prop where
  gen : env.scope.isGenerator = false
  co : env.scope.isCoroutine = false
  bl : env.builtins = builtinsNs
  gl : env.globals = mainGlobals
/-- the room of a caller -/
structure RmC (k : Nat) (A : Around) : Prop where
  room : Room k A
  gd : A.guards = some []
  dl : A.depth + 3 * k + 150 < recursionLimit
structure Rm (k : Nat) (A : Around) : Prop where
  room : Room k A
  gd : A.guards = some []
  dl : A.depth + 3 * k + 150 < recursionLimit
  top : ∃ env l, A.frames = some (env :: l) ∧ Tpe env
omit [TabT] in
theorem Rm.c {k : Nat} {A : Around} (r : Rm k A) : RmC k A := ⟨r.room, r.gd, r.dl⟩
omit [TabT] in
theorem RmC.deeper {k : Nat} {A : Around} {l : List Env} (r : RmC (k + 1) A) (hf : A.frames = some l) (env : Env) (t : Tpe env) : Rm k (A.deeper env) :=
  ⟨r.room.deeper _, r.gd, by have := r.dl; show A.depth + 1 + 3 * k + 150 < _; omega, ⟨env, l, by show A.frames.map _ = _; rw [hf]; rfl, t⟩⟩
omit [TabT] in
theorem Rm.deeper {k : Nat} {A : Around} (r : Rm (k + 1) A) (env : Env) (t : Tpe env) : Rm k (A.deeper env) := by
  obtain ⟨e0, l, hf, _⟩ := r.top
  exact r.c.deeper hf env t
theorem Rm.mono {j k : Nat} {A : Around} (r : Rm k A) (h : j ≤ k) : Rm j A := ⟨r.room.mono h, r.gd, by have := r.dl; omega, r.top⟩
theorem Rm.units {k : Nat} {A : Around} (r : Rm k A) : A.units + 64 < cLine := r.room.units
theorem Rm.u1 {k : Nat} {A : Around} (r : Rm k A) : A.units + 1 < cLine := by
  have := r.room.units
  omega
/-- what the heap at the start is like, where a long division may go by a module -/
structure SeerK (P : Program) (base : Heap) : Prop where
  tree : P.given.tree = none
  ns : base.NoSeer
/-- what a def does, where no guard is under way -/
structure FnG (P : Program) (w : World) (K : PySem.W.Frag) (mg : Str → Option Value) (base : Heap) (k : Nat) (f : Addr) (fd : FuncData) (ps : List Str) (sp : Sp) : Prop where
  len : ∀ us H Q E, sp us H Q E → us.length = ps.length
  run : ∀ (A : Around) (ou : List Env) (s : Shared) (H : Hp) (ar : Args) (us : List Value) (xs : List V) (Q : VK) (E : XK), RmC k A → Env0 P w K mg base A ou s H → BindsTo s fd ar (ps.zip us) → Vals xs us → sp xs H Q E → codeAny (model P w) A (.call (.ref f) ar) (CR (L2.CX P w) ou P w H s Q E) s
/-- cdv is the code of the def at f -/
def CodeAt (K : PySem.W.Frag) (f : Addr) (cdv : Value) : Prop := ∃ oc od fd osl, K.lookup f = some ⟨oc, od, .func fd, osl⟩ ∧ fd.code = cdv
theorem fnG_of {P : Program} {w : World} {K : PySem.W.Frag} {mg : Str → Option Value} {base : Heap} {x qual : Str} {params : Arguments} {body : List Stmt} {scope : Scope} {f : Addr} {fd : FuncData} {N ps : List Str} {k : Nat} {sp : Sp}
    (F : FunD K x qual params body scope [] [] f fd) (S : FnScope N ps scope) (len : ∀ us H Q E, sp us H Q E → us.length = ps.length)
    (hB : ∀ (cdv : Value) (A : Around) (ou : List Env) (s : Shared) (H : Hp) (xs : List V) (Q : VK) (E : XK), CodeAt K f cdv → Rm k (A.deeper (envOfC qual scope s.heap.objs.size f cdv)) → sp xs H Q E → ∃ t, PSs (cxOf (L2.CX P w) P w K mg base N qual scope f cdv A ou s H E) body t ∧ t { nx := fun _ G => Q .non G, rt := Q } (start N xs) H) :
    FnG P w K mg base (k + 1) f fd ps sp := by
  obtain ⟨oc, od, dV, kV, doc, pm, an, cdv, ct, osl, rfl, lk, hcd, -, -⟩ := F.ex
  refine ⟨len, fun A ou s H ar us xs Q E hr e0 hb rv hsp => ?_⟩
  have inK : K.In s.heap := e0.mod.kin.keeps fun c o q => (e0.bs c o q).1
  have nol : s.heap.NoLimit := e0.mod.nolimit.keeps fun c o q => (e0.bs c o q).1
  have kinds : ∀ y ∈ ps.zip us, scope.names.lookup y.1 = some .local ∨ (scope.names.lookup y.1 = some .cell ∧ ((cellsFrom (s.heap.objs.size + 1) scope.names []).lookup y.1).isSome = true) := fun y hy => (S.par y.1 (List.of_mem_zip (a := y.1) (b := y.2) hy).1).imp id fun q => ⟨q, PySem.W.cellsFrom_some _ _ _ (.inl q)⟩
  refine codeAny_call_function hr.room.depth (inK _ _ lk) rfl S.co S.gen rfl (PySem.W.codeRec_of inK hcd) (hb _ _ _ _ ?_)
  refine wpAny_newFunctionEnv_cells S.kind kinds fun env he s1 z => ?_
  subst he
  refine ⟨nol.keeps z.toInCall.keep, codeAny_func ?_⟩
  obtain ⟨t, ht, hq⟩ := hB cdv A ou s H xs Q E ⟨_, _, _, _, lk, rfl⟩ (hr.deeper e0.frames _ ⟨S.gen, S.co, rfl, rfl⟩) hsp
  have st0 : Inv (cxOf (L2.CX P w) P w K mg base N qual scope f cdv A ou s H E) [] (start N xs) H s1 := inv_start S hr.room.hd e0 (len _ _ _ _ hsp) rv z
  refine wpAny_mono (ht.run [] s1 _ H _ st0 hq) (fun fl s2 h => ?_) fun _ _ h => h
  cases fl with
  | ret u =>
    obtain ⟨v, _, H2, J, rv2, q⟩ := h
    exact ⟨v, H2, J.os, J.bare, J.base, J.hok, rv2, q⟩
  | next =>
    obtain ⟨_, H2, J, q⟩ := h
    exact ⟨.non, H2, J.os, J.bare, J.base, J.hok, rfl, q⟩
  | brk => exact h.elim fun _ h => h.elim fun _ h => h.2.elim
  | cont => exact h.elim fun _ h => h.elim fun _ h => h.2.elim
section
variable {X : Cx} {k : Nat} {f : Addr} {fd : FuncData} {ps : List Str} {sp : Sp} {Ew : L2.St → XK} {x : Str} {p pos : Pos} {e : Expr} {es : List Expr} {t : TA}
def tCallG (sp : Sp) (Ew : L2.St → XK) (t : TA) : TE := fun st H Q => t st H fun xs H1 => sp xs H1 Q (Ew st)
theorem runG {pins : List (Addr × Obj)} {st : L2.St} {H : Hp} {s : Shared} {Q : VK} {us : List Value} {xs : List V} (F : FnG X.prog X.w X.K X.mg X.base k f fd ps sp) (hr : Rm k X.A) (hb : Binds X.K fd ps []) (hx : PassesAt (L2.CX X.prog X.w) X st (Ew st)) (I : Inv X pins st H s) (rv : Vals xs us) (h : sp xs H Q (Ew st)) :
    wpAny (model X.prog X.w) X.A (call (.ref f) us) (EP X pins st Q) X.xe s := by
  have hb2 := hb s us I.kIn
  rw [List.append_nil] at hb2
  refine wpAny_call (codeAny_mono (F.run X.A X.stack s H ⟨us, []⟩ us xs Q (Ew st) hr.c I.env0 (hb2 (by rw [← rv.length]; exact F.len _ _ _ _ h)) rv h) fun o s2 q => ?_)
  rcases o with er | fl
  · exact hx pins H s er s2 I q
  · cases fl with
    | ret u => exact I.after q
    | next => exact False.elim q
    | brk => exact False.elim q
    | cont => exact False.elim q
theorem pe_callG (F : FnG X.prog X.w X.K X.mg X.base k f fd ps sp) (hr : Rm k X.A) (hg : Gl X x) (hm : X.mg x = some (.ref f)) (hk : PySem.W.keepIn X.K (.ref f) = true) (hb : Binds X.K fd ps []) (hx : ∀ st, PassesAt (L2.CX X.prog X.w) X st (Ew st)) (ha : PA X (e :: es) t)
    (hdb : (x == ("__debug__" : Str)) = false := by decide) (he : starEach (e :: es) X.env = (false, eval e X.env) :: starEach es X.env := by rfl) (hpl : (backTo pos (starEach es X.env)).any (·.1) = false := by rfl) : PE X (.Call (.Name x p) (e :: es) [] pos) (tCallG sp Ew t) :=
  ⟨fun pins s st H Q I h => wpAny_Call_Name_kw (ld_glob I hg hm (PySem.W.callWith_K (h₀ := X.base) I.ok.mod.kin hk (thn (ha.run pos pins s st H _ I h) fun us s1 ⟨xs, H1, I1, rv, q⟩ => ⟨I1.kIn, runG F hr hb (hx st) I1 rv q⟩) he hpl) hdb)⟩
end
/-- a def keeps its promise -/
theorem mk_fnC {P : Program} {w : World} {K : PySem.W.Frag} {mg : Str → Option Value} {base : Heap} {x qual : Str} {params : Arguments} {body : List Stmt} {scope : Scope} {f : Addr} {fd : FuncData} {N ps : List Str} {k : Nat} {m : M Fl}
    (F : FunD K x qual params body scope [] [] f fd) (S : FnScope N ps scope)
    (hb : ∀ (cdv : Value), CodeAt K f cdv → ∀ (A : Around) (outer : List Env) (s : Shared) (H : Hp) (E : XK), Rm k (A.deeper (envOfC qual scope s.heap.objs.size f cdv)) → PSs (cxOf (L2.CX P w) P w K mg base N qual scope f cdv A outer s H E) body (sM (ccOf K mg E) m)) :
    FnG P w K mg base (k + 1) f fd ps (spG K mg ps.length (fnOf N.length m)) := by
  refine fnG_of F S (fun vs H Q E h => h.1) fun cdv A outer s H vs Q E hc hr h => ⟨_, hb cdv hc A outer s H E hr, ?_⟩
  obtain ⟨hl, pa, Hk, F1, rs, ok, ao, po⟩ := h
  have hlr : rs.length = vs.length := by
    have := ok.len
    rw [List.length_map] at this
    exact this.symm
  have ok2 := ok.begin (N.length - vs.length)
  show sM (ccOf K mg E) m _ (vs.map some ++ List.replicate (N.length - vs.length) none) H
  refine ⟨pa, Hk, F1, F1, rs ++ List.replicate (N.length - vs.length) .unk, ok2, ?_⟩
  rw [← hlr]
  unfold fnOf flRv at po
  cases hm : m (rs ++ List.replicate (N.length - rs.length) .unk) with
  | no =>
    rw [hm] at po
    exact po.elim
  | ex e r1 =>
    rw [hm] at po
    intro F' H' st' cls dd k' e' xo
    have po : Po _ (backR rs (.ex e r1)) _ := po
    unfold backR at po
    cases hz : backA rs r1 with
    | none =>
      have po : Po _ (match backA rs r1 with
        | some z => (.ex e z : Re RV)
        | none => .no) _ := po
      rw [hz] at po
      exact po.elim
    | some z =>
      have po : Po _ (match backA rs r1 with
        | some z => (.ex e z : Re RV)
        | none => .no) _ := po
      rw [hz] at po
      exact po F' H' cls dd (ok.ended ao k' hz) xo
  | ok fl r1 =>
    rw [hm] at po
    have fin : ∀ rv, Po (fun e rs' => ∀ F' H' cls dd, Ok K pa Hk F1 F' H' (vs.map some) rs' → ExOk ⟨K, mg, fun _ _ _ _ => True⟩ F' H' e cls dd → E cls dd H') (backR rs (.ok rv r1)) (fun rv rs' => ∀ F' H' v, Ok K pa Hk F1 F' H' (vs.map some) rs' → RvOk K Hk F' H' (vs.map some) rs' v rv → Q v H') →
        ∀ F' H' st' v, Ok K pa Hk F1 F' H' st' r1 → RvOk K Hk F' H' st' r1 v rv → Q v H' := fun rv po F' H' st' v k' hv => by
      have po : Po _ (match backA rs r1 with
        | some z => (.ok rv z : Re RV)
        | none => .no) _ := po
      cases hz : backA rs r1 with
      | none =>
        rw [hz] at po
        exact po.elim
      | some z =>
        rw [hz] at po
        exact po F' H' v (ok.ended ao k' hz) (RvOk.ended ok ao k' hz hv)
    cases fl with
    | nx => exact fun F' H' st' k' e' => fin (.v .none) po F' H' st' .non k' .non
    | bk => exact po.elim
    | ct => exact po.elim
    | rt rv => exact fun F' H' st' v k' e' hv => fin rv po F' H' st' v k' hv
theorem mk_fn {P : Program} {w : World} {K : PySem.W.Frag} {mg : Str → Option Value} {base : Heap} {x qual : Str} {params : Arguments} {body : List Stmt} {scope : Scope} {f : Addr} {fd : FuncData} {N ps : List Str} {k : Nat} {m : M Fl}
    (F : FunD K x qual params body scope [] [] f fd) (S : FnScope N ps scope)
    (hb : ∀ (cdv : Value) (A : Around) (outer : List Env) (s : Shared) (H : Hp) (E : XK), Rm k (A.deeper (envOfC qual scope s.heap.objs.size f cdv)) → PSs (cxOf (L2.CX P w) P w K mg base N qual scope f cdv A outer s H E) body (sM (ccOf K mg E) m)) :
    FnG P w K mg base (k + 1) f fd ps (spG K mg ps.length (fnOf N.length m)) := mk_fnC F S fun cdv _ => hb cdv
/-! ### calls -/
/-- the def x of the text, its mirror -/
structure Fn (P : Program) (w : World) (K : PySem.W.Frag) (mg : Str → Option Value) (base : Heap) (k : Nat) (x : Str) (n : Nat) (f : List Sl → Re RV) : Prop where
  ex : ∃ (a : Addr) (fd : FuncData) (ps : List Str), mg x = some (.ref a) ∧ PySem.W.keepIn K (.ref a) = true ∧ Binds K fd ps [] ∧ FnG P w K mg base k a fd ps (spG K mg n f)
def cCall (f : List Sl → Re RV) (ms : M (List D)) : M RV := ms.bind fun ds r => match f (ds.map .v) with
  | .ok rv _ => .ok rv r
  | .ex e _ => .ex e r
  | .no => .no
def getC (i : Nat) (r : En) : Option Ct := (r[i]?).bind Sl.own
def putC (i : Nat) (ct : Ct) (r : En) : En := match r[i]? with
  | some s => r.set i (s.put ct)
  | none => r
/-- f(x, ..): the object x is the callee's to change -/
def cCallI (i : Nat) (f : List Sl → Re RV) (ms : M (List D)) : M RV := fun r => match getC i r with
  | none => .no
  | some _ => (ms r).bind fun ds r => match getC i r with
    | some ct => (match f (.io ct :: ds.map .v) with
      | .ok rv (.io ct' :: _) => .ok rv (putC i ct' r)
      | .ex e (.io ct' :: _) => .ex e (putC i ct' r)
      | _ => .no)
    | none => .no
section
variable {K : PySem.W.Frag} {pa : Nat → Addr} {H0 F0 F H : Hp} {st : L2.St} {r : En}
theorem getC_some {i : Nat} {r : En} {ct : Ct} (h : getC i r = some ct) : ∃ s, r[i]? = some s ∧ s.own = some ct := by
  unfold getC at h
  cases e : r[i]? with
  | none =>
    rw [e] at h
    cases h
  | some s =>
    rw [e] at h
    exact ⟨s, rfl, h⟩
theorem Ok.putC (k : Ok K pa H0 F0 F H st r) {i : Nat} {c c' : Ct} {a : Addr} {o : HO} (h : getC i r = some c) (ha : st[i]? = some (some (.ref a))) (new : CtOk K F (upd H a o) a c')
    (newI : ∀ b, Inn (upd H a o) a c' b → Inn H a c b ∨ (F b = none ∧ H0 b = none ∧ a ≠ b ∧ Nob H st r b) := by intro b hb; first | exact (inn_l hb).elim | exact (inn_d hb).elim | exact (inn_t hb).elim) : Ok K pa H0 F0 F (upd H a o) st (putC i c' r) := by
  obtain ⟨s, h1, h2⟩ := getC_some h
  unfold Pu.putC
  rw [h1]
  exact k.put h1 h2 ha new newI
theorem argsV {vs : List V} {ds : List D} (hr : RpAll K F vs ds) (fh : Ex F H) (tb : LamX.Tabs (TabT.T K) H) : Ok K pa H F F H (vs.map some) (ds.map Sl.v) where
  hH := Ex.refl H
  fF := Ex.refl F
  fH := fh
  sep := fun _ _ h => h
  len := by rw [List.length_map, List.length_map, dpa_len hr]
  sl := fun i s h n => by
    rw [List.getElem?_map] at h
    cases hd : ds[i]? with
    | none =>
      rw [hd] at h
      cases h
    | some d =>
      rw [hd] at h
      cases h
      obtain ⟨v, h1, h2⟩ := dpa_get hr hd
      exact ⟨v, by rw [List.getElem?_map, h1]; rfl, h2⟩
  tb := tb
  dis := fun i j s q c c' a ne h1 h2 o1 => by
    rw [List.getElem?_map] at h1
    cases hd : ds[i]? with
    | none =>
      rw [hd] at h1
      cases h1
    | some d =>
      rw [hd] at h1
      cases h1
      cases o1
  inn := fun i s c a b h1 h2 => by
    rw [List.getElem?_map] at h1
    cases hd : ds[i]? with
    | none =>
      rw [hd] at h1
      cases h1
    | some d =>
      rw [hd] at h1
      cases h1
      cases h2
/-- what a callee made is nobody's here -/
theorem Ok.awayC (k : Ok K pa H0 F0 F H st r) {F' H' : Hp} {st' : L2.St} {r' : En} {a : Addr} {c : Ct} (e : Ex H H') (n : H a = none) (w : ∀ b, Inn H' a c b → F' b = none ∧ H b = none ∧ a ≠ b ∧ Nob H' st' r' b) : Away H0 F' H' st r a c := by
  have key : ∀ b, H b = none → Nob H' st r b := fun b hb => (k.nobody hb).cg fun i s c2 a2 h1 h2 h3 => by
    obtain ⟨a3, z1, z2, z3, z4⟩ := k.ownd h1 h2
    rw [h3] at z1
    cases z1
    obtain ⟨o, ho, hnt⟩ := z4.there'
    exact (e.at_ _ o ho hnt).trans ho.symm
  exact ⟨key a n, fun b hb => by
    obtain ⟨g1, g2, g3, g4⟩ := w b hb
    exact ⟨g1, k.hH.nn g2, g3, key b g2⟩⟩
theorem argsOkV (ds : List D) : ArgsOk (ds.map Sl.v) := fun s hs => by
  obtain ⟨d, _, rfl⟩ := List.mem_map.mp hs
  exact .inl ⟨d, rfl⟩
end
/-! ### objects lent to a callee -/
/-- b belongs to what is lent -/
def LentA (H : Hp) (st : L2.St) (r : En) (is : List Nat) (b : Addr) : Prop := ∃ i ∈ is, ∃ s c a, r[i]? = some s ∧ s.own = some c ∧ st[i]? = some (some (V.ref a)) ∧ (a = b ∨ Inn H a c b)
open Classical in
/-- the heap but for what is lent -/
noncomputable def Hless (H : Hp) (st : L2.St) (r : En) (is : List Nat) : Hp := fun b => if LentA H st r is b then none else H b
section
variable {K : PySem.W.Frag} {pa pa' : Nat → Addr} {H0 F0 F H F' H' : Hp} {st : L2.St} {r r' : En} {is : List Nat} {sv : L2.St} {rs' : List Sl}
omit [TabT] in
theorem Hless.at_ {b : Addr} (h : LentA H st r is b) : Hless H st r is b = none := if_pos h
omit [TabT] in
theorem Hless.ne {b : Addr} (h : ¬ LentA H st r is b) : Hless H st r is b = H b := if_neg h
omit [TabT] in
theorem Hless.ex : Ex (Hless H st r is) H := .of fun b o z => by
  by_cases h : LentA H st r is b
  · rw [Hless.at_ h] at z
    cases z
  · rw [Hless.ne h] at z
    exact z
theorem Ok.lentFree (k1 : Ok K pa H0 F0 F H st r) {b : Addr} (h : LentA H st r is b) : H0 b = none ∧ F b = none := by
  obtain ⟨i, _, s, c, a, h1, h2, h3, h4⟩ := h
  rcases h4 with rfl | h4
  · obtain ⟨a', z1, z2, z3, z4⟩ := k1.ownd h1 h2
    rw [h3] at z1
    cases z1
    exact ⟨z3, z2⟩
  · obtain ⟨f1, f2, _⟩ := k1.inn i s c a b h1 h2 h3 h4
    exact ⟨f2, f1⟩
theorem Ok.lentEx (k1 : Ok K pa H0 F0 F H st r) : Ex H0 (Hless H st r is) := ⟨fun b o z nt => by
  rw [Hless.ne fun h => by
    rw [(k1.lentFree h).1] at z
    cases z]
  exact k1.hH.at_ b o z nt, fun b ps z => by
  rw [Hless.ne fun h => by
    rw [(k1.lentFree h).1] at z
    cases z]
  exact k1.hH.tb b ps z⟩
/-- another slot's object is not lent -/
theorem Ok.notLent (k1 : Ok K pa H0 F0 F H st r) {j : Nat} {s : Sl} {c : Ct} {a b : Addr} (hj : j ∉ is) (h1 : r[j]? = some s) (h2 : s.own = some c) (h3 : st[j]? = some (some (.ref a))) (hb : a = b ∨ Inn H a c b) : ¬ LentA H st r is b := fun ⟨i, hi, s2, c2, a2, g1, g2, g3, g4⟩ => by
  have ne : j ≠ i := fun z => hj (z ▸ hi)
  rcases hb with rfl | hb
  · rcases g4 with rfl | g4
    · exact k1.dis j i s s2 c c2 a2 ne h1 g1 h2 g2 h3 g3
    · exact ((k1.inn i s2 c2 a2 a g1 g2 g3 g4).2.2 j s c a h1 h2 h3).1 rfl
  · obtain ⟨_, _, f3⟩ := k1.inn j s c a b h1 h2 h3 hb
    obtain ⟨y1, y2⟩ := f3 i s2 c2 a2 g1 g2 g3
    rcases g4 with rfl | g4
    · exact y1 rfl
    · exact y2 (fun z => ne z.symm) g4
/-- what stays of a slot that is not lent -/
theorem Ok.stays (k1 : Ok K pa H0 F0 F H st r) (k2 : Ok K pa' (Hless H st r is) F F' H' sv rs') {j : Nat} {s : Sl} {c : Ct} {a : Addr} (hj : j ∉ is) (h1 : r[j]? = some s) (h2 : s.own = some c) (h3 : st[j]? = some (some (.ref a))) :
    H' a = H a ∧ F' a = none ∧ CtOk K F' H' a c ∧ ∀ b, Inn H' a c b → Inn H a c b ∧ H' b = H b ∧ F' b = none := by
  obtain ⟨a', z1, z2, z3, z4⟩ := k1.ownd h1 h2
  rw [h3] at z1
  cases z1
  have same : ∀ b o, (a = b ∨ Inn H a c b) → H b = some o → (∀ ps, o ≠ .tbl ps) → F b = none → H' b = H b ∧ F' b = none := fun b o hb ho hnt hF => by
    have z : Hless H st r is b = some o := by
      rw [Hless.ne (k1.notLent hj h1 h2 h3 hb)]
      exact ho
    exact ⟨(k2.hH.at_ b o z hnt).trans ho.symm, none_of_not fun y => k2.sep b (ne_none z) y hF⟩
  obtain ⟨o, ho, hnt⟩ := z4.there'
  obtain ⟨e1, e2⟩ := same a o (.inl rfl) ho hnt z2
  have inn : ∀ b, Inn H a c b → H' b = H b ∧ F' b = none := fun b hb => by
    obtain ⟨ws, hw⟩ := z4.inn hb
    exact same b _ (.inr hb) hw (fun ps z => nomatch z) (k1.inn j s c a b h1 h2 h3 hb).1
  exact ⟨e1, e2, z4.mono k2.fF e1 fun b hb => (inn b hb).1, fun b hb => by
    have hb' := hb.cg e1.symm
    exact ⟨hb', inn b hb'⟩⟩
/-- the slots behind the call -/
def BackOk (st : L2.St) (r r' : En) (is : List Nat) (sv : L2.St) (rs' : List Sl) : Prop := r'.length = r.length ∧ ∀ (j : Nat) (s' : Sl), r'[j]? = some s' → (j ∉ is ∧ r[j]? = some s') ∨
  ∃ (p : Nat) (s : Sl) (ct ct' : Ct) (a : Addr), j ∈ is ∧ r[j]? = some s ∧ s.own = some ct ∧ st[j]? = some (some (V.ref a)) ∧ s' = s.put ct' ∧ rs'[p]? = some (Sl.io ct') ∧ sv[p]? = some (some (V.ref a))
theorem Ok.lent (k1 : Ok K pa H0 F0 F H st r) (k2 : Ok K pa' (Hless H st r is) F F' H' sv rs') (hb : BackOk st r r' is sv rs') : Ok K pa H0 F0 F' H' st r' := by
  have h0 := k1.lentEx (is := is)
  -- an owned slot behind the call
  have view : ∀ (j : Nat) (s' : Sl) (c' : Ct) (a : Addr), r'[j]? = some s' → s'.own = some c' → st[j]? = some (some (.ref a)) →
      (∃ s c, r[j]? = some s ∧ s.own = some c) ∧ ((j ∉ is ∧ r[j]? = some s') ∨ (j ∈ is ∧ ∃ p : Nat, sv[p]? = some (some (V.ref a)) ∧ rs'[p]? = some (Sl.io c'))) := fun j s' c' a h1 h2 h3 => by
    rcases hb.2 j s' h1 with ⟨hj, h⟩ | ⟨p, s, ct, ct', a', hj, g1, g2, g3, rfl, g5, g6⟩
    · exact ⟨⟨s', c', h, h2⟩, .inl ⟨hj, h⟩⟩
    · have e : (s.put ct').own = some ct' := by cases s <;> rfl
      rw [e] at h2
      cases h2
      rw [h3] at g3
      cases g3
      exact ⟨⟨s, ct, g1, g2⟩, .inr ⟨hj, p, g6, g5⟩⟩
  refine ⟨h0.trans k2.hH, k1.fF.trans k2.fF, k2.fH, fun b z1 z2 => k1.sep b z1 (k2.sep b (by
    cases hz : H0 b with
    | none => exact absurd hz z1
    | some o => exact (h0.some hz).elim fun _ q => ne_none q) z2), by rw [hb.1, k1.len], fun j s' h n => ?_, k2.tb, fun j1 j2 s1 s2 c1 c2 b ne h1 h2 o1 o2 st1 st2 => ?_, fun j s c a b h1 h2 h3 h4 => ?_⟩
  · rcases hb.2 j s' h with ⟨hj, hr⟩ | ⟨p, s, ct, ct', a, hj, g1, g2, g3, rfl, g5, g6⟩
    · obtain ⟨w, y1, y2⟩ := k1.sl j s' hr n
      refine ⟨w, y1, ?_⟩
      cases s' with
      | unk => trivial
      | pin => exact y2
      | v d => exact dp_mono k2.fF y2
      | o c1 =>
        obtain ⟨b, rfl, z1, z2, z3⟩ := y2
        obtain ⟨w1, w2, w3, _⟩ := k1.stays k2 hj hr rfl y1
        exact ⟨b, rfl, w2, z2, w3⟩
      | io c1 =>
        obtain ⟨rfl, z1, z2, z3⟩ := y2
        obtain ⟨w1, w2, w3, _⟩ := k1.stays k2 hj hr rfl y1
        exact ⟨rfl, w2, z2, w3⟩
    · refine ⟨_, g3, ?_⟩
      obtain ⟨v, w1, w2⟩ := k2.sl p _ g5 (fun z => nomatch z)
      rw [g6] at w1
      cases w1
      obtain ⟨w3, w4, w5, w6⟩ := w2
      have hb2 : H0 a = none := (k1.lentFree (is := is) ⟨j, hj, s, ct, a, g1, g2, g3, .inl rfl⟩).1
      cases w3
      cases s with
      | unk => cases g2
      | pin => cases g2
      | v d => cases g2
      | o c1 => exact ⟨_, rfl, w4, hb2, w6⟩
      | io c1 =>
        obtain ⟨w, y1, y2⟩ := k1.sl j _ g1 (fun z => nomatch z)
        obtain ⟨rfl, _⟩ := y2
        rw [g3] at y1
        have e : pa' p = pa j := by
          have := Option.some.inj (Option.some.inj y1)
          injection this
        rw [← e]
        exact ⟨rfl, w4, hb2, w6⟩
  · obtain ⟨⟨s3, c3, w1, w2⟩, _⟩ := view j1 s1 c1 b h1 o1 st1
    obtain ⟨⟨s4, c4, w3, w4⟩, _⟩ := view j2 s2 c2 b h2 o2 st2
    exact k1.dis j1 j2 s3 s4 c3 c4 b ne w1 w3 w2 w4 st1 st2
  · obtain ⟨⟨s3, c3, w1, w2⟩, hv⟩ := view j s c a h1 h2 h3
    -- what is within an object that is not lent is foreign to what came back
    rcases hv with ⟨hj, hr⟩ | ⟨hj, p, hp, hio⟩
    · obtain ⟨e1, e2, e3, e4⟩ := k1.stays k2 hj hr h2 h3
      obtain ⟨q1, q2, q3⟩ := e4 b h4
      obtain ⟨f1, f2, f3⟩ := k1.inn j s c a b hr h2 h3 q1
      refine ⟨q3, f2, fun j2 s2 c2 a2 g1 g2 g3 => ?_⟩
      obtain ⟨⟨s4, c4, w3, w4⟩, hv2⟩ := view j2 s2 c2 a2 g1 g2 g3
      refine ⟨(f3 j2 s4 c4 a2 w3 w4 g3).1, fun nj n => ?_⟩
      rcases hv2 with ⟨hj2, hr2⟩ | ⟨hj2, p2, hp2, hio2⟩
      · exact (f3 j2 s2 c2 a2 hr2 g2 g3).2 nj ((k1.stays k2 hj2 hr2 g2 g3).2.2.2 b n).1
      · have z := (k2.inn p2 _ c2 a2 b hio2 rfl hp2 n).2.1
        rw [Hless.ne (k1.notLent hj hr h2 h3 (.inr q1))] at z
        obtain ⟨a', y1, y2, y3, y4⟩ := k1.ownd hr h2
        rw [h3] at y1
        cases y1
        obtain ⟨ws, hw⟩ := y4.inn q1
        rw [hw] at z
        cases z
    · obtain ⟨f1, f2, f3⟩ := k2.inn p _ c a b hio rfl hp h4
      refine ⟨f1, h0.nn f2, fun j2 s2 c2 a2 g1 g2 g3 => ?_⟩
      obtain ⟨⟨s4, c4, w3, w4⟩, hv2⟩ := view j2 s2 c2 a2 g1 g2 g3
      rcases hv2 with ⟨hj2, hr2⟩ | ⟨hj2, p2, hp2, hio2⟩
      · have far : ∀ b2, (a2 = b2 ∨ Inn H a2 c2 b2) → b ≠ b2 := fun b2 hb2 z => by
          subst z
          rw [Hless.ne (k1.notLent hj2 hr2 g2 g3 hb2)] at f2
          obtain ⟨a', y1, y2, y3, y4⟩ := k1.ownd hr2 g2
          rw [g3] at y1
          cases y1
          rcases hb2 with rfl | hb2
          · obtain ⟨o, ho⟩ := y4.there
            rw [ho] at f2
            cases f2
          · obtain ⟨ws, hw⟩ := y4.inn hb2
            rw [hw] at f2
            cases f2
        exact ⟨fun z => far a2 (.inl rfl) z.symm, fun _ n => far b (.inr ((k1.stays k2 hj2 hr2 g2 g3).2.2.2 b n).1) rfl⟩
      · obtain ⟨y1, y2⟩ := f3 p2 _ c2 a2 hio2 rfl hp2
        refine ⟨y1, fun nj n => y2 (fun z => nj ?_) n⟩
        subst z
        rw [hp] at hp2
        cases hp2
        by_cases e : j2 = j
        · exact e
        · exact (k1.dis j2 j s4 s3 c4 c3 a e w3 w1 w4 w2 g3 h3).elim
/-- what a callee handed back, beside what was lent -/
theorem RvOk.lent (k1 : Ok K pa H0 F0 F H st r) (k2 : Ok K pa' (Hless H st r is) F F' H' sv rs') (hb : BackOk st r r' is sv rs') {v : V} {rv : RV} (h : RvOk K (Hless H st r is) F' H' sv rs' v rv) : RvOk K H0 F' H' st r' v rv := by
  have h0 := k1.lentEx (is := is)
  cases rv with
  | v d => exact h
  | o c2 =>
    obtain ⟨b, rfl, z1, z2, z3, z4, z5⟩ := h
    have key : ∀ b2, Hless H st r is b2 = none → Nob H' sv rs' b2 → Nob H' st r' b2 := fun b2 hb2 nb j s c a h1 h2 h3 => by
      rcases hb.2 j s h1 with ⟨hj, hr⟩ | ⟨p, s0, ct, ct', a', hj, g1, g2, g3, rfl, g5, g6⟩
      · have far : ∀ b3, (a = b3 ∨ Inn H a c b3) → b2 ≠ b3 := fun b3 hb3 z => by
          subst z
          rw [Hless.ne (k1.notLent hj hr h2 h3 hb3)] at hb2
          obtain ⟨a', y1, y2, y3, y4⟩ := k1.ownd hr h2
          rw [h3] at y1
          cases y1
          rcases hb3 with rfl | hb3
          · obtain ⟨o, ho⟩ := y4.there
            rw [ho] at hb2
            cases hb2
          · obtain ⟨ws, hw⟩ := y4.inn hb3
            rw [hw] at hb2
            cases hb2
        exact ⟨fun z => far a (.inl rfl) z.symm, fun n => far b2 (.inr ((k1.stays k2 hj hr h2 h3).2.2.2 b2 n).1) rfl⟩
      · have e : (s0.put ct').own = some ct' := by cases s0 <;> rfl
        rw [e] at h2
        cases h2
        rw [h3] at g3
        cases g3
        exact nb p _ c a g5 rfl (g6)
    exact ⟨b, rfl, z1, h0.nn z2, z3, key b z2 z4, fun b2 hb2 => by
      obtain ⟨g1, g2, g3, g4⟩ := z5 b2 hb2
      exact ⟨g1, h0.nn g2, g3, key b2 g2 g4⟩⟩
end
section
variable {X : Cx} {c : Cc} {k n : Nat} {x : Str} {f : List Sl → Re RV} {e : Expr} {es : List Expr} {p pos : Pos} {ms : M (List D)}
theorem callV {F H : Hp} {st : L2.St} {r : En} {pa : Nat → Addr} {H0 F0 F00 : Hp} {vs : List V} {ds : List D} {Q : VK} (hn : ds.length = n) (k1 : Ok c.K pa H0 F0 F H st r) (dps : RpAll c.K F vs ds)
    (e0 : Ex F00 F) (q : Po (XW c pa H0 F0 F) (match f (ds.map .v) with
      | .ok rv _ => .ok rv r
      | .ex e _ => .ex e r
      | .no => .no) fun rv r' => ∀ F' H' v, Ok c.K pa H0 F0 F' H' st r' → Ex F00 F' → RvOk c.K H0 F' H' st r' v rv → Q v H') : spG c.K c.mg n f vs H Q (fun cls d H' => c.W cls d st H') := by
  refine ⟨by rw [dpa_len dps]; exact hn, pa, H, F, ds.map .v, argsV dps k1.fH k1.tb, argsOkV ds, ?_⟩
  have grow : ∀ {F' H' : Hp} {z : List Sl}, Ok c.K pa H F F' H' (vs.map some) z → Ok c.K pa H0 F0 F' H' st r := fun {F' H' z} k2 => k1.grow k2.hH k2.fF k2.fH (fun a h1 h2 => k2.sep a h2 h1) k2.tb
  cases hf : f (ds.map .v) with
  | no =>
    rw [hf] at q
    exact q.elim
  | ex ee z =>
    rw [hf] at q
    exact fun F' H' cls dd k2 xo => q F' H' st cls dd (grow k2) k2.fF xo
  | ok rv z =>
    rw [hf] at q
    refine fun F' H' v k2 hv => q F' H' v (grow k2) (e0.trans k2.fF) ?_
    cases rv with
    | v d => exact hv
    | o ct =>
      obtain ⟨a, rfl, z1, z2, z3, z4⟩ := hv
      exact ⟨a, rfl, z1, k1.hH.nn z2, z3, k1.awayC k2.hH z2 z4.2⟩
theorem o_call (G : Fn X.prog X.w X.K X.mg X.base k x n f) (hr : Rm k X.A) (tk : Takes X c.W) (ha : PA X (e :: es) (tA c ms)) (hK : c.K = X.K := by rfl) (hM : c.mg = X.mg := by rfl) (hg : Gl X x := by rfl) (hnm : ∀ r ds r', ms r = .ok ds r' → ds.length = n)
    (hdb : (x == ("__debug__" : Str)) = false := by decide) (he : starEach (e :: es) X.env = (false, eval e X.env) :: starEach es X.env := by rfl) (hpl : (backTo pos (starEach es X.env)).any (·.1) = false := by rfl) :
    PE X (.Call (.Name x p) (e :: es) [] pos) (tO c (cCall f ms)) := by
  obtain ⟨a, fd, ps, g1, g2, g3, g4⟩ := G.ex
  refine pe_cq (pe_callG (Ew := fun st cls d H' => c.W cls d st H') g4 hr hg g1 g2 g3 (fun σ => passAt tk σ) ha hdb he hpl) fun st H Q ⟨pa, H0, F0, F, r, ok, po⟩ => ?_
  refine ⟨pa, H0, F0, F, r, ok, ?_⟩
  have po : Po (XW c pa H0 F0 F) ((ms r).bind _) _ := po
  cases hm : ms r with
  | no =>
    rw [hm] at po
    exact po.elim
  | ex ee r1 =>
    rw [hm] at po
    exact po
  | ok ds r1 =>
    rw [hm] at po
    intro F1 H1 vs k1 e1 dps
    rw [← hK, ← hM]
    exact callV (hnm r ds r1 hm) k1 dps e1 (po.mono (XW.mono e1) fun _ _ x => x)
theorem aNil_len : ∀ (r : En) (ds : List D) (r' : En), aNil r = .ok ds r' → ds.length = 0 := fun r ds r' h => by
  cases h
  rfl
theorem aCons_len {m : M D} {ms : M (List D)} {n : Nat} (h : ∀ (r : En) (ds : List D) (r' : En), ms r = .ok ds r' → ds.length = n) : ∀ (r : En) (ds : List D) (r' : En), aCons m ms r = .ok ds r' → ds.length = n + 1 := fun r ds r' e => by
  have e : (m r).bind (fun d => ms.bind fun ds => M.ret (d :: ds)) = .ok ds r' := e
  cases hm : m r with
  | no =>
    rw [hm] at e
    cases e
  | ex ee r1 =>
    rw [hm] at e
    cases e
  | ok d r1 =>
    rw [hm] at e
    have e : (ms r1).bind (fun ds => M.ret (d :: ds)) = .ok ds r' := e
    cases hs : ms r1 with
    | no =>
      rw [hs] at e
      cases e
    | ex ee r2 =>
      rw [hs] at e
      cases e
    | ok ds2 r2 =>
      rw [hs] at e
      cases e
      exact congrArg Nat.succ (h r1 ds2 _ hs)
/-- f(x, e, ..): x in slot i is the callee's to change -/
theorem callI {i : Nat} {F H : Hp} {st : L2.St} {r : En} {pa : Nat → Addr} {H0 F0 F00 : Hp} {v0 : V} {vs : List V} {ds : List D} {Q : VK} (hn : ds.length + 1 = n) (k1 : Ok c.K pa H0 F0 F H st r) (hv0 : st[i]? = some (some v0)) (dps : RpAll c.K F vs ds)
    (e0 : Ex F00 F) (q : Po (XW c pa H0 F0 F) (match getC i r with
      | some ct => (match f (.io ct :: ds.map .v) with
        | .ok rv (.io ct' :: _) => .ok rv (putC i ct' r)
        | .ex e (.io ct' :: _) => .ex e (putC i ct' r)
        | _ => .no)
      | none => .no) fun rv r' => ∀ F' H' v, Ok c.K pa H0 F0 F' H' st r' → Ex F00 F' → RvOk c.K H0 F' H' st r' v rv → Q v H') : spG c.K c.mg n f (v0 :: vs) H Q (fun cls d H' => c.W cls d st H') := by
  cases hg : getC i r with
  | none =>
    rw [hg] at q
    exact q.elim
  | some ct =>
    rw [hg] at q
    obtain ⟨s, hs, hso⟩ := getC_some hg
    obtain ⟨a, ha, nF, n0, hct⟩ := k1.ownd hs hso
    rw [hv0] at ha
    cases ha
    -- all but that object
    let Hk : Hp := Hless H st r [i]
    have hk_a : Hk a = none := Hless.at_ ⟨i, List.mem_singleton.mpr rfl, s, ct, a, hs, hso, hv0, .inl rfl⟩
    have exk : Ex Hk H := Hless.ex
    have okA : Ok c.K (fun _ => a) Hk F F H ((V.ref a :: vs).map some) (.io ct :: ds.map Sl.v) := by
      have base := argsV (pa := fun _ => a) dps k1.fH k1.tb
      have noV : ∀ (j : Nat) (s' : Sl) (c' : Ct), (Sl.io ct :: ds.map Sl.v)[j]? = some s' → s'.own = some c' → j = 0 := fun j s' c' h o => by
        cases j with
        | zero => rfl
        | succ j =>
          have h : (ds.map Sl.v)[j]? = some s' := h
          rw [List.getElem?_map] at h
          cases hd : ds[j]? with
          | none =>
            rw [hd] at h
            cases h
          | some d =>
            rw [hd] at h
            cases h
            cases o
      refine ⟨exk, Ex.refl F, k1.fH, fun _ _ h => h, ?_, fun j s' h n => ?_, k1.tb, fun j1 j2 s1 s2 c1 c2 b ne h1 h2 o1 o2 _ _ => ?_, fun j1 s1 c1 a1 b h1 h2 h3 h4 => ?_⟩
      · have := base.len
        simp only [List.map_cons, List.length_cons] at this ⊢
        omega
      · cases j with
        | zero =>
          cases h
          exact ⟨.ref a, rfl, rfl, nF, hk_a, hct⟩
        | succ j =>
          obtain ⟨v, g1, g2⟩ := base.sl j s' h n
          refine ⟨v, g1, ?_⟩
          have h : (ds.map Sl.v)[j]? = some s' := h
          rw [List.getElem?_map] at h
          cases hd : ds[j]? with
          | none =>
            rw [hd] at h
            cases h
          | some d =>
            rw [hd] at h
            cases h
            exact g2
      · exact ne ((noV j1 s1 c1 h1 o1).trans (noV j2 s2 c2 h2 o2).symm)
      · cases noV j1 s1 c1 h1 h2
        cases h1
        cases h2
        cases h3
        obtain ⟨f1, f2, f3⟩ := k1.inn i s ct a b hs hso hv0 h4
        refine ⟨f1, Hless.at_ ⟨i, List.mem_singleton.mpr rfl, s, ct, a, hs, hso, hv0, .inr h4⟩, fun j2 s2 c2 a2 g1 g2 g3 => ?_⟩
        cases noV j2 s2 c2 g1 g2
        cases g1
        cases g2
        cases g3
        exact ⟨(f3 i s ct a hs hso hv0).1, fun z => absurd rfl z⟩
    have ao : ArgsOk (.io ct :: ds.map Sl.v) := fun s' hs' => by
      rcases List.mem_cons.mp hs' with rfl | hs'
      · exact .inr ⟨ct, rfl⟩
      · exact argsOkV ds s' hs'
    refine ⟨by rw [List.length_cons, dpa_len dps]; exact hn, fun _ => a, Hk, F, _, okA, ao, ?_⟩
    -- the caller's state behind the call
    have bk : ∀ {ct' : Ct} {z : List Sl}, BackOk st r (putC i ct' r) [i] ((V.ref a :: vs).map some) (.io ct' :: z) := fun {ct' z} => by
      have put : putC i ct' r = r.set i (s.put ct') := by
        unfold putC
        rw [hs]
      have hl : i < r.length := (List.getElem?_eq_some_iff.mp hs).1
      rw [put]
      refine ⟨List.length_set, fun j s' h => ?_⟩
      by_cases e : i = j
      · subst e
        rw [List.getElem?_set_self hl] at h
        cases h
        exact .inr ⟨0, s, ct, ct', a, List.mem_singleton.mpr rfl, hs, hso, hv0, rfl, rfl, rfl⟩
      · rw [List.getElem?_set_ne e] at h
        exact .inl ⟨fun z => e (List.mem_singleton.mp z).symm, h⟩
    have grow : ∀ {F' H' : Hp} {ct' : Ct} {z : List Sl}, Ok c.K (fun _ => a) Hk F F' H' ((V.ref a :: vs).map some) (.io ct' :: z) → Ok c.K pa H0 F0 F' H' st (putC i ct' r) := fun {F' H' ct' z} k2 => k1.lent k2 bk
    dsimp only at q
    cases hf : f (.io ct :: ds.map .v) with
    | no =>
      rw [hf] at q
      exact q.elim
    | ex ee z =>
      rw [hf] at q
      cases z with
      | nil => exact q.elim
      | cons z0 zr =>
        cases z0 with
        | io ct' => exact fun F' H' cls dd k2 xo => q F' H' st cls dd (grow k2) k2.fF xo
        | _ => exact q.elim
    | ok rv z =>
      rw [hf] at q
      cases z with
      | nil => exact q.elim
      | cons z0 zr =>
        cases z0 with
        | io ct' =>
          refine fun F' H' v k2 hv => q F' H' v (grow k2) (e0.trans k2.fF) ?_
          exact hv.lent k1 k2 bk
        | _ => exact q.elim
theorem o_callI (i : Nat) {y : Str} {py : Pos} (G : Fn X.prog X.w X.K X.mg X.base k x n f) (hr : Rm k X.A) (tk : Takes X c.W) (ha : PA X es (tA c ms)) (hnm : ∀ r ds r', ms r = .ok ds r' → ds.length + 1 = n) (hK : c.K = X.K := by rfl) (hM : c.mg = X.mg := by rfl) (hg : Gl X x := by rfl)
    (hN : X.N[i]? = some y := by rfl) (hv : Vis X.env.scope y := by first | exact Or.inl rfl | exact Or.inr (Or.inl rfl) | exact Or.inr (Or.inr rfl)) (hd : (y == ("__debug__" : Str)) = false := by decide) (hcd : (y == ("__classdict__" : Str)) = false := by decide)
    (hdb : (x == ("__debug__" : Str)) = false := by decide) (he : starEach (.Name y py :: es) X.env = (false, eval (.Name y py) X.env) :: starEach es X.env := by rfl) (hpl : (backTo pos (starEach es X.env)).any (·.1) = false := by rfl) :
    PE X (.Call (.Name x p) (.Name y py :: es) [] pos) (tO c (cCallI i f ms)) := by
  obtain ⟨a, fd, ps, g1, g2, g3, g4⟩ := G.ex
  refine pe_cq (pe_callG (Ew := fun st cls d H' => c.W cls d st H') g4 hr hg g1 g2 g3 (fun σ => passAt tk σ) (pa_cons (pe_var (i := i) hN hv hd hcd) ha he) hdb he hpl) fun st H Q ⟨pa, H0, F0, F, r, ok, po⟩ => ?_
  unfold cCallI at po
  cases hgc : getC i r with
  | none =>
    rw [hgc] at po
    exact po.elim
  | some ct0 =>
  rw [hgc] at po
  dsimp only at po
  obtain ⟨s0, hs0, hso0⟩ := getC_some hgc
  obtain ⟨a0, hv0, _⟩ := ok.ownd hs0 hso0
  refine ⟨_, hv0, pa, H0, F0, F, r, ok, ?_⟩
  cases hm : ms r with
  | no =>
    rw [hm] at po
    exact po.elim
  | ex ee r1 =>
    rw [hm] at po
    exact po
  | ok ds r1 =>
    rw [hm] at po
    intro F1 H1 vs k1 e1 dps
    rw [← hK, ← hM]
    show spG c.K c.mg n f ((V.ref a0 :: vs)) H1 Q _
    exact callI (hnm r ds r1 hm) k1 hv0 dps e1 (po.mono (XW.mono e1) fun _ _ x => x)
end
end Pu
namespace Pu
open PySem PySem.Spec PyProof.Rows L2
variable [TabT]
/-! ### tables of data -/
def keyD : D → Option Key
  | .int i => some (.inl i)
  | .str x => some (.inr x)
  | _ => none
def vK {κ : Type} [DecidableEq κ] (kvs : List (κ × D)) (k : κ) : Option D := (kvs.find? fun kv => decide (kv.1 = k)).map (·.2)
def pK {κ : Type} [DecidableEq κ] (kvs : List (κ × D)) (k : κ) (d : D) : List (κ × D) :=
  if (kvs.any fun kv => decide (kv.1 = k)) = true then kvs.map (fun kv => if kv.1 = k then (kv.1, d) else kv) else kvs ++ [(k, d)]
section
variable {K : PySem.W.Frag} {F : Hp} {κ : Type} [DecidableEq κ]
omit [DecidableEq κ] in
theorem kv_len : ∀ {ks : List (κ × V)} {kvs : List (κ × D)}, KvAll K F ks kvs → ks.length = kvs.length
  | _, _, .nil => rfl
  | _, _, .cons _ t => congrArg Nat.succ (kv_len t)
theorem kv_any (k : κ) : ∀ {ks : List (κ × V)} {kvs : List (κ × D)}, KvAll K F ks kvs → (ks.any fun kv => decide (kv.1 = k)) = (kvs.any fun kv => decide (kv.1 = k))
  | _, _, .nil => rfl
  | _, _, .cons _ t => by
    rw [List.any_cons, List.any_cons, kv_any k t]
theorem kv_get {k : κ} {d : D} : ∀ {ks : List (κ × V)} {kvs : List (κ × D)}, KvAll K F ks kvs → vK kvs k = some d → ∃ v, valV ks k = some v ∧ Rp K F v d
  | _, _, .nil, h => by cases h
  | _, _, .cons (k := k') (v := v') (d := d') (ks := ks) (kvs := kvs) r t, h => by
    by_cases e : k' = k
    · have h1 : vK ((k', d') :: kvs) k = some d' := by simp [vK, List.find?_cons, e]
      rw [h1] at h
      cases h
      exact ⟨v', valV_pos e, r⟩
    · have h1 : vK ((k', d') :: kvs) k = vK kvs k := by simp [vK, List.find?_cons, e]
      rw [h1] at h
      obtain ⟨v, g1, g2⟩ := kv_get t h
      exact ⟨v, (valV_neg e).trans g1, g2⟩
theorem kv_map {k : κ} {v : V} {d : D} (r : Rp K F v d) : ∀ {ks : List (κ × V)} {kvs : List (κ × D)}, KvAll K F ks kvs → KvAll K F (ks.map fun kv => if kv.1 = k then (kv.1, v) else kv) (kvs.map fun kv => if kv.1 = k then (kv.1, d) else kv)
  | _, _, .nil => .nil
  | _, _, .cons (k := k') (v := v') (d := d') (ks := ks) (kvs := kvs) r' t => by
    rw [List.map_cons, List.map_cons]
    by_cases e : k' = k
    · rw [if_pos e, if_pos e]
      exact .cons r (kv_map r t)
    · rw [if_neg e, if_neg e]
      exact .cons r' (kv_map r t)
omit [DecidableEq κ] in
theorem kv_app : ∀ {ks ls : List (κ × V)} {kvs lvs : List (κ × D)}, KvAll K F ks kvs → KvAll K F ls lvs → KvAll K F (ks ++ ls) (kvs ++ lvs)
  | _, _, _, _, .nil, h => h
  | _, _, _, _, .cons r t, h => .cons r (kv_app t h)
theorem kv_put {k : κ} {v : V} {d : D} {ks : List (κ × V)} {kvs : List (κ × D)} (h : KvAll K F ks kvs) (r : Rp K F v d) : KvAll K F (putK ks k v) (pK kvs k d) := by
  unfold putK pK
  rw [kv_any k h]
  split
  · exact kv_map r h
  · exact kv_app h (.cons r .nil)
omit [DecidableEq κ] in
theorem kv_merge : ∀ {ls : List (Key × V)} {lvs : List (Key × D)}, KvAll K F ls lvs → ∀ {ks : List (Key × V)} {kvs : List (Key × D)}, KvAll K F ks kvs → KvAll K F (mergeK ks ls) (lvs.foldl (fun acc kv => pK acc kv.1 kv.2) kvs)
  | _, _, .nil, _, _, h => h
  | _, _, .cons r t, _, _, h => kv_merge t (kv_put h r)
theorem rp_key {v : V} {d : D} {k : Key} (h : Rp K F v d) (e : keyD d = some k) : v = kV k := by
  cases h with
  | int i =>
    cases e
    rfl
  | str x =>
    cases e
    rfl
  | _ => cases e
end
/-! ### lists and dicts of one's own -/
def sAppend (i : Nat) (m : M D) : M Fl := fun r => match getC i r with
  | some (.l _) => (m r).bind fun d r => match getC i r with
    | some (.l ds) => if ds.length < 16777216 then .ok .nx (putC i (.l (ds ++ [d])) r) else .no
    | _ => .no
  | _ => .no
/-- x.extend(a new list) -/
def sExtend (i : Nat) (m : M RV) : M Fl := fun r => match getC i r with
  | some (.l _) => (m r).bind fun rv r => match rv, getC i r with
    | .o (.l es), some (.l ds) => if ds.length + es.length ≤ 16777216 then .ok .nx (putC i (.l (ds ++ es)) r) else .no
    | _, _ => .no
  | _ => .no
section
variable {X : Cx} {c : Cc}
theorem s_append (i : Nat) {x : Str} {e : Expr} {m : M D} {px apos cpos pos : Pos} (h : PE X e (tM c m)) (hK : c.K = X.K := by rfl) (hN : X.N[i]? = some x := by rfl) (hv : Vis X.env.scope x := by first | exact Or.inl rfl | exact Or.inr (Or.inl rfl) | exact Or.inr (Or.inr rfl)) (hd : (x == ("__debug__" : Str)) = false := by decide)
    (hcd : (x == ("__classdict__" : Str)) = false := by decide) (hs1 : starEach [e] X.env = [(false, eval e X.env)] := by rfl)
    (hbase : attributeBase (.Name x px) "append" X.env (eval (.Name x px) X.env) = eval (.Name x px) X.env := by rfl)
    (hfew : ((backTo cpos (starEach [e] X.env)).all (fun x => !x.1) && (backToKw cpos (keywordEach [] X.env)).all (fun x => x.1.isSome) && decide (([e] : List Expr).length + ([] : List Keyword).length + (if ([] : List Keyword).isEmpty then 0 else 1) < 30)) = true := by rfl)
    (hline : (apos.endLine == cpos.line) = true := by rfl) (hplain : (backTo cpos (starEach [] X.env)).any (·.1) = false := by rfl) (hsw : swapsWith (.Call (.Attribute (.Name x px) "append" apos) [e] [] cpos) none pos.line X.env = pure false := by rfl) :
    PS X (.Expr (.Call (.Attribute (.Name x px) "append" apos) [e] [] cpos) pos) (sM c (sAppend i m)) :=
  ps_cq (ps_expr (pe_bm PySem.F.plainAttrs_list PySem.F.slot_list_append PySem.F.type_list_append mt_append (pe_var (i := i) hN hv hd hcd) (pa_cons h pa_nil hs1) hbase hfew hline hs1 hplain) hsw) fun Dd st H ⟨pa, H0, F0, F, r, ok, po⟩ => by
    unfold sAppend at po
    split at po
    · rename_i ds0 hg
      obtain ⟨s0, hs0, hso0⟩ := getC_some hg
      obtain ⟨a, hst, nF, n0, vs0, hH0, hr0⟩ := ok.ownd hs0 hso0
      refine ⟨_, hst, .inl ⟨rfl, vs0, .inl (.inl hH0)⟩, ?_⟩
      refine ⟨pa, H0, F0, F, r, ok, (Po.bind po).mono (fun _ _ x => x) fun d r1 q F1 H1 v k1 e1 dp => ?_⟩
      split at q
      · rename_i ds hg1
        split at q
        · rename_i hl
          obtain ⟨s1, hs1, hso1⟩ := getC_some hg1
          obtain ⟨a1, hst1, nF1, n01, vs, hH1, hr1⟩ := k1.ownd hs1 hso1
          rw [hst] at hst1
          cases hst1
          refine ⟨a, vs, v, rfl, rfl, hH1, by rw [dpa_len hr1, sizeLine_eq]; exact hl, ?_⟩
          exact q F1 _ st (k1.putC hg1 hst ⟨_, upd_same, dpa_app hr1 (.cons dp .nil)⟩) e1
        · exact q.elim
      · exact q.elim
    · exact po.elim
/-- a key that is a tuple of ints and texts -/
def keysD : List D → Option (List Key)
  | [] => some []
  | d :: ds => (keyD d).bind fun k => (keysD ds).map (k :: ·)
def tkeyD : D → Option (List Key)
  | .tuple ds => keysD ds
  | _ => none
theorem rp_keysD {K : PySem.W.Frag} {F : Hp} : ∀ {vs : List V} {ds : List D} {ks : List Key}, RpAll K F vs ds → keysD ds = some ks → vs = ks.map kV
  | _, _, _, .nil, h => by
    cases h
    rfl
  | _, _, _, .cons (d := d) (ds := ds) r t, h => by
    have h : (keyD d).bind (fun k => (keysD ds).map (k :: ·)) = some _ := h
    cases hk : keyD d with
    | none =>
      rw [hk] at h
      cases h
    | some k =>
      rw [hk] at h
      cases hks : keysD ds with
      | none =>
        rw [hks] at h
        cases h
      | some ks2 =>
        rw [hks] at h
        cases h
        rw [rp_keysD t hks, rp_key r hk]
        rfl
theorem rp_tkey {K : PySem.W.Frag} {F : Hp} {v : V} {d : D} {ks : List Key} (h : Rp K F v d) (hk : tkeyD d = some ks) : ∃ b, v = .ref b ∧ F b = some (.tup (ks.map kV)) := by
  cases h with
  | @tup a xs ds g1 g2 =>
    refine ⟨a, rfl, ?_⟩
    rw [← rp_keysD g2 hk]
    exact g1
  | _ => cases hk
/-! o[k] = e -/
theorem pset_or {t t' : TSet} (h : PSet X t) (h' : PSet X t') : PSet X (fun o i v H Q => t o i v H Q ∨ t' o i v H Q) :=
  fun pins s st H o i v ov iv u Q I ro ri rv q => q.elim (h pins s st H o i v ov iv u Q I ro ri rv) (h' pins s st H o i v ov iv u Q I ro ri rv)
/-- the slot is owned ahead of the key -/
def sPut' (i : Nat) (mk m : M D) : M Fl := m.bind fun d r => match getC i r with
  | none => .no
  | some _ => (mk r).bind fun k r => match getC i r with
    | some (.l ds) => (match k with
      | .int n => (match ixN ds.length n with
        | some j => .ok .nx (putC i (.l (ds.set j d)) r)
        | none => .no)
      | _ => .no)
    | some (.d kvs) => (match keyD k with
      | some y => if kvs.length < 16777216 then .ok .nx (putC i (.d (pK kvs y d)) r) else .no
      | none => .no)
    | some (.t kvs) => (match tkeyD k with
      | some y => if kvs.length < 16777216 then .ok .nx (putC i (.t (pK kvs y d)) r) else .no
      | none => .no)
    | some (.n _) => .no
    | none => .no
theorem s_put (i : Nat) {x : Str} {ek e : Expr} {mk m : M D} {px spos pos : Pos} (hk : PE X ek (tM c mk)) (h : PE X e (tM c m)) (hu : X.A.units + 1 < cLine) (hN : X.N[i]? = some x := by rfl) (hv : Vis X.env.scope x := by first | exact Or.inl rfl | exact Or.inr (Or.inl rfl) | exact Or.inr (Or.inr rfl)) (hd : (x == ("__debug__" : Str)) = false := by decide)
    (hcd : (x == ("__classdict__" : Str)) = false := by decide) (ha : ∀ v, assign (.Subscript (.Name x px) ek spos) X.env v = (do
      let ov ← holding [v] (eval (.Name x px) X.env)
      let iv ← holding [v, ov] (eval ek X.env)
      standAt spos
      holding [v, ov, iv] (setItem ov iv v)
      release [v, ov, iv] []) := by intro _; rfl)
    (hs : swapsWithSole [.Subscript (.Name x px) ek spos] e pos.line X.env = pure false := by rfl) (hw : swappedStores [.Subscript (.Name x px) ek spos] e X.env = pure none := by rfl)
    (h1 : (assignEach [.Subscript (.Name x px) ek spos] X.env).map (·.2) = [assign (.Subscript (.Name x px) ek spos) X.env] := by rfl) :
    PS X (.Assign [.Subscript (.Name x px) ek spos] e pos) (sM c (sPut' i mk m)) :=
  ps_cq (ps_asg h (pg_sub (pe_var (i := i) hN hv hd hcd) hk (pset_or set_list (set_dict hu)) ha) hs hw h1) fun Dd st H ⟨pa, H0, F0, F, r, ok, po⟩ => seqM ok po fun d r1 F1 H1 v k1 e1 dp q => by
    split at q
    · exact q.elim
    · rename_i ct0 hg
      obtain ⟨s0, hs0, hso0⟩ := getC_some hg
      obtain ⟨a, hst, _⟩ := k1.ownd hs0 hso0
      refine ⟨_, hst, pa, H0, F0, F1, r1, k1, (Po.bind q).mono (fun _ _ x => x) fun kd r2 q F2 H2 kv k2 e2 dk => ?_⟩
      split at q
      · rename_i ds hg2
        obtain ⟨s1, hs1, hso1⟩ := getC_some hg2
        obtain ⟨a1, hst1, nF1, n01, vs, hH1, hr1⟩ := k2.ownd hs1 hso1
        rw [hst] at hst1
        cases hst1
        split at q
        · rename_i n
          split at q
          · rename_i j hj
            cases rp_int dk
            refine .inl ⟨a, vs, n, j, rfl, rfl, hH1, by rw [dpa_len hr1]; exact hj, ?_⟩
            exact q F2 _ st (k2.putC hg2 hst ⟨_, upd_same, dpa_set (dp_mono e2 dp) j hr1⟩) (e1.trans e2)
          · exact q.elim
        · exact q.elim
      · rename_i kvs hg2
        obtain ⟨s1, hs1, hso1⟩ := getC_some hg2
        obtain ⟨a1, hst1, nF1, n01, ks, hH1, hr1⟩ := k2.ownd hs1 hso1
        rw [hst] at hst1
        cases hst1
        split at q
        · rename_i y hy
          split at q
          · rename_i hl
            cases rp_key dk hy
            refine .inr ⟨a, _, rfl, DPut.k (k := y) hH1 (by rw [kv_len hr1, sizeLine_eq]; exact hl), ?_⟩
            exact q F2 _ st (k2.putC hg2 hst ⟨_, upd_same, kv_put hr1 (dp_mono e2 dp)⟩) (e1.trans e2)
          · exact q.elim
        · exact q.elim
      · rename_i kvs hg2
        obtain ⟨s1, hs1, hso1⟩ := getC_some hg2
        obtain ⟨a1, hst1, nF1, n01, ks, hH1, hr1⟩ := k2.ownd hs1 hso1
        rw [hst] at hst1
        cases hst1
        split at q
        · rename_i y hy
          split at q
          · rename_i hl
            obtain ⟨b, rfl, hb⟩ := rp_tkey dk hy
            refine .inr ⟨a, _, rfl, DPut.t (k := y) hH1 (k2.fH.at_ _ _ hb fun ps z => nomatch z) (by rw [kv_len hr1, sizeLine_eq]; exact hl), ?_⟩
            exact q F2 _ st (k2.putC hg2 hst ⟨_, upd_same, kv_put hr1 (dp_mono e2 dp)⟩) (e1.trans e2)
          · exact q.elim
        · exact q.elim
      · exact q.elim
      · exact q.elim
/-! x[k], len(x), where x may be one's own -/
def ixL (ds : List D) : D → Option D
  | .int n => atI ds n
  | _ => none
def ixD : D → D → Option D
  | .list ds, k => ixL ds k
  | .tuple ds, k => ixL ds k
  | .str z, .int n => if z.length ≤ 16777216 then (atI z.cps.toList n).map fun ch => .str ⟨#[ch]⟩ else none
  | _, _ => none
theorem atI_rp {K : PySem.W.Frag} {F : Hp} {vs : List V} {ds : List D} {n : Int} {d : D} (hr : RpAll K F vs ds) (h : atI ds n = some d) : ∃ v, atI vs n = some v ∧ Rp K F v d := by
  unfold atI at h ⊢
  rw [dpa_len hr]
  cases hj : ixN ds.length n with
  | none =>
    rw [hj] at h
    cases h
  | some j =>
    rw [hj] at h
    exact dpa_get hr h
theorem opr_cq {f : Value → Value → Sem Value} {r r' : R2} (h : OpR X f r) (i : ∀ x y H Q, r' x y H Q → r x y H Q) : OpR X f r' := fun pins s st H x y v u Q I rx ry q => h pins s st H x y v u Q I rx ry (i x y H Q q)
theorem ixr_cq {r r' : R2} (h : IxR X r) (i : ∀ x y H Q, r' x y H Q → r x y H Q) : IxR X r' := fun va sl pins s st H x y v u Q I rx ry q => h va sl pins s st H x y v u Q I rx ry (i x y H Q q)
theorem callr_cq {f : Value} {r r' : List V → Hp → VK → Prop} (h : CallR X f r) (i : ∀ x H Q, r' x H Q → r x H Q) : CallR X f r' := fun pins s st H x v Q I rx q => h pins s st H x v Q I rx (i x H Q q)
theorem ix_data (hK : c.K = X.K := by rfl) : IxR X (rD2 c.K ixD) := ixr_cq ix_seq fun x y H Q ⟨F, d, e, z, fh, dx, dy, hz, q⟩ => by
  cases dx with
  | @lst a vs ds h1 h2 =>
    cases dy with
    | int n =>
      obtain ⟨v, g1, g2⟩ := atI_rp h2 hz
      exact .inl ⟨a, vs, n, v, rfl, rfl, by rw [← hK]; exact fh.l h1, g1, q v F H (.inl ⟨rfl, rfl⟩) g2⟩
    | _ => cases hz
  | @tup a vs ds h1 h2 =>
    cases dy with
    | int n =>
      obtain ⟨v, g1, g2⟩ := atI_rp h2 hz
      exact .inr (.inl ⟨a, vs, n, v, rfl, rfl, by rw [← hK]; exact fh.t h1, g1, q v F H (.inl ⟨rfl, rfl⟩) g2⟩)
    | _ => cases hz
  | str w =>
    cases dy with
    | int n =>
      have hz : (if w.length ≤ 16777216 then (atI w.cps.toList n).map fun ch => PyData.str ⟨#[ch]⟩ else none) = some z := hz
      by_cases hl : w.length ≤ 16777216
      · rw [if_pos hl] at hz
        cases ha : atI w.cps.toList n with
        | none =>
          rw [ha] at hz
          cases hz
        | some ch =>
          rw [ha] at hz
          cases hz
          exact .inr (.inr ⟨w, n, ch, rfl, rfl, by rw [sizeLine_eq]; exact hl, ha, q _ F H (.inl ⟨rfl, rfl⟩) (.str _)⟩)
      · rw [if_neg hl] at hz
        cases hz
    | _ => cases hz
  | _ => cases hz
theorem pe_or' {e : Expr} {t t' : TE} (h : PE X e t) (h' : PE X e t') : PE X e (fun st H Q => t st H Q ∨ t' st H Q) := ⟨fun pins s st H Q I q => q.elim (h.run pins s st H Q I) (h'.run pins s st H Q I)⟩
/-- x[k], x a list or a dict of one's own, or data -/
def eIxS (i : Nat) (mk : M D) : M D := fun r => match getC i r with
  | some (.l _) => (mk r).bind fun k r => match getC i r with
    | some (.l ds) => M.opt (ixL ds k) r
    | _ => .no
  | some (.d _) => (mk r).bind fun k r => match getC i r with
    | some (.d kvs) => M.opt ((keyD k).bind (vK kvs)) r
    | _ => .no
  | some (.t _) => .no
  | some (.n _) => .no
  | none => bin ixD (getS i) mk r
theorem e_ixS (i : Nat) {x : Str} {ek : Expr} {mk : M D} {px pos : Pos} (hk : PE X ek (tM c mk)) (hu : X.A.units + 1 < cLine) (hK : c.K = X.K := by rfl) (hs : PlainIx ek := by exact fun _ _ => rfl) (hN : X.N[i]? = some x := by rfl) (hv : Vis X.env.scope x := by first | exact Or.inl rfl | exact Or.inr (Or.inl rfl) | exact Or.inr (Or.inr rfl)) (hd : (x == ("__debug__" : Str)) = false := by decide)
    (hcd : (x == ("__classdict__" : Str)) = false := by decide) : PE X (.Subscript (.Name x px) ek pos) (tM c (eIxS i mk)) :=
  pe_cq (pe_or' (pe_or' (pe_ix ix_list (pe_var (i := i) hN hv hd hcd) hk hs) (pe_dget hu (pe_var (i := i) hN hv hd hcd) hk hs)) (e_ix (c := c) (ix_data hK) (e_var i hN hv hd hcd) hk hs)) fun st H Q ⟨pa, H0, F0, F, r, ok, po⟩ => by
    unfold eIxS at po
    split at po
    · rename_i ds0 hg
      obtain ⟨s0, hs0, hso0⟩ := getC_some hg
      obtain ⟨a, hst, _⟩ := ok.ownd hs0 hso0
      refine .inl (.inl ⟨_, hst, pa, H0, F0, F, r, ok, (Po.bind po).mono (fun _ _ x => x) fun kd r1 q F1 H1 v k1 e1 dp => ?_⟩)
      split at q
      · rename_i ds hg1
        obtain ⟨s1, hs1, hso1⟩ := getC_some hg1
        obtain ⟨a1, hst1, nF1, n01, vs, hH1, hr1⟩ := k1.ownd hs1 hso1
        rw [hst] at hst1
        cases hst1
        obtain ⟨z, hz, q2⟩ := opt_po q
        cases dp with
        | int n =>
          obtain ⟨w, g1, g2⟩ := atI_rp hr1 hz
          exact ⟨a, vs, n, w, rfl, rfl, .inl (.inl hH1), g1, q2 F1 H1 w k1 e1 g2⟩
        | _ => cases hz
      · exact q.elim
    · rename_i kv0 hg
      obtain ⟨s0, hs0, hso0⟩ := getC_some hg
      obtain ⟨a, hst, _⟩ := ok.ownd hs0 hso0
      refine .inl (.inr ⟨_, hst, pa, H0, F0, F, r, ok, (Po.bind po).mono (fun _ _ x => x) fun kd r1 q F1 H1 v k1 e1 dp => ?_⟩)
      split at q
      · rename_i kvs hg1
        obtain ⟨s1, hs1, hso1⟩ := getC_some hg1
        obtain ⟨a1, hst1, nF1, n01, ks, hH1, hr1⟩ := k1.ownd hs1 hso1
        rw [hst] at hst1
        cases hst1
        obtain ⟨z, hz, q⟩ := opt_po q
        cases hy : keyD kd with
        | none =>
          rw [hy] at hz
          cases hz
        | some y =>
          rw [hy] at hz
          obtain ⟨w, g1, g2⟩ := kv_get hr1 hz
          cases rp_key dp hy
          refine ⟨a, w, rfl, ?_, q F1 H1 w k1 e1 g2⟩
          rw [← g1]
          exact DGet.k hH1
      · exact q.elim
    · exact po.elim
    · exact po.elim
    · exact .inr ⟨pa, H0, F0, F, r, ok, po⟩
/-- len(x) -/
def lenD : D → Option D
  | .list ds => some (.int (ds.length : Nat))
  | .tuple ds => some (.int (ds.length : Nat))
  | .str z => if z.length ≤ 16777216 then some (.int (z.length : Nat)) else none
  | _ => none
def one (g : D → Option D) : List D → Option D
  | [d] => g d
  | _ => none
theorem one_some {g : D → Option D} {ds : List D} {z : D} (h : one g ds = some z) : ∃ d, ds = [d] ∧ g d = some z := by
  unfold one at h
  split at h
  · exact ⟨_, rfl, h⟩
  · cases h
theorem len_data (hK : c.K = X.K := by rfl) : CallR X (.builtin "len") (rDA c.K (one lenD)) := callr_cq call_len fun xs H Q ⟨F, ds, z, fh, dps, hz, q⟩ => by
  obtain ⟨d, rfl, hz⟩ := one_some hz
  obtain ⟨v, rfl, dp⟩ := rpa_one dps
  cases dp with
  | @lst a vs ds h1 h2 =>
    cases hz
    refine ⟨_, ds.length, rfl, .inl ⟨vs, by rw [← hK]; exact fh.l h1, (dpa_len h2).symm⟩, q _ F H (.inl ⟨rfl, rfl⟩) (.int _)⟩
  | @tup a vs ds h1 h2 =>
    cases hz
    refine ⟨_, ds.length, rfl, .inr ⟨vs, by rw [← hK]; exact fh.t h1, (dpa_len h2).symm⟩, q _ F H (.inl ⟨rfl, rfl⟩) (.int _)⟩
  | str w =>
    have hz : (if w.length ≤ 16777216 then some (PyData.int (w.length : Nat)) else none) = some z := hz
    by_cases hl : w.length ≤ 16777216
    · rw [if_pos hl] at hz
      cases hz
      exact ⟨_, w.length, rfl, ⟨by rw [sizeLine_eq]; exact hl, rfl⟩, q _ F H (.inl ⟨rfl, rfl⟩) (.int _)⟩
    · rw [if_neg hl] at hz
      cases hz
  | _ => cases hz
def eLenS (i : Nat) : M D := fun r => match getC i r with
  | some (.l ds) => .ok (.int (ds.length : Nat)) r
  | some (.d kvs) => .ok (.int (kvs.length : Nat)) r
  | some (.t _) => .no
  | some (.n _) => .no
  | none => nry (one lenD) (aCons (getS i) aNil) r
/-! {k: v, ..} -/
def prs : List (M D × M D) → M (List (Key × D))
  | [] => M.ret []
  | (mk, mv) :: l => mk.bind fun k => mv.bind fun d => (prs l).bind fun kvs => M.opt ((keyD k).map fun y => (y, d) :: kvs)
def oDict (l : List (M D × M D)) : M RV := (prs l).bind fun kvs => if kvs.length ≤ 15 then M.ret (.o (.d (kvs.foldl (fun acc kv => pK acc kv.1 kv.2) []))) else M.no
theorem prs_ok : ∀ (l : List (M D × M D)) {α : Type} {pa : Nat → Addr} {H0 F0 F H : Hp} {st : L2.St} {r : En} {f : List (Key × D) → M α} {k : α → En → Prop} {Q : List (V × V) → Hp → Prop}, Ok c.K pa H0 F0 F H st r → Po (XW c pa H0 F0 F) ((prs l).bind f r) k →
    (∀ kvs r1 F1 H1 ks, Ok c.K pa H0 F0 F1 H1 st r1 → Ex F F1 → KvAll c.K F1 ks kvs → Po (XW c pa H0 F0 F1) (f kvs r1) k → Q (ks.map fun kv => (kV kv.1, kv.2)) H1) → tPairs (l.map fun p => (tM c p.1, tM c p.2)) st H Q
  | [], _, pa, H0, F0, F, H, st, r, f, k, Q, ok, po, h => h [] r F H [] ok (Ex.refl F) .nil po
  | (mk, mv) :: l, _, pa, H0, F0, F, H, st, r, f, k, Q, ok, po, h => by
    have po1 : Po (XW c pa H0 F0 F) (mk.bind (fun kd => mv.bind fun d => (prs l).bind fun kvs => (M.opt ((keyD kd).map fun y => (y, d) :: kvs)).bind f) r) k := by
      have e : ((prs ((mk, mv) :: l)).bind f r) = (mk.bind (fun kd => mv.bind fun d => (prs l).bind fun kvs => (M.opt ((keyD kd).map fun y => (y, d) :: kvs)).bind f) r) := by
        show ((mk r).bind _).bind f = (mk r).bind _
        cases mk r with
        | no => rfl
        | ex e r1 => rfl
        | ok kd r1 =>
          show ((mv r1).bind _).bind f = (mv r1).bind _
          cases mv r1 with
          | no => rfl
          | ex e r2 => rfl
          | ok d r2 =>
            show ((prs l r2).bind _).bind f = (prs l r2).bind _
            cases prs l r2 <;> rfl
      rw [e] at po
      exact po
    show tM c mk st H _
    refine seqM ok po1 fun kd r1 F1 H1 v k1 e1 dk q => ?_
    show tM c mv st H1 _
    refine seqM k1 q fun d r2 F2 H2 w k2 e2 dv q => ?_
    refine prs_ok l k2 q fun kvs r3 F3 H3 ks k3 e3 hkv q => ?_
    have q : Po (XW c pa H0 F0 F3) ((M.opt ((keyD kd).map fun y => (y, d) :: kvs) r3).bind f) k := q
    cases hy : keyD kd with
    | none =>
      rw [hy] at q
      exact q.elim
    | some y =>
      rw [hy] at q
      have z := h ((y, d) :: kvs) r3 F3 H3 ((y, w) :: ks) k3 ((e1.trans e2).trans e3) (.cons (dp_mono e3 dv) hkv) q
      cases rp_key dk hy
      exact z
theorem o_dict {pos : Pos} {keys : List (Option Expr)} {values : List Expr} {l : List (M D × M D)} (h : PPs X pos keys values (l.map fun p => (tM c p.1, tM c p.2))) (hall : keys.all (·.isSome) = true := by rfl) (hl : keys.length = values.length := by rfl) (h0 : keys ≠ [] := by exact fun z => by cases z) (h15 : keys.length ≤ 15 := by decide) :
    PE X (.Dict keys values pos) (tO c (oDict l)) :=
  pe_cq (pe_disp h hall hl h0 h15) fun st H Q ⟨pa, H0, F0, F, r, ok, po⟩ p np => by
    have n0 := ok.hH.nn np
    have nF := ok.fH.nn np
    have nF0 := ok.fF.nn nF
    have kl := ok.lay (o := .dK []) np
    have kf : Ok c.K pa (upd H0 p (.dK [])) F0 F (upd H p (.dK [])) st r := kl.frame ⟨fun a o z nt => by
        by_cases ha : a = p
        · subst ha
          rw [upd_same] at z ⊢
          exact z
        · rw [upd_ne ha] at z ⊢
          exact ok.hH.at_ a o z nt, fun a ps z => by
        by_cases ha : a = p
        · subst ha
          rw [upd_same] at z
          cases z
        · rw [upd_ne ha] at z ⊢
          exact ok.hH.tb a ps z⟩ (fun a z1 z2 => by
        by_cases ha : a = p
        · subst ha
          exact absurd nF z2
        · rw [upd_ne ha] at z1
          exact ok.sep a z1 z2) (fun j s ct a hj hct hst => by
        obtain ⟨na, ni⟩ := ok.nobody np j s ct a hj hct hst
        rw [upd_ne na]
        obtain ⟨a', g1, g2, g3, g4⟩ := ok.ownd hj hct
        rw [hst] at g1
        cases g1
        exact ⟨g3, fun b hb => by
          have hb' := hb.cg (upd_ne na).symm
          have nb : b ≠ p := fun z => ni (z ▸ hb')
          rw [upd_ne nb]
          exact (ok.inn j s ct a b hj hct hst hb').2.1⟩)
    have un : ∀ {F3 H3 : Hp} {st3 : L2.St} {r3 : En}, Ok c.K pa (upd H0 p (.dK [])) F0 F3 H3 st3 r3 → Ok c.K pa H0 F0 F3 H3 st3 r3 ∧ H3 p = some (.dK []) ∧ F3 p = none ∧ Nob H3 st3 r3 p := fun {F3 H3 st3 r3} k3 => by
      have h0 : Ex H0 (upd H0 p (.dK [])) := Ex.new n0
      refine ⟨k3.frame (h0.trans k3.hH) (fun a z1 z2 => k3.sep a (by
        cases hz : H0 a with
        | none => exact absurd hz z1
        | some o => exact (h0.some hz).elim fun _ q => ne_none q) z2) (fun j s ct a hj hct hst => ?_), k3.hH.at_ p _ upd_same (fun ps z => nomatch z), none_of_not fun z => k3.sep p (ne_none upd_same) z nF0, fun j s ct a hj hct hst => ⟨?_, ?_⟩⟩
      · obtain ⟨a', g1, g2, g3, g4⟩ := k3.ownd hj hct
        rw [hst] at g1
        cases g1
        exact ⟨h0.nn g3, fun b hb => h0.nn (k3.inn j s ct a b hj hct hst hb).2.1⟩
      · obtain ⟨a', g1, g2, g3, g4⟩ := k3.ownd hj hct
        rw [hst] at g1
        cases g1
        intro z
        subst z
        rw [upd_same] at g3
        cases g3
      · intro z
        have g3 := (k3.inn j s ct a p hj hct hst z).2.1
        rw [upd_same] at g3
        cases g3
    refine prs_ok l (k := fun d r' => ∀ F' H' v, Ok c.K pa H0 F0 F' H' st r' → Ex F F' → RvOk c.K H0 F' H' st r' v d → Q v H') kf (po.mono (fun e r' z F' H' st' cls dd k' => ?_) fun _ _ x => x) fun kvs r1 F1 H1 ks k1 e1 hkv q => ?_
    · exact z F' H' st' cls dd (un k').1
    · split at q
      · rename_i hlen
        obtain ⟨k2, hp, nF1, nO⟩ := un k1
        refine ⟨hp, ks, rfl, by rw [kv_len hkv]; exact hlen, ?_⟩
        exact q F1 _ _ (k2.aside n0 nF1 nO (tabs_upd k2.tb hp (fun ps z => nomatch z) (fun c q z => by unfold LamX.CodeO at z; cases z))) e1 ⟨p, rfl, nF1, n0, ⟨_, upd_same, kv_merge hkv .nil⟩, .d nO.upd⟩
      · exact q.elim
end
end Pu
namespace Pu
open PySem PySem.Spec PyProof.Rows L2
variable [TabT]
/-! ### what the operators tell of data -/
def addD : D → D → Option D
  | .int i, .int j => some (.int (i + j))
  | .str a, .str b => szC (a.length + b.length) (.str (a ++ b))
  | .tuple xs, .tuple ys => szC (xs.length + ys.length) (.tuple (xs ++ ys))
  | .list xs, .list ys => szC (xs.length + ys.length) (.list (xs ++ ys))
  | _, _ => none
def subD : D → D → Option D
  | .int i, .int j => some (.int (i - j))
  | _, _ => none
/-- one factor of at most 64 bits, or both together below a hundred million -/
def mulOk (i j : Int) : Prop := i.natAbs < 2 ^ 64 ∨ j.natAbs < 2 ^ 64 ∨ i.natAbs.log2 + j.natAbs.log2 < 100000000
instance (i j : Int) : Decidable (mulOk i j) := by unfold mulOk; exact inferInstance
noncomputable def mulD : D → D → Option D
  | .int i, .int j => cI (mulOk i j) (some (.int (i * j))) none
  | .list xs, .int k => cI ((-(2 ^ 63) ≤ k ∧ k < 2 ^ 63) ∧ xs.length * k.toNat ≤ 16777216) (some (.list (List.replicate k.toNat xs).flatten)) none
  | .tuple xs, .int k => cI (-1000 ≤ k ∧ k ≤ 1000 ∧ xs.length ≤ 1000) (some (.tuple (List.replicate k.toNat xs).flatten)) none
  | _, _ => none
noncomputable def fdivD : D → D → Option D
  | .int i, .int j => cI (j ≠ 0 ∧ j.natAbs.log2 < 9000) (some (.int (i.fdiv j))) none
  | _, _ => none
noncomputable def modD : D → D → Option D
  | .int i, .int j => cI (j ≠ 0) (some (.int (i.fmod j))) none
  | _, _ => none
noncomputable def powD : D → D → Option D
  | .int i, .int j => cI (0 ≤ j ∧ j ≤ 1000000 ∧ i.natAbs < 2 ^ 64) (some (.int (i ^ j.toNat))) none
  | _, _ => none
def negD : D → Option D
  | .int i => some (.int (-i))
  | _ => none
noncomputable def ltD : D → D → Option D
  | .int i, .int j => some (.bool (cd (i < j)))
  | _, _ => none
noncomputable def leD : D → D → Option D
  | .int i, .int j => some (.bool (cd (i ≤ j)))
  | _, _ => none
noncomputable def gtD : D → D → Option D
  | .int i, .int j => some (.bool (cd (j < i)))
  | _, _ => none
noncomputable def geD : D → D → Option D
  | .int i, .int j => some (.bool (cd (j ≤ i)))
  | _, _ => none
/-- rows of other lengths, whatever they hold -/
def eqL : D → D → Option D
  | .list xs, .list ys => if xs.length = ys.length then none else some (.bool false)
  | .tuple xs, .tuple [] => if xs.length = 0 then none else some (.bool false)
  | _, _ => none
def eqD : D → D → Option D
  | .str a, .str b => some (.bool (decide (a = b)))
  | d, e => if SeqAt.shaped d = true ∧ SeqAt.shaped e = true then some (.bool (PyData.eqv d e)) else eqL d e
def neD : D → D → Option D
  | .str a, .str b => some (.bool (!decide (a = b)))
  | d, e => if SeqAt.shaped d = true ∧ SeqAt.shaped e = true then some (.bool (!PyData.eqv d e)) else none
section
variable {X : Cx} {c : Cc}
theorem mulOk.ok {i j : Int} (h : mulOk i j) : IntMulOk i j := by
  have b : ∀ x : Int, Builtin.Int.intBits x ≤ x.natAbs.log2 + 1 := fun x => by
    unfold Builtin.Int.intBits
    split <;> omega
  have s64 : ∀ x : Int, x.natAbs < 2 ^ 64 → Builtin.Int.intBits x ≤ 64 := fun x hx => by
    have h1 := b x
    have h2 : x.natAbs.log2 < 64 := PySem.Flt.log2_lt_of (by decide) hx
    omega
  rcases h with h | h | h
  · exact .of_left (s64 i h)
  · exact .of_right (s64 j h)
  · have h1 := b i
    have h2 := b j
    have e : bitsLine = 134217728 := by decide
    unfold IntMulOk
    intro z
    rw [Bool.and_eq_true] at z
    have z2 := z.2
    unfold Builtin.Int.intTooBig at z2
    have z3 := of_decide_eq_true z2
    rw [e] at z3
    omega
/-- lists that are read, added -/
theorem op_catR : OpR X (binaryOp .Add) (fun x y H Q => ∃ l b xs zs, x = .ref l ∧ y = .ref b ∧ SqL X.K H l xs ∧ SqL X.K H b zs ∧ xs.length + zs.length ≤ sizeLine ∧ ∀ p, H p = none → Q (.ref p) (upd H p (.lst (xs ++ zs)))) := by
  intro pins s st H x y v u Q I rx ry h
  obtain ⟨l, b, xs, zs, rfl, rfl, hl, hb, hz, q⟩ := h
  cases rx
  cases ry
  obtain ⟨us, r1, ⟨⟨c1, d1, t1, p1⟩, n1, e1, hc1, _, hd1⟩, _⟩ := I.list hl
  obtain ⟨ws, r2, ⟨⟨c2, d2, t2, p2⟩, n2, e2, hc2, _, hd2⟩, _⟩ := I.list hb
  simp only at hc1 hd1 hc2 hd2
  subst hc1 hd1 hc2 hd2
  have l1 := r1.length
  have l2 := r2.length
  refine concat_meets ⟨_, e1, rfl⟩ ⟨_, e2, rfl⟩ noFill_list_add seq_list_add PySem.F.slot_list_add PySem.F.entry_list_add (PySem.F.args_list_add_2 _ _) (list_addW l b us.toArray ws.toArray n1 n2 d1 d2 p1 p2 (by rw [List.size_toArray, List.size_toArray]; omega)) ⟨e1, e2, ?_⟩
  have ea : us.toArray ++ ws.toArray = (us ++ ws).toArray := by simp
  rw [ea]
  exact ⟨.ref _, _, I.lnew (t' := s.toks) (r1.append r2) (by rw [List.length_append]; exact hz), rfl, q _ I.fresh⟩
theorem szC_some {α : Type} {n : Nat} {a z : α} (h : szC n a = some z) : n ≤ sizeLine ∧ a = z := by
  unfold szC at h
  split at h
  · cases h
    exact ⟨by rw [sizeLine_eq]; assumption, rfl⟩
  · cases h
theorem add_data (hK : c.K = X.K := by rfl) : OpR X (binaryOp .Add) (rD2 c.K addD) :=
  opr_cq (((op_add.or op_add_str).or op_catA).or op_catR) fun x y H Q ⟨F, d, e, z, fh, dx, dy, hz, q⟩ => by
    cases dx with
    | int i =>
      cases dy with
      | int j =>
        cases hz
        exact .inl (.inl (.inl ⟨i, j, rfl, rfl, q _ F H (.inl ⟨rfl, rfl⟩) (.int _)⟩))
      | _ => cases hz
    | str a =>
      cases dy with
      | str b =>
        obtain ⟨h1, rfl⟩ := szC_some hz
        exact .inl (.inl (.inr ⟨a, b, rfl, rfl, h1, q _ F H (.inl ⟨rfl, rfl⟩) (.str _)⟩))
      | _ => cases hz
    | @tup a vs ds g1 g2 =>
      cases dy with
      | @tup b ws es g3 g4 =>
        obtain ⟨h1, rfl⟩ := szC_some hz
        refine .inl (.inr ⟨a, b, vs, ws, rfl, rfl, by rw [← hK]; exact fh.t g1, by rw [← hK]; exact fh.t g3, by rw [dpa_len g2, dpa_len g4]; exact h1, fun e => ?_, fun n e => ?_, fun n n2 p np => ?_⟩)
        · subst e
          cases g2
          exact q _ F H (.inl ⟨rfl, rfl⟩) (.tup g3 g4)
        · subst e
          cases g4
          rw [List.append_nil] at q
          exact q _ F H (.inl ⟨rfl, rfl⟩) (.tup g1 g2)
        · have nF := fh.nn np
          exact q _ _ _ (.inr ⟨p, _, np, rfl, rfl⟩) (.tup upd_same (dpa_mono (Ex.new nF) (dpa_app g2 g4)))
      | _ => cases hz
    | @lst a vs ds g1 g2 =>
      cases dy with
      | @lst b ws es g3 g4 =>
        obtain ⟨h1, rfl⟩ := szC_some hz
        refine .inr ⟨a, b, vs, ws, rfl, rfl, by rw [← hK]; exact fh.l g1, by rw [← hK]; exact fh.l g3, by rw [dpa_len g2, dpa_len g4]; exact h1, fun p np => ?_⟩
        have nF := fh.nn np
        exact q _ _ _ (.inr ⟨p, _, np, rfl, rfl⟩) (.lst (.inl (.inl upd_same)) (dpa_mono (Ex.new nF) (dpa_app g2 g4)))
      | _ => cases hz
    | _ => cases hz
theorem sub_data : OpR X (binaryOp .Sub) (rD2 c.K subD) := opr_cq op_sub fun x y H Q ⟨F, d, e, z, fh, dx, dy, hz, q⟩ => by
  cases dx with
  | int i =>
    cases dy with
    | int j =>
      cases hz
      exact ⟨i, j, rfl, rfl, q _ F H (.inl ⟨rfl, rfl⟩) (.int _)⟩
    | _ => cases hz
  | _ => cases hz
theorem op_mulA : OpR X (binaryOp .Mult) (rI mulOk fun i j => .int (i * j)) := opI fun _ _ _ _ _ _ _ hc q => mul_int q hc.ok
theorem op_repR : OpR X (binaryOp .Mult) (fun x y H Q => ∃ l k xs, x = .ref l ∧ y = .int k ∧ SqL X.K H l xs ∧ -(2 ^ 63) ≤ k ∧ k < 2 ^ 63 ∧ xs.length * k.toNat ≤ sizeLine ∧ ∀ p, H p = none → Q (.ref p) (upd H p (.lst (List.replicate k.toNat xs).flatten))) := by
  intro pins s st H x y v u Q I rx ry h
  obtain ⟨l, k, xs, rfl, rfl, hl, h1, h2, hz, q⟩ := h
  cases rx
  obtain ⟨t, rfl⟩ := ry
  obtain ⟨us, r1, ⟨⟨c1, d1, t1, p1⟩, n1, e1, hc1, _, hd1⟩, _⟩ := I.list hl
  simp only at hc1 hd1
  subst hc1 hd1
  have l1 := r1.length
  have hlen : us.toArray.size * k.toNat ≤ 2 ^ 24 := by
    have z := hz
    rw [sizeLine_eq, l1] at z
    rw [List.size_toArray]
    omega
  refine wpAny_binaryOp_repeat_ref (T := "list") (U := "int") (by decide) ⟨_, e1, rfl⟩ (fun s' => typeIs_int s' k t) noFill_list_mul F.fills_int_mul F.slot_int_rmul repeat_list F.slot_int_index.lookup
    (call_meets F.slot_int_rmul (typeIs_int s k t) F.entry_int_rmul (F.args_int_rmul_2 _ _) (lm_int_rmul_list_any k t l us.toArray n1 d1 p1)
      ⟨e1, rfl, ⟨_, e1, rfl⟩, call_meets F.slot_list_mul ⟨_, e1, rfl⟩ F.entry_list_mul (F.args_list_mul_2 _ _)
        (lm_list_mul_any l us.toArray n1 d1 p1 k t (by simp [Builtin.List.listFitsIndex]; omega) (by omega) (by simp [Builtin.List.listTooLong, sizeLine]; omega)) ⟨e1, ?_⟩⟩)
  rw [listMul_foldl_if]
  exact ⟨.ref _, _, I.lnew (t' := s.toks) (r1.rep k.toNat) (by rw [PyProof.Rows.lm_len_rep_flat, Nat.mul_comm]; exact hz), rfl, q _ I.fresh⟩
theorem tuple_mul1 (l : Addr) (items : Array Value) (n : Nat) (dd : Option Addr) (sl : Array (Option Value)) (x : Int) (u : Tok) (c0 : (decide (x < -(2 ^ 63)) || decide (x ≥ 2 ^ 63)) = false) (c1 : (items.isEmpty || x == 1) = true) :
    Meets (Builtin.«tuple.__mul__» ⟨[.ref l, .int x u], []⟩) (fun _ R s => s.heap.get? l = some { cls := .type "tuple", dict := dd, data := .seq items n, slots := sl } ∧ R (.ok (.ret (Value.ref l))) s) :=
  .of_wp fun prog w A R s h => by
    obtain ⟨hp, g, d, tk, os⟩ := s
    obtain ⟨hl, h⟩ := h
    have f1 := AutoSeq1.idx_int
    wp_walk using wpAny_loadPart' hl
    repeat (first
      | (refine wpAny_ite_false (decide_eq_false (by rw [c0]; exact Bool.false_ne_true)) ?_; wp_walk using wpAny_loadPart' hl)
      | (refine wpAny_ite_true (decide_eq_true c1) ?_; wp_walk using wpAny_loadPart' hl))
    exact ⟨_, rfl, h⟩
theorem tuple_mul0 (l : Addr) (items : Array Value) (n : Nat) (dd : Option Addr) (sl : Array (Option Value)) (x : Int) (u : Tok) (c0 : (decide (x < -(2 ^ 63)) || decide (x ≥ 2 ^ 63)) = false) (c1 : (items.isEmpty || x == 1) = false) (c2 : (decide (x ≤ 0) || items.isEmpty) = true) :
    Meets (Builtin.«tuple.__mul__» ⟨[.ref l, .int x u], []⟩) (fun _ R s => s.heap.get? l = some { cls := .type "tuple", dict := dd, data := .seq items n, slots := sl } ∧ R (.ok (.ret (Value.ref s.heap.objs.size))) { s with heap := s.heap.push { cls := Value.type "tuple", data := Data.seq #[] }, toks := s.toks }) :=
  .of_wp fun prog w A R s h => by
    obtain ⟨hp, g, d, tk, os⟩ := s
    obtain ⟨hl, h⟩ := h
    have f1 := AutoSeq1.idx_int
    wp_walk using wpAny_loadPart' hl
    repeat (first
      | (refine wpAny_ite_false (decide_eq_false (by rw [c0]; exact Bool.false_ne_true)) ?_; wp_walk using wpAny_loadPart' hl)
      | (refine wpAny_ite_false (decide_eq_false (by rw [c1]; exact Bool.false_ne_true)) ?_; wp_walk using wpAny_loadPart' hl)
      | (refine wpAny_ite_true (decide_eq_true c2) ?_; wp_walk using wpAny_loadPart' hl))
    exact ⟨_, rfl, h⟩
theorem op_repT01 : OpR X (binaryOp .Mult) (fun x y H Q => ∃ l k xs, x = .ref l ∧ y = .int k ∧ SqT X.K H l xs ∧ -(2 ^ 63) ≤ k ∧ k < 2 ^ 63 ∧ (((xs = [] ∨ k = 1) ∧ Q (.ref l) H) ∨ ((xs ≠ [] ∧ k ≤ 0) ∧ ∀ p, H p = none → Q (.ref p) (upd H p (.tup []))))) := by
  intro pins s σ H x y v u Q I rx ry h
  obtain ⟨l, k, xs, rfl, rfl, hT, h1, h2, q⟩ := h
  cases rx
  obtain ⟨t, rfl⟩ := ry
  obtain ⟨its, r, ⟨⟨cls, dd, data, sl⟩, ho, hc, n, hd⟩, hs⟩ := I.tuple hT
  simp only at hc hd
  subst hc hd
  have hle : its.length = xs.length := r.length.symm
  have c0 : (decide (k < -(2 ^ 63)) || decide (k ≥ 2 ^ 63)) = false := by
    rw [decide_eq_false (by omega), decide_eq_false (by omega)] <;> rfl
  have hem : its.toArray.isEmpty = true ↔ xs = [] := by
    rw [List.isEmpty_toArray, List.isEmpty_iff_length_eq_zero, hle, List.length_eq_zero_iff]
  refine wpAny_binaryOp_repeat_ref (T := "tuple") (U := "int") (by decide) ⟨_, ho, rfl⟩ (fun s' => typeIs_int s' k t) noFill_tuple_mul F.fills_int_mul F.slot_int_rmul repeat_tuple F.slot_int_index.lookup
    (call_meets F.slot_int_rmul (typeIs_int s k t) F.entry_int_rmul (F.args_int_rmul_2 _ _) (int_rmul_tuple k t l its.toArray n dd sl) ⟨ho, rfl, ⟨_, ho, rfl⟩, ?_⟩)
  rcases q with ⟨hq, q⟩ | ⟨⟨hn, hk⟩, q⟩
  · have c1 : (its.toArray.isEmpty || k == 1) = true := by
      rw [Bool.or_eq_true, beq_iff_eq, hem]
      exact hq
    exact call_meets F.slot_tuple_mul ⟨_, ho, rfl⟩ F.entry_tuple_mul (F.args_tuple_mul_2 _ _) (tuple_mul1 l its.toArray n dd sl k t c0 c1) ⟨ho, .ref l, H, I, rfl, q⟩
  · have c1 : (its.toArray.isEmpty || k == 1) = false := by
      rw [Bool.or_eq_false_iff]
      refine ⟨?_, beq_eq_false_iff_ne.mpr (by omega)⟩
      cases e : its.toArray.isEmpty with
      | false => rfl
      | true => exact absurd (hem.mp e) hn
    have c2 : (decide (k ≤ 0) || its.toArray.isEmpty) = true := by
      rw [decide_eq_true hk]
      rfl
    refine call_meets F.slot_tuple_mul ⟨_, ho, rfl⟩ F.entry_tuple_mul (F.args_tuple_mul_2 _ _) (tuple_mul0 l its.toArray n dd sl k t c0 c1 c2) ⟨ho, ?_⟩
    refine ⟨.ref s.heap.objs.size, _, I.laid (t' := s.toks) (o := .tup []) (fun b ob q => Heap.get?_push_of_some _ q) (Nat.le_refl _) ?_, rfl, q _ (I.hok.fresh (Nat.le_refl _))⟩
    exact ⟨by simp, _, .nil, IsTup.new _ _⟩
theorem mul_data (hK : c.K = X.K := by rfl) : OpR X (binaryOp .Mult) (rD2 c.K mulD) := opr_cq (((op_mulA.or op_repR).or op_repT).or op_repT01) fun x y H Q ⟨F, d, e, z, fh, dx, dy, hz, q⟩ => by
  cases dx with
  | int i =>
    cases dy with
    | int j =>
      have hz : (if mulOk i j then some (PyData.int (i * j)) else none) = some z := by
        rw [← cI_eq]
        exact hz
      by_cases hm : mulOk i j
      · rw [if_pos hm] at hz
        cases hz
        exact .inl (.inl (.inl ⟨i, j, rfl, rfl, hm, q _ F H (.inl ⟨rfl, rfl⟩) (.int _)⟩))
      · rw [if_neg hm] at hz
        cases hz
    | _ => cases hz
  | @lst a vs ds g1 g2 =>
    cases dy with
    | int k =>
      have hz : (if (-(2 ^ 63) ≤ k ∧ k < 2 ^ 63) ∧ ds.length * k.toNat ≤ 16777216 then some (PyData.list (List.replicate k.toNat ds).flatten) else none) = some z := by
        rw [← cI_eq]
        exact hz
      split at hz
      · rename_i hm
        cases hz
        refine .inl (.inl (.inr ⟨a, k, vs, rfl, rfl, by rw [← hK]; exact fh.l g1, hm.1.1, hm.1.2, by rw [dpa_len g2, sizeLine_eq]; exact hm.2, fun p np => ?_⟩))
        have nF := fh.nn np
        exact q _ _ _ (.inr ⟨p, _, np, rfl, rfl⟩) (.lst (.inl (.inl upd_same)) (dpa_mono (Ex.new nF) (dpa_rep g2 _)))
      · cases hz
    | _ => cases hz
  | @tup a vs ds g1 g2 =>
    cases dy with
    | int k =>
      have hz : (if -1000 ≤ k ∧ k ≤ 1000 ∧ ds.length ≤ 1000 then some (PyData.tuple (List.replicate k.toNat ds).flatten) else none) = some z := by
        rw [← cI_eq]
        exact hz
      split at hz
      · rename_i hm
        cases hz
        by_cases hs : vs = [] ∨ k = 1
        · refine .inr ⟨a, k, vs, rfl, rfl, by rw [← hK]; exact fh.t g1, by omega, by omega, .inl ⟨hs, ?_⟩⟩
          have e : (List.replicate k.toNat ds).flatten = ds := by
            rcases hs with hs | hs
            · subst hs
              cases g2
              simp
            · subst hs
              simp
          rw [e] at q
          exact q _ F H (.inl ⟨rfl, rfl⟩) (.tup g1 g2)
        · by_cases hk : 2 ≤ k
          · refine .inl (.inr ⟨a, k, vs, rfl, rfl, by rw [← hK]; exact fh.t g1, fun e => hs (.inl e), hk, hm.2.1, by rw [dpa_len g2]; exact hm.2.2, fun p np => ?_⟩)
            have nF := fh.nn np
            exact q _ _ _ (.inr ⟨p, _, np, rfl, rfl⟩) (.tup upd_same (dpa_mono (Ex.new nF) (dpa_rep g2 _)))
          · have hk0 : k ≤ 0 := by
              have : k ≠ 1 := fun e => hs (.inr e)
              omega
            refine .inr ⟨a, k, vs, rfl, rfl, by rw [← hK]; exact fh.t g1, by omega, by omega, .inr ⟨⟨fun e => hs (.inl e), hk0⟩, fun p np => ?_⟩⟩
            have e : (List.replicate k.toNat ds).flatten = [] := by
              rw [Int.toNat_of_nonpos hk0]
              rfl
            rw [e] at q
            exact q _ _ _ (.inr ⟨p, _, np, rfl, rfl⟩) (.tup upd_same .nil)
      · cases hz
    | _ => cases hz
  | _ => cases hz
theorem mod_data : OpR X (binaryOp .Mod) (rD2 c.K modD) := opr_cq op_modN fun x y H Q ⟨F, d, e, z, fh, dx, dy, hz, q⟩ => by
  cases dx with
  | int i =>
    cases dy with
    | int j =>
      have hz : (if j ≠ 0 then some (PyData.int (i.fmod j)) else none) = some z := by
        rw [← cI_eq]
        exact hz
      split at hz
      · rename_i hm
        cases hz
        exact ⟨i, j, rfl, rfl, hm, q _ F H (.inl ⟨rfl, rfl⟩) (.int _)⟩
      · cases hz
    | _ => cases hz
  | _ => cases hz
theorem pow_data : OpR X (binaryOp .Pow) (rD2 c.K powD) := opr_cq op_pow fun x y H Q ⟨F, d, e, z, fh, dx, dy, hz, q⟩ => by
  cases dx with
  | int i =>
    cases dy with
    | int j =>
      have hz : (if 0 ≤ j ∧ j ≤ 1000000 ∧ i.natAbs < 2 ^ 64 then some (PyData.int (i ^ j.toNat)) else none) = some z := by
        rw [← cI_eq]
        exact hz
      split at hz
      · rename_i hm
        cases hz
        exact ⟨i, j, rfl, rfl, hm, q _ F H (.inl ⟨rfl, rfl⟩) (.int _)⟩
      · cases hz
    | _ => cases hz
  | _ => cases hz
theorem cmpI_data {op : CmpOp} {p : Int → Int → Bool} {g : D → D → Option D} (ho : OpR X (compareOp op) (rI0 fun i j => .bl (p i j))) (hg : ∀ d e z, g d e = some z → ∃ i j, d = .int i ∧ e = .int j ∧ z = .bool (p i j)) : OpR X (compareOp op) (rD2 c.K g) :=
  opr_cq ho fun x y H Q ⟨F, d, e, z, fh, dx, dy, hz, q⟩ => by
    obtain ⟨i, j, rfl, rfl, rfl⟩ := hg _ _ _ hz
    cases rp_int dx
    cases rp_int dy
    exact ⟨i, j, rfl, rfl, q _ F H (.inl ⟨rfl, rfl⟩) (.bl _)⟩
theorem lt_data : OpR X (compareOp .Lt) (rD2 c.K ltD) := cmpI_data op_lt fun d e z h => by
  unfold ltD at h
  split at h <;> cases h
  exact ⟨_, _, rfl, rfl, by rw [cd_eq]⟩
theorem le_data : OpR X (compareOp .LtE) (rD2 c.K leD) := cmpI_data op_le fun d e z h => by
  unfold leD at h
  split at h <;> cases h
  exact ⟨_, _, rfl, rfl, by rw [cd_eq]⟩
theorem gt_data : OpR X (compareOp .Gt) (rD2 c.K gtD) := cmpI_data op_gt fun d e z h => by
  unfold gtD at h
  split at h <;> cases h
  exact ⟨_, _, rfl, rfl, by rw [cd_eq]⟩
theorem ge_data : OpR X (compareOp .GtE) (rD2 c.K geD) := cmpI_data op_ge fun d e z h => by
  unfold geD at h
  split at h <;> cases h
  exact ⟨_, _, rfl, rfl, by rw [cd_eq]⟩
theorem dec_str (a b : Str) : decide (V.str a = V.str b) = decide (a = b) := by
  refine decide_eq_decide.mpr ⟨fun h => ?_, fun h => by rw [h]⟩
  cases h
  rfl
theorem op_eqLL (hu : X.A.units + 64 < cLine) : OpR X (compareOp .Eq) (fun x y H Q => ∃ a b xs ys, x = .ref a ∧ y = .ref b ∧ ((SqL X.K H a xs ∧ SqL X.K H b ys ∧ xs.length ≠ ys.length) ∨ (SqT X.K H a xs ∧ SqT X.K H b ys ∧ ys = [] ∧ xs.length ≠ 0)) ∧ Q (.bl false) H) := by
  intro pins s σ H x y v u Q I rx ry h
  obtain ⟨a, b, xs, ys, rfl, rfl, h, q⟩ := h
  cases rx
  cases ry
  rcases h with ⟨h1, h2, hne⟩ | ⟨h1, h2, he, hne⟩
  · obtain ⟨its, r, pl, hz⟩ := I.list h1
    obtain ⟨its2, r2, pl2, hz2⟩ := I.list h2
    have l1 := r.length
    have l2 := r2.length
    exact SeqAt.eq_list_lengthsAt pl.isList pl2.isList (by simp; omega) (by omega) ⟨.bl _, H, I, rfl, q⟩
  · obtain ⟨its, r, pl, hz⟩ := I.tuple h1
    obtain ⟨its2, r2, pl2, hz2⟩ := I.tuple h2
    have l1 := r.length
    have l2 := r2.length
    subst he
    have l3 : its2.toArray.size = 0 := by simp; simpa using l2.symm
    refine SeqAt.eq_tupleAt (e := fun _ => true) pl pl2 (by omega) (fun j j1 j2 => by omega) ?_
    have e : ((List.range (min its.toArray.size its2.toArray.size)).all (fun _ => true) && its.toArray.size == its2.toArray.size) = false := by
      rw [l3]
      simp
      intro z
      rw [z] at l1
      exact hne (by simpa using l1)
    rw [e]
    exact ⟨.bl _, H, I, rfl, q⟩
theorem eq_data (hu : X.A.units + 64 < cLine) (hK : c.K = X.K := by rfl) : OpR X (compareOp .Eq) (rD2 c.K eqD) := opr_cq (((op_eqD hu).or op_eq).or (op_eqLL hu)) fun x y H Q ⟨F, d, e, z, fh, dx, dy, hz, q⟩ => by
  unfold eqD at hz
  split at hz
  · cases dx
    cases dy
    cases hz
    refine .inl (.inr ⟨rfl, ?_⟩)
    rw [dec_str]
    exact q _ F H (.inl ⟨rfl, rfl⟩) (.bl _)
  · split at hz
    · rename_i hm
      cases hz
      refine .inl (.inl ⟨d, e, by rw [← hK]; exact rp_dp (dp_mono fh dx) hm.1, by rw [← hK]; exact rp_dp (dp_mono fh dy) hm.2, hm.1, hm.2, q _ F H (.inl ⟨rfl, rfl⟩) (.bl _)⟩)
    · refine .inr ?_
      cases dx with
      | @lst a1 vs1 ds1 g1 g2 =>
        cases dy with
        | @lst a2 vs2 ds2 g3 g4 =>
          have hz : (if ds1.length = ds2.length then none else some (PyData.bool false)) = some z := hz
          split at hz
          · cases hz
          · rename_i hn
            cases hz
            exact ⟨_, _, _, _, rfl, rfl, .inl ⟨by rw [← hK]; exact fh.l g1, by rw [← hK]; exact fh.l g3, by rw [dpa_len g2, dpa_len g4]; exact hn⟩, q _ F H (.inl ⟨rfl, rfl⟩) (.bl _)⟩
        | _ => cases hz
      | @tup a1 vs1 ds1 g1 g2 =>
        cases dy with
        | @tup a2 vs2 ds2 g3 g4 =>
          cases g4 with
          | nil =>
            have hz : (if ds1.length = 0 then none else some (PyData.bool false)) = some z := hz
            split at hz
            · cases hz
            · rename_i hn
              cases hz
              exact ⟨_, _, _, _, rfl, rfl, .inr ⟨by rw [← hK]; exact fh.t g1.s, by rw [← hK]; exact fh.t g3, rfl, by rw [dpa_len g2]; exact hn⟩, q _ F H (.inl ⟨rfl, rfl⟩) (.bl _)⟩
          | cons _ _ => cases hz
        | _ => cases hz
      | _ => cases hz
theorem ne_data (hu : X.A.units + 64 < cLine) (hK : c.K = X.K := by rfl) : OpR X (compareOp .NotEq) (rD2 c.K neD) := opr_cq ((op_neD hu).or op_ne) fun x y H Q ⟨F, d, e, z, fh, dx, dy, hz, q⟩ => by
  unfold neD at hz
  split at hz
  · cases dx
    cases dy
    cases hz
    refine .inr ⟨rfl, ?_⟩
    rw [dec_str]
    exact q _ F H (.inl ⟨rfl, rfl⟩) (.bl _)
  · split at hz
    · rename_i hm
      cases hz
      exact .inl ⟨d, e, by rw [← hK]; exact rp_dp (dp_mono fh dx) hm.1, by rw [← hK]; exact rp_dp (dp_mono fh dy) hm.2, hm.1, hm.2, q _ F H (.inl ⟨rfl, rfl⟩) (.bl _)⟩
    · cases hz
/-! chains: a op b op c -/
def eChain (g g' : D → D → Option D) (ma mb mc : M D) : M D := ma.bind fun x => mb.bind fun y => (M.opt (g x y)).bind fun b => match b with
  | .bool true => mc.bind fun z => M.opt (g' y z)
  | .bool false => M.ret (.bool false)
  | _ => M.no
end
/-! ### built-ins -/
def absD : D → Option D
  | .int i => some (.int (if i < 0 then -i else i))
  | _ => none
def intD : D → Option D
  | .int i => some (.int i)
  | .bool k => some (.int (if k then 1 else 0))
  | _ => none
def tupD : D → Option D
  | .list ds => some (.tuple ds)
  | .tuple ds => some (.tuple ds)
  | _ => none
def two (g : D → D → Option D) : List D → Option D
  | [d, e] => g d e
  | _ => none
def minD : D → D → Option D
  | .int i, .int j => some (.int (if j < i then j else i))
  | _, _ => none
def maxD : D → D → Option D
  | .int i, .int j => some (.int (if j > i then j else i))
  | _, _ => none
def intsOf : List D → Option (List Int)
  | [] => some []
  | .int i :: ds => (intsOf ds).map (i :: ·)
  | _ => none
def boolsOf : List D → Option (List Bool)
  | [] => some []
  | .bool i :: ds => (boolsOf ds).map (i :: ·)
  | _ => none
def allD : D → Option D
  | .list ds => (boolsOf ds).map fun bs => .bool (bs.all id)
  | _ => none
def anyD : D → Option D
  | .list ds => (boolsOf ds).map fun bs => .bool (bs.any id)
  | _ => none
def listD : List D → Option (List D)
  | [.list ds] => some ds
  | [.tuple ds] => some ds
  | _ => none
theorem boolsOf_some : ∀ {ds : List D} {ns : List Bool}, boolsOf ds = some ns → ds = ns.map .bool
  | [], ns, h => by
    cases h
    rfl
  | .bool i :: ds, ns, h => by
    have h : (boolsOf ds).map (i :: ·) = some ns := h
    cases e : boolsOf ds with
    | none =>
      rw [e] at h
      cases h
    | some ms =>
      rw [e] at h
      cases h
      rw [boolsOf_some e]
      rfl
  | .none :: _, _, h => by cases h
  | .int _ :: _, _, h => by cases h
  | .str _ :: _, _, h => by cases h
  | .list _ :: _, _, h => by cases h
  | .tuple _ :: _, _, h => by cases h
  | .dict _ :: _, _, h => by cases h
theorem rp_bl {K : PySem.W.Frag} {F : Hp} {v : V} {b : Bool} (h : Rp K F v (.bool b)) : v = .bl b := by
  cases h
  rfl
theorem rpa_bools {K : PySem.W.Frag} {F : Hp} : ∀ {ns : List Bool} {vs : List V}, RpAll K F vs (ns.map .bool) → vs = ns.map .bl
  | [], _, .nil => rfl
  | _ :: _, _, .cons h t => by
    rw [rp_bl h, rpa_bools t]
    rfl
section
variable {X : Cx} {c : Cc}
theorem two_some {g : D → D → Option D} {ds : List D} {z : D} (h : two g ds = some z) : ∃ d e, ds = [d, e] ∧ g d e = some z := by
  unfold two at h
  split at h
  · exact ⟨_, _, rfl, h⟩
  · cases h
theorem abs_data : CallR X (.builtin "abs") (rDA c.K (one absD)) := callr_cq call_abs fun xs H Q ⟨F, ds, z, fh, dps, hz, q⟩ => by
  obtain ⟨d, rfl, hz⟩ := one_some hz
  obtain ⟨v, rfl, dp⟩ := rpa_one dps
  cases dp with
  | int i =>
    cases hz
    exact ⟨i, rfl, q _ F H (.inl ⟨rfl, rfl⟩) (.int _)⟩
  | _ => cases hz
theorem int_data : CallR X (.type "int") (rDA c.K (one intD)) := callr_cq call_int1 fun xs H Q ⟨F, ds, z, fh, dps, hz, q⟩ => by
  obtain ⟨d, rfl, hz⟩ := one_some hz
  obtain ⟨v, rfl, dp⟩ := rpa_one dps
  cases dp with
  | int i =>
    cases hz
    exact .inl ⟨i, rfl, q _ F H (.inl ⟨rfl, rfl⟩) (.int _)⟩
  | bl k =>
    cases hz
    exact .inr ⟨k, rfl, q _ F H (.inl ⟨rfl, rfl⟩) (.int _)⟩
  | _ => cases hz
theorem min_data (hc : X.calm = true := by rfl) : CallR X (.builtin "min") (rDA c.K (two minD)) := callr_cq (call_min2 hc) fun xs H Q ⟨F, ds, z, fh, dps, hz, q⟩ => by
  obtain ⟨d, e, rfl, hz⟩ := two_some hz
  obtain ⟨v, w, rfl, dp, dp2⟩ := rpa_two dps
  cases dp with
  | int i =>
    cases dp2 with
    | int j =>
      cases hz
      exact ⟨i, j, rfl, q _ F H (.inl ⟨rfl, rfl⟩) (.int _)⟩
    | _ => cases hz
  | _ => cases hz
theorem max_data (hc : X.calm = true := by rfl) : CallR X (.builtin "max") (rDA c.K (two maxD)) := callr_cq (call_max2 hc) fun xs H Q ⟨F, ds, z, fh, dps, hz, q⟩ => by
  obtain ⟨d, e, rfl, hz⟩ := two_some hz
  obtain ⟨v, w, rfl, dp, dp2⟩ := rpa_two dps
  cases dp with
  | int i =>
    cases dp2 with
    | int j =>
      cases hz
      exact ⟨i, j, rfl, q _ F H (.inl ⟨rfl, rfl⟩) (.int _)⟩
    | _ => cases hz
  | _ => cases hz
theorem tup_data (hK : c.K = X.K := by rfl) : CallR X (.type "tuple") (rDA c.K (one tupD)) := callr_cq call_tuple_of fun xs H Q ⟨F, ds, z, fh, dps, hz, q⟩ => by
  obtain ⟨d, rfl, hz⟩ := one_some hz
  obtain ⟨v, rfl, dp⟩ := rpa_one dps
  cases dp with
  | @lst a vs ds g1 g2 =>
    cases hz
    refine ⟨a, vs, rfl, .inl ⟨by rw [← hK]; exact fh.l g1, fun p np => ?_⟩⟩
    have nF := fh.nn np
    exact q _ _ _ (.inr ⟨p, _, np, rfl, rfl⟩) (.tup upd_same (dpa_mono (Ex.new nF) g2))
  | @tup a vs ds g1 g2 =>
    cases hz
    exact ⟨a, vs, rfl, .inr ⟨by rw [← hK]; exact fh.t g1, q _ F H (.inl ⟨rfl, rfl⟩) (.tup g1 g2)⟩⟩
  | _ => cases hz
theorem all_data (hK : c.K = X.K := by rfl) (hc : X.calm = true := by rfl) : CallR X (.builtin "all") (rDA c.K (one allD)) := callr_cq (cr_all hc) fun xs H Q ⟨F, ds, z, fh, dps, hz, q⟩ => by
  obtain ⟨d, rfl, hz⟩ := one_some hz
  obtain ⟨v, rfl, dp⟩ := rpa_one dps
  cases dp with
  | @lst a vs ds g1 g2 =>
    have hz : (boolsOf ds).map (fun ns => PyData.bool (ns.all id)) = some z := hz
    cases e : boolsOf ds with
    | none =>
      rw [e] at hz
      cases hz
    | some ns =>
      rw [e] at hz
      cases hz
      rw [boolsOf_some e] at g2
      rw [rpa_bools g2] at g1
      exact ⟨a, ns, rfl, by rw [← hK]; exact fh.l g1, q _ F H (.inl ⟨rfl, rfl⟩) (.bl _)⟩
  | _ => cases hz
/-! isinstance against a built-in class -/
def tyName : D → Option String
  | .none => some "NoneType"
  | .bool _ => some "bool"
  | .int _ => some "int"
  | .str _ => some "str"
  | .list _ => some "list"
  | .tuple _ => some "tuple"
  | .dict ((.str _, _) :: _) => none
  | .dict _ => some "dict"
def isiD (T : String) (d : D) : Option D := match d with
  | .dict ((.str _, _) :: _) => if T ∈ basicT then some (.bool false) else none
  | d => (tyName d).bind fun n => (kitB n T).map .bool
/-! an exception that was caught -/
theorem callr_or {f : Value} {r r' : List V → Hp → VK → Prop} (h : CallR X f r) (h' : CallR X f r') : CallR X f (fun xs H Q => r xs H Q ∨ r' xs H Q) := fun pins s st H xs us Q I rv q => q.elim (h pins s st H xs us Q I rv) (h' pins s st H xs us Q I rv)
theorem excC_kit {K : PySem.W.Frag} {C a : Addr} {ox : Obj} {od : Option Obj} (c : ExcC K C) : PySem.W.KitX K (.ref a) (.ref C) (fun h => PySem.W.InstAt h a ox C od) := by
  obtain ⟨cd, hc, _⟩ := PySem.W.any_some c.hd
  exact PySem.W.kitx_exc (by rw [hc]; rfl) c.hg c.hk c.hs c.ha c.hn c.ht c.hm
def ExAt (H : Hp) (a C : Addr) : Prop := ∃ d, H a = some (CauO (.ref C) d a) ∧ ∀ dd, d = some dd → ∃ fs, H dd = some (.xd fs)
theorem exAt_inst {X : Cx} {pins : List (Addr × Obj)} {st : L2.St} {H : Hp} {s : Shared} {a C : Addr} (I : Inv X pins st H s) (h : ExAt H a C) : ∃ ox od, PySem.W.InstAt s.heap a ox C od := by
  obtain ⟨d, h1, h2⟩ := h
  obtain ⟨⟨oe, vs, hg, ⟨hz1, hz2⟩, hd⟩, _, _⟩ := I.hok a _ h1
  have hno : PySem.W.notCls oe = true := by
    unfold PySem.W.notCls
    rw [hd]
  cases d with
  | none => exact ⟨oe, none, hg, hz1, hno, by rw [hz2]; trivial⟩
  | some dd =>
    obtain ⟨fs, h3⟩ := h2 dd rfl
    obtain ⟨o, ho⟩ := objOk_get (I.hok dd _ h3)
    exact ⟨oe, some o, hg, hz1, hno, by rw [hz2]; exact ho⟩
def rIsX (K : PySem.W.Frag) : List V → Hp → VK → Prop := fun xs H Q => ∃ (a C : Addr) (c : V) (cv : Value) (b : Bool), xs = [.ref a, c] ∧ ExAt H a C ∧ ExcC K C ∧ (∀ u, RelV c u → u = cv) ∧ PySem.W.kitOne K (.ref C) cv = some b ∧ Q (.bl b) H
theorem call_isX : CallR X (.builtin "isinstance") (rIsX X.K) := by
  intro pins s st H xs us Q I r h
  obtain ⟨a, C, c, cv, b, rfl, ha, hC, hcv, e, q⟩ := h
  cases r with
  | cons rx rr =>
    cases rr with
    | cons rt rr =>
      cases rr
      cases rx
      have ec := hcv _ rt
      subst ec
      obtain ⟨ox, od, J⟩ := exAt_inst I ha
      exact PySem.W.kia_one (excC_kit hC) I.kIn J e (fun z => nomatch z) fun tk => ⟨.bl b, H, I.kept (t' := tk) fun _ _ z => z, rfl, q⟩
theorem dci_str {kv : List (Int × D)} {nm : Str} {e : D} {r : List (D × D)} (h : ((PyData.str nm, e) :: r) = kv.map fun q => (PyData.int q.1, q.2)) : False := by
  cases kv with
  | nil => cases h
  | cons q kv => cases h
theorem rp_exAt {K : PySem.W.Frag} {F H : Hp} {v : V} {nm : Str} {kv : List (D × D)} (h : Rp K F v (.dict ((.str nm, .none) :: kv))) (fh : Ex F H) : ∃ a, v = .ref a ∧ ExAt H a (He.ga K nm) ∧ ExcK K nm := by
  cases h with
  | exc0 h1 h2 => exact ⟨_, rfl, ⟨_, fh.at_ _ _ h1 cau_ne, fun _ z => nomatch z⟩, h2⟩
  | excF h1 h2 h3 h4 h5 => exact ⟨_, rfl, ⟨_, fh.at_ _ _ h1 cau_ne, fun dd z => by cases z; exact ⟨_, fh.at_ _ _ h2 (fun ps z => nomatch z)⟩⟩, h3⟩
  | dci _ _ _ _ w => exact (dci_str w).elim
theorem rp_dict1 {K : PySem.W.Frag} {F : Hp} {v : V} {nm : Str} {e : D} {kv : List (D × D)} (h : Rp K F v (.dict ((.str nm, e) :: kv))) : e = .none := by
  cases h with
  | exc0 h1 h2 => rfl
  | excF h1 h2 h3 h4 h5 => rfl
  | dci _ _ _ _ w => exact (dci_str w).elim
theorem ty_data {K : PySem.W.Frag} {F H : Hp} {v : V} {d : D} {n : String} (h : Rp K F v d) (fh : Ex F H) (e : tyName d = some n) : TyX K H v (.type n) := by
  cases h with
  | non => cases e; exact .base .non
  | bl b => cases e; exact .base (.bl b)
  | int i => cases e; exact .base (.int i)
  | str x => cases e; exact .base (.str x)
  | @lst a vs ds g1 g2 =>
    cases e
    rcases fh.l g1 with (g | ⟨o, g⟩) | ⟨o, its, n, g, hc, _⟩
    · exact .base (.lst g)
    · exact .base (.frz g)
    · exact .kList g hc
  | @tup a vs ds g1 g2 =>
    cases e
    rcases fh.t g1.s with (g | ⟨o, g⟩) | ⟨o, its, n, g, hc, _⟩
    · exact .base (.tup g)
    · exact .fTuple g
    · exact .kTuple g hc
  | emp g =>
    cases e
    exact .base (.dK (fh.at_ _ _ g (fun ps z => nomatch z)))
  | exc0 _ _ => cases e
  | excF _ _ _ _ _ => cases e
  | @dci a od ks kv dd h1 _ _ h4 h5 =>
    subst h5
    cases kv with
    | nil => exact absurd rfl h4
    | cons q kv =>
      cases e
      exact .fDict (fh.at_ _ _ h1 (fun ps z => nomatch z))
theorem isiD_dict {T : String} {d z : D} (h : isiD T d = some z) : (∃ nm x kv, d = .dict ((.str nm, x) :: kv) ∧ T ∈ basicT ∧ z = .bool false) ∨ ((tyName d).bind fun n => (kitB n T).map PyData.bool) = some z := by
  unfold isiD at h
  split at h
  · rename_i nm x kv
    split at h
    · cases h
      exact .inl ⟨nm, x, kv, rfl, by assumption, rfl⟩
    · cases h
  · exact .inr h
theorem e_isi {T : String} {y : Str} {e : Expr} {m : M D} {p py pos : Pos} (h : PE X e (tM c m)) (hm : X.mg "isinstance" = none) (hmT : X.mg y = none) (hvT : bootBuiltins y = some (.type T) := by decide +kernel) (hK : c.K = X.K := by rfl) (hg : Gl X "isinstance" := by rfl) (hgT : Gl X y := by rfl) (hnT : y ≠ "__name__" := by decide) (hdT : (y == ("__debug__" : Str)) = false := by decide)
    (hs1 : starEach [e, .Name y py] X.env = (false, eval e X.env) :: starEach [.Name y py] X.env := by rfl) (hs2 : starEach [.Name y py] X.env = (false, eval (.Name y py) X.env) :: starEach [] X.env := by rfl) (hpl : (backTo pos (starEach [.Name y py] X.env)).any (·.1) = false := by rfl) :
    PE X (.Call (.Name "isinstance" p) [e, .Name y py] [] pos) (tM c (una (isiD T) m)) :=
  pe_cq (pe_callB (callr_or call_isi call_isX) hg hm (by decide +kernel) (pa_cons h (pa_cons (pe_bltn (v := .ty T) hgT hmT hvT rfl hnT hdT) pa_nil hs2) hs1) (by decide) (by decide) hs1 hpl) fun st H Q ⟨pa, H0, F0, F, r, ok, po⟩ => seqM ok po fun d r1 F1 H1 v k1 e1 dp q => by
    obtain ⟨z, hz, q9⟩ := opt_po q
    rcases isiD_dict hz with ⟨nm, x, kv, rfl, hT, rfl⟩ | hz
    · have hx := rp_dict1 dp
      subst hx
      obtain ⟨a, rfl, g1, g2⟩ := rp_exAt dp k1.fH
      refine .inr ⟨a, He.ga c.K nm, .ty T, .type T, false, rfl, g1, by rw [← hK]; exact g2.c, fun u ru => ru, by rw [← hK]; exact g2.t T hT, q9 F1 H1 _ k1 e1 (.bl _)⟩
    cases hn : tyName d with
    | none =>
      rw [hn] at hz
      cases hz
    | some n =>
      rw [hn] at hz
      have hz : (kitB n T).map PyData.bool = some z := hz
      cases hk : kitB n T with
      | none =>
        rw [hk] at hz
        cases hz
      | some b =>
        rw [hk] at hz
        cases hz
        exact .inl ⟨v, .ty T, .type n, .type T, b, rfl, .ty T, by rw [← hK]; exact ty_data dp k1.fH hn, kit_ty hk, q9 F1 H1 _ k1 e1 (.bl _)⟩
end
end Pu
namespace Pu
open PySem PySem.Spec PyProof.Rows L2
variable [TabT]
section
variable {X : Cx} {c : Cc}
theorem e_globI' {x : Str} {i : Int} {pos : Pos} (hm : ∃ t, X.mg x = some (.int i t)) (hg : Gl X x := by rfl) (hd : (x == ("__debug__" : Str)) = false := by decide) : PE X (.Name x pos) (tM c (M.ret (.int i))) := by
  obtain ⟨t, hm⟩ := hm
  exact e_globI hm hg hd
/-! ### a slice -/
def cutL (ds : List D) (lo hi : Option Int) : List D := (ds.drop (HT.sIx ds.length 0 lo)).take (HT.sIx ds.length ds.length hi - HT.sIx ds.length 0 lo)
def slD : D → Option Int → Option Int → Option D
  | .list ds, lo, hi => some (.list (cutL ds lo hi))
  | .tuple ds, lo, hi => some (.tuple (cutL ds lo hi))
  | .str z, lo, hi => if z.length ≤ 16777216 then some (.str (cutS z lo hi)) else none
  | _, _, _ => none
def pNone : M (Option Int) := M.ret none
def pSome (m : M D) : M (Option Int) := m.bind fun d => M.opt (match d with
  | .int i => some (some i)
  | _ => none)
def eSl (m : M D) (l u : M (Option Int)) : M D := m.bind fun d => l.bind fun a => u.bind fun b => M.opt (slD d a b)
def tPo (c : Cc) (m : M (Option Int)) : TO := fun st H Q => ∃ pa H0 F0 F r, Ok c.K pa H0 F0 F H st r ∧ Po (XW c pa H0 F0 F) (m r) fun o r' => ∀ F' H', Ok c.K pa H0 F0 F' H' st r' → Ex F F' → Q o H'
theorem seqP {α : Type} {pa : Nat → Addr} {H0 F0 F H : Hp} {st : L2.St} {r : En} {ma : M (Option Int)} {f : Option Int → M α} {k : α → En → Prop} {Q : Option Int → Hp → Prop} (ok : Ok c.K pa H0 F0 F H st r) (po : Po (XW c pa H0 F0 F) (ma.bind f r) k)
    (h : ∀ d r1 F1 H1, Ok c.K pa H0 F0 F1 H1 st r1 → Ex F F1 → Po (XW c pa H0 F0 F1) (f d r1) k → Q d H1) : tPo c ma st H Q :=
  ⟨pa, H0, F0, F, r, ok, (Po.bind po).mono (fun _ _ x => x) fun d r1 q F1 H1 k1 e1 => h d r1 F1 H1 k1 e1 (q.mono (XW.mono e1) fun _ _ x => x)⟩
theorem po_cq {e : Option Expr} {t t' : TO} (h : PO X e t) (i : ∀ st H Q, t' st H Q → t st H Q) : PO X e t' := ⟨fun pins s st H Q I q => h.run pins s st H Q I (i _ _ _ q)⟩
theorem p_none : PO X none (tPo c pNone) := po_cq po_none fun st H Q ⟨pa, H0, F0, F, r, ok, po⟩ => po F H ok (Ex.refl F)
theorem p_some {e : Expr} {m : M D} (h : PE X e (tM c m)) : PO X (some e) (tPo c (pSome m)) := po_cq (po_some h) fun st H Q ⟨pa, H0, F0, F, r, ok, po⟩ => seqM ok po fun d r1 F1 H1 v k1 e1 dp q => by
  obtain ⟨z, hz, q⟩ := opt_po q
  cases dp with
  | int i =>
    cases hz
    exact ⟨i, rfl, q F1 H1 k1 e1⟩
  | _ => cases hz
theorem slr_cq {r r' : V → Option Int → Option Int → Hp → VK → Prop} (h : SlR X r) (i : ∀ x lo hi H Q, r' x lo hi H Q → r x lo hi H Q) : SlR X r' := fun pins s st H x v vl vu lo hi sl Q I rx hs pl pu q => h pins s st H x v vl vu lo hi sl Q I rx hs pl pu (i x lo hi H Q q)
def rSlD (K : PySem.W.Frag) : V → Option Int → Option Int → Hp → VK → Prop := fun x lo hi H Q => ∃ F d z, Ex F H ∧ Rp K F x d ∧ slD d lo hi = some z ∧ ∀ v F' H', NewF F H F' H' → Rp K F' v z → Q v H'
theorem cut_dpa {K : PySem.W.Frag} {F : Hp} {vs : List V} {ds : List D} (h : RpAll K F vs ds) (lo hi : Option Int) : RpAll K F (cutV vs lo hi) (cutL ds lo hi) := by
  unfold cutV cutL
  rw [dpa_len h]
  exact dpa_take _ (dpa_drop _ h)
theorem sl_data (hK : c.K = X.K := by rfl) : SlR X (rSlD c.K) := slr_cq ((sl_list.or sl_tupA).or sl_str) fun x lo hi H Q ⟨F, d, z, fh, dx, hz, q⟩ => by
  cases dx with
  | @lst a vs ds g1 g2 =>
    cases hz
    refine .inl (.inl ⟨a, vs, rfl, by rw [← hK]; exact fh.l g1, fun p np => ?_⟩)
    have nF := fh.nn np
    exact q _ _ _ (.inr ⟨p, _, np, rfl, rfl⟩) (.lst (.inl (.inl upd_same)) (dpa_mono (Ex.new nF) (cut_dpa g2 lo hi)))
  | @tup a vs ds g1 g2 =>
    cases hz
    refine .inl (.inr ⟨a, vs, rfl, by rw [← hK]; exact fh.t g1, fun e => ?_, fun _ p np => ?_⟩)
    · have e2 : cutL ds lo hi = ds := by
        unfold cutL
        rw [← dpa_len g2, e.1, e.2, dpa_len g2]
        simp
      rw [e2] at q
      exact q _ F H (.inl ⟨rfl, rfl⟩) (.tup g1 g2)
    · have nF := fh.nn np
      exact q _ _ _ (.inr ⟨p, _, np, rfl, rfl⟩) (.tup upd_same (dpa_mono (Ex.new nF) (cut_dpa g2 lo hi)))
  | str s =>
    have hz : (if s.length ≤ 16777216 then some (PyData.str (cutS s lo hi)) else none) = some z := hz
    split at hz
    · cases hz
      exact .inr ⟨s, rfl, by rw [sizeLine_eq]; assumption, q _ F H (.inl ⟨rfl, rfl⟩) (.str _)⟩
    · cases hz
  | _ => cases hz
theorem e_sl {e : Expr} {lo hi : Option Expr} {m : M D} {l u : M (Option Int)} {p2 pos : Pos} (he : PE X e (tM c m)) (hl : PO X lo (tPo c l)) (hu : PO X hi (tPo c u)) (hK : c.K = X.K := by rfl) : PE X (.Subscript e (.Slice lo hi none p2) pos) (tM c (eSl m l u)) :=
  pe_cq (pe_slice (sl_data hK) he hl hu) fun st H Q ⟨pa, H0, F0, F, r, ok, po⟩ => seqM ok po fun d r1 F1 H1 v k1 e1 dp q1 => seqP k1 q1 fun a r2 F2 H2 k2 e2 q2 => seqP k2 q2 fun b r3 F3 H3 k3 e3 q3 => by
    obtain ⟨z, hz, q4⟩ := opt_po q3
    exact ⟨F3, d, z, k3.fH, dp_mono (e2.trans e3) dp, hz, op_end (r' := r3) k3 fun F' H' v ok ex dp => q4 F' H' v ok ((e1.trans (e2.trans e3)).trans ex) dp⟩
/-! ### t[::-1] -/
def revD : D → Option D
  | .list ds => some (.list ds.reverse)
  | .tuple ds => some (.tuple ds.reverse)
  | _ => none
/-! ### a < b < c -/
theorem chain_ok {g g2 : D → D → Option D} {ma mb mc : M D} {st : L2.St} {H : Hp} {Q : VK} (h : tM c (eChain g g2 ma mb mc) st H Q) : tChain (rD2 c.K g) (rD2 c.K g2) (tM c ma) (tM c mb) (tM c mc) st H Q := by
  obtain ⟨pa, H0, F0, F, r, ok, po⟩ := h
  unfold eChain at po
  refine seqM ok po fun d r1 F1 H1 v k1 e1 dp q => seqM k1 q fun d2 r2 F2 H2 v2 k2 e2 dp2 q2 => ?_
  obtain ⟨z, hz, q3⟩ := opt_po (Po.bind q2)
  refine ⟨F2, d, d2, z, k2.fH, dp_mono e2 dp, dp2, hz, fun w F3 H3 nf rz => ?_⟩
  obtain ⟨k3, e3⟩ := nf.ok k2
  cases z with
  | bool b =>
    cases rz
    cases b with
    | true =>
      refine ⟨true, rfl, ?_⟩
      rw [if_pos rfl]
      have q3 : Po _ (mc.bind (fun z => M.opt (g2 d2 z)) r2) _ := q3
      refine seqM k3 (q3.mono (XW.mono e3) fun _ _ x => x) fun d3 r4 F4 H4 v4 k4 e4 dp4 q4 => ?_
      obtain ⟨z2, hz2, q5⟩ := opt_po q4
      exact ⟨F4, d2, d3, z2, k4.fH, dp_mono (e3.trans e4) dp2, dp4, hz2, op_end (r' := r4) k4 fun F' H' v ok ex dp => q5 F' H' v ok ((e1.trans (e2.trans (e3.trans e4))).trans ex) dp⟩
    | false =>
      refine ⟨false, rfl, ?_⟩
      rw [if_neg Bool.false_ne_true]
      exact q3 F3 H3 _ k3 (e1.trans (e2.trans e3)) (.bl _)
  | _ => exact q3.elim
theorem e_chain {op op' : CmpOp} {g g2 : D → D → Option D} {a b d : Expr} {ma mb mc : M D} {pos : Pos} (ho : OpR X (compareOp op) (rD2 c.K g)) (ho' : OpR X (compareOp op') (rD2 c.K g2)) (ha : PE X a (tM c ma)) (hb : PE X b (tM c mb)) (hd : PE X d (tM c mc))
    (hm : lastMarks [op, op'] [b, d] = false := by with_unfolding_all rfl) : PE X (.Compare a [op, op'] [b, d] pos) (tM c (eChain g g2 ma mb mc)) := pe_cq (pe_chain ho ho' ha hb hd hm) fun _ _ _ h => chain_ok h
/-! ### is None, is True -/
def isD : D → D → Option D
  | .bool a, .bool b => some (.bool (decide (a = b)))
  | .none, .none => some (.bool true)
  | _, .none => some (.bool false)
  | _, _ => none
def isntD : D → D → Option D
  | .bool a, .bool b => some (.bool (!decide (a = b)))
  | .none, .none => some (.bool false)
  | _, .none => some (.bool true)
  | _, _ => none
theorem is_data : OpR X (compareOp .Is) (rD2 c.K isD) := opr_cq (op_isN.or op_isBl) fun x y H Q ⟨F, d, e, z, fh, dx, dy, hz, q⟩ => by
  cases dy with
  | non =>
    cases dx <;> (cases hz; exact .inl ⟨rfl, q _ F H (.inl ⟨rfl, rfl⟩) (.bl _)⟩)
  | bl b =>
    cases dx with
    | bl a =>
      cases hz
      exact .inr ⟨a, b, rfl, rfl, q _ F H (.inl ⟨rfl, rfl⟩) (.bl _)⟩
    | _ => cases hz
  | _ => cases dx <;> cases hz
theorem isnt_data : OpR X (compareOp .IsNot) (rD2 c.K isntD) := opr_cq (op_notN.or op_notBl) fun x y H Q ⟨F, d, e, z, fh, dx, dy, hz, q⟩ => by
  cases dy with
  | non =>
    cases dx <;> (cases hz; exact .inl ⟨rfl, q _ F H (.inl ⟨rfl, rfl⟩) (.bl _)⟩)
  | bl b =>
    cases dx with
    | bl a =>
      cases hz
      exact .inr ⟨a, b, rfl, rfl, q _ F H (.inl ⟨rfl, rfl⟩) (.bl _)⟩
    | _ => cases hz
  | _ => cases dx <;> cases hz
/-! ### not of a value -/
def eNotT (m : M D) : M D := (tTru m).bind fun b => M.ret (.bool (!b))
end
end Pu
namespace Pu
open PySem PySem.Spec PyProof.Rows L2
variable [TabT]
section
variable {X : Cx} {c : Cc}
/-! ### repr -/
noncomputable def reprD : D → Option D
  | .none => some (.str "None")
  | .bool b => some (.str (if b then "True" else "False"))
  | .str x => cI ((reprText x).length ≤ 16777216) (some (.str (reprText x))) none
  | .dict [] => some (.str (PyData.dict []).shown)
  | .int i => cI (i.natAbs.log2 < 1920) (some (.str (toString i))) none
  | .list ds => cI ((PyData.list ds).showable = true ∧ SeqAt.shaped (.list ds) = true ∧ (PyData.list ds).shown.length ≤ 16777216) (some (.str (PyData.list ds).shown)) none
  | .tuple ds => cI ((PyData.tuple ds).showable = true ∧ SeqAt.shaped (.tuple ds) = true ∧ (PyData.tuple ds).shown.length ≤ 16777216) (some (.str (PyData.tuple ds).shown)) none
  | _ => none
/-! ### f(..).append(..): what was told is changed and dropped -/
def sAppX (m : M RV) : M Fl := m.bind fun rv => match rv with
  | .o (.l ds) => if ds.length < 16777216 then M.ret .nx else M.no
  | _ => M.no
/-! ### a new list from + and * -/
def binO (g : D → D → Option RV) (ma mb : M D) : M RV := ma.bind fun x => mb.bind fun y => M.opt (g x y)
def addO : D → D → Option RV
  | .list xs, .list ys => szC (xs.length + ys.length) (.o (.l (xs ++ ys)))
  | d, e => (addD d e).map .v
noncomputable def mulO : D → D → Option RV
  | .list xs, .int k => cI ((-(2 ^ 63) ≤ k ∧ k < 2 ^ 63) ∧ xs.length * k.toNat ≤ 16777216) (some (.o (.l (List.replicate k.toNat xs).flatten))) none
  | _, _ => none
end
end Pu
namespace Pu
open PySem PySem.Spec PyProof.Rows L2
variable [TabT]
section
variable {X : Cx} {c : Cc}
/-- x = [..], x not changed later -/
theorem s_setLcV {i : Nat} {y : Str} {py : Pos} {elt tg iter : Expr} {ifs : List Expr} {scope : Scope} {own : List (Str × Nat)} {pos spos : Pos} {src : M (List D)} {js : List Nat} {t : Tg} {tt : M Bool} {te : M D} (hi : PI X tg iter (iM c src)) (ok : BlkOk X.N X.env.scope scope own)
    (hg : ∀ (s : Shared) (H : Hp) (C : Addr) (cl : List (Str × Addr)) (fp : List Addr), PG (X.blk s H scope (compEnvC scope cl C X.env) fp) tg (gM c.K js t)) (ht : ∀ (s : Shared) (H : Hp) (C : Addr) (cl : List (Str × Addr)) (fp : List Addr), PTs (X.blk s H scope (compEnvC scope cl C X.env) fp) ifs (tT c.nox tt))
    (he : ∀ (s : Shared) (H : Hp) (C : Addr) (cl : List (Str × Addr)) (fp : List Addr), PE (X.blk s H scope (compEnvC scope cl C X.env) fp) elt (tM c.nox te)) (hN : X.N.Nodup) (hjs : ∀ j ∈ js, j ∈ own.map (·.2) := by decide) (hc : X.calm = true := by rfl) (hy : X.N[i]? = some y := by rfl) (hyl : X.env.scope.names.lookup y = some .local := by rfl)
    (hsw : swapsWith (.ListComp elt [⟨tg, iter, ifs, 0⟩] scope pos) (some (.Name y py)) spos.line X.env = pure true := by exact sw_true rfl rfl rfl (by decide +kernel)) (hs : ∀ x, foldedSetIterable iter X.env x = pure x := by intro _; rfl) :
    PS X (.Assign [.Name y py] (.ListComp elt [⟨tg, iter, ifs, 0⟩] scope pos) spos) (sM c (sSet i (frzM (oComp src (own.map (·.2)) t tt te)))) :=
  ps_cq (ps_setLc hc hN hy hyl hsw hi ok hg ht he hs) fun Dd st H ⟨pa, H0, F0, F, r, okk, po⟩ => lc_ok hjs ⟨pa, H0, F0, F, r, okk, (Po.bind (Po.bind po)).mono (fun _ _ x => x) fun rv r1 q F1 H1 v k1 e1 dp => by
    cases rv with
    | v d =>
      obtain ⟨q, hi⟩ := setM_po q
      exact q F1 H1 _ (k1.setV hi dp) e1
    | o ct =>
      cases ct with
      | l ds =>
        obtain ⟨a, rfl, z1, z2, ⟨vs, z3, z4⟩, z5⟩ := dp
        have k2 := k1.frz z3 z2 z5.1 z1
        obtain ⟨q, hi⟩ := setM_po q
        exact q _ H1 _ (k2.setV hi (.lst (.inl (.inl upd_same)) (dpa_mono (Ex.new z1) z4))) (e1.trans (Ex.new z1))
      | t kvs => exact q.elim
      | n t =>
        obtain ⟨d, hd, q⟩ := opt_po' q
        obtain ⟨a, rfl, z⟩ := dp
        obtain ⟨F2, k2, eF, rp⟩ := k1.frzRv z hd
        obtain ⟨q, hi⟩ := setM_po q
        exact q F2 H1 _ (k2.setV hi rp) (e1.trans eF)
      | d kvs => exact q.elim⟩
/-! ### an own list compared -/
def eqD0 (d e : D) : Option D := if SeqAt.shaped d = true ∧ SeqAt.shaped e = true then some (.bool (PyData.eqv d e)) else none
def eqS (i : Nat) (mb : M D) : M D := fun r => match getC i r with
  | some (.l _) => (mb r).bind fun d r => match getC i r with
    | some (.l ds) => M.opt (eqD0 (.list ds) d) r
    | _ => .no
  | some (.d _) => .no
  | some (.t _) => .no
  | some (.n _) => .no
  | none => bin eqD (getS i) mb r
def neS (i : Nat) (mb : M D) : M D := fun r => match getC i r with
  | some (.l _) => (mb r).bind fun d r => match getC i r with
    | some (.l ds) => M.opt (neD (.list ds) d) r
    | _ => .no
  | some (.d _) => .no
  | some (.t _) => .no
  | some (.n _) => .no
  | none => bin neD (getS i) mb r
/-! ### a statement that is never come to -/
/-! ### a call without arguments -/
def cCall0 (f : List Sl → Re RV) : M RV := cCall f aNil
end
end Pu
namespace Pu
open PySem PySem.Spec PyProof.Rows L2
variable [TabT]
section
variable {X : Cx} {c : Cc}
/-! ### {} -/
def oDict0 : M RV := M.ret (.o (.d []))
/-! ### bool, str -/
def boolD : D → Option D
  | .int i => some (.bool (i != 0))
  | .bool b => some (.bool b)
  | _ => none
/-! ### in, not in a list of data -/
noncomputable def inD : D → D → Option D
  | d, .list ds => cI (SeqAt.shaped d = true ∧ SeqAt.shaped (.list ds) = true) (some (.bool (ds.any fun z => PyData.eqv z d))) none
  | _, _ => none
noncomputable def ninD : D → D → Option D
  | d, .list ds => cI (SeqAt.shaped d = true ∧ SeqAt.shaped (.list ds) = true) (some (.bool (!ds.any fun z => PyData.eqv z d))) none
  | _, _ => none
/-! ### l.index(x) -/
noncomputable def indexD : D → D → Option D
  | .list ds, d => cI (SeqAt.shaped d = true ∧ SeqAt.shaped (.list ds) = true) ((ds.findIdx? fun z => PyData.eqv z d).map fun j => .int (j : Nat)) none
  | _, _ => none
noncomputable def eIndex (mo me : M D) : M D := mo.bind fun d => match d with
  | .list ds => me.bind fun b => M.opt (indexD (.list ds) b)
  | _ => M.no
/-! ### l.pop(i) -/
noncomputable def popD (ds : List D) : D → Option (D × List D)
  | .int n => cI (0 ≤ n ∧ n < 2 ^ 63) ((ds[n.toNat]?).map fun y => (y, ds.eraseIdx n.toNat)) none
  | _ => none
noncomputable def ePop (i : Nat) (m : M D) : M D := fun r => match getC i r with
  | some (.l _) => (m r).bind fun d r => match getC i r with
    | some (.l ds) => (match popD ds d with
      | some p => .ok p.1 (putC i (.l p.2) r)
      | none => .no)
    | _ => .no
  | _ => .no
end
end Pu
namespace Pu
open PySem PySem.Spec PyProof.Rows L2
variable [TabT]
/-! ### a dict of the module: text keys, whole numbers -/
def Tabl (K : PySem.W.Frag) (w : World) (mg : Str → Option Value) (x : Str) (kvs : List (Str × Int)) : Prop := ∃ d es n, mg x = some (.ref d) ∧ KDict K w d es n ∧ ∀ z, ∃ r, PySem.W.nsIn K d z = some r ∧ (match kvs.find? fun p => decide (p.1 = z) with
  | none => r = none
  | some p => ∃ t, r = some (.int p.2 t))
/-! ### len(set(a tuple of at most two numbers)) -/
/-! ### the head with such tables -/
def ent (e : DictEntry) : Option (Str × Int) := match e.key with
  | .str k _ => (match e.val with
    | .int i _ => some (k, i)
    | _ => none)
  | _ => none
def tabV (K : PySem.W.Frag) (x : Str) : Option (List (Option (Str × Int))) := match K.lookup (He.ga K x) with
  | some ⟨_, _, .dict es _, _⟩ => some (es.toList.map ent)
  | _ => none
theorem ent_find (z : Str) : ∀ {l : List DictEntry} {kvs : List (Str × Int)}, l.map ent = kvs.map some → l.any (·.refKey) = false ∧ (match kvs.find? fun p => decide (p.1 = z) with
  | none => l.find? (·.key.isStr z) = none
  | some p => ∃ e t, l.find? (·.key.isStr z) = some e ∧ e.val = .int p.2 t)
  | [], [], _ => ⟨rfl, rfl⟩
  | [], _ :: _, h => by cases h
  | _ :: _, [], h => by cases h
  | e :: l, p :: kvs, h => by
    have h1 : ent e :: l.map ent = some p :: kvs.map some := h
    injection h1 with h2 h3
    obtain ⟨g1, g2⟩ := ent_find z h3
    obtain ⟨eh, ek, ev⟩ := e
    unfold ent at h2
    cases ek with
    | str k t =>
      cases ev with
      | int i t2 =>
        have h4 : some (k, i) = some p := h2
        cases h4
        refine ⟨?_, ?_⟩
        · rw [List.any_cons, g1]
          rfl
        · by_cases hk : k = z
          · rw [List.find?_cons_of_pos (by simp [hk]), List.find?_cons_of_pos (by simp [Value.isStr, hk])]
            exact ⟨_, t2, rfl, rfl⟩
          · rw [List.find?_cons_of_neg (by simp [hk]), List.find?_cons_of_neg (by simp [Value.isStr, hk])]
            exact g2
      | _ => cases h2
    | _ => cases h2
abbrev Tbs := List (Str × List (Str × Int))
def tsOf (xs : Tbs) : List He.Tab := xs.map fun p => (fun K => He.ga K p.1, p.2.map (·.1))
abbrev AlS : Type := He.AlT × List (Option (List (Option (Str × Int))))
def obsS (fa : List He.Fa) (fn : List He.DefD) (xs : Tbs) (K : PySem.W.Frag) : AlS := (He.obsT fa fn (tsOf xs) K, xs.map fun p => tabV K p.1)
def valS (fn : List He.DefD) (xs : Tbs) (w : World) : AlS := (He.valT fn (tsOf xs) w, xs.map fun p => some (p.2.map some))
def SaysS (fa : List He.Fa) (fn : List He.DefD) (xs : Tbs) (w : World) (K : PySem.W.Frag) : Prop := obsS fa fn xs K = valS fn xs w
section
variable {fa : List He.Fa} {fn : List He.DefD} {xs : Tbs} {w : World} {K : PySem.W.Frag}
theorem SaysS.d (c : SaysS fa fn xs w K) : He.SaysD fa fn K := He.SaysT.d (congrArg (fun z : AlS => z.1) c)
theorem SaysS.tab (c : SaysS fa fn xs w K) (i : Nat) {p : Str × List (Str × Int)} {mg : Str → Option Value} (h : xs[i]? = some p) (hm : mg p.1 = some (.ref (He.ga K p.1))) : Tabl K w mg p.1 p.2 := by
  have c1 : He.SaysT fa fn (tsOf xs) w K := congrArg (fun z : AlS => z.1) c
  obtain ⟨es, n, Dd⟩ := c1.tab i (t := (fun K => He.ga K p.1, p.2.map (·.1))) (by unfold tsOf; rw [List.getElem?_map, h]; rfl)
  have e : (xs.map fun p => tabV K p.1) = xs.map fun p => some (p.2.map some) := congrArg (fun z : AlS => z.2) c
  have e2 : (xs.map fun p => tabV K p.1)[i]? = (xs.map fun p => some (p.2.map some))[i]? := by rw [e]
  rw [List.getElem?_map, List.getElem?_map, h] at e2
  have e3 : tabV K p.1 = some (p.2.map some) := Option.some.inj e2
  have hat := Dd.at_
  unfold tabV at e3
  rw [hat] at e3
  have e4 : es.toList.map ent = p.2.map some := Option.some.inj e3
  refine ⟨He.ga K p.1, es, n, hm, Dd, fun z => ?_⟩
  obtain ⟨g1, g2⟩ := ent_find z e4
  unfold PySem.W.nsIn
  rw [hat]
  cases hf : p.2.find? fun p => decide (p.1 = z) with
  | none =>
    rw [hf] at g2
    have g2 : es.toList.find? (·.key.isStr z) = none := g2
    refine ⟨none, ?_, rfl⟩
    simp only [g2, g1]
    rfl
  | some q =>
    rw [hf] at g2
    obtain ⟨e, t, h1, h2⟩ := g2
    refine ⟨some e.val, ?_, t, by rw [h2]⟩
    simp only [h1]
end
end Pu
namespace Pu
open PySem PySem.Spec PyProof.Rows L2
/-! ### zip of a list and a tuple -/
end Pu
namespace Pu
open PySem PySem.Spec PyProof.Rows L2
variable [TabT]
/-! ### an object that stands already is tracked -/
structure Newly (X : Cx) (pins : List (Addr × Obj)) (a : Addr) : Prop where
  loc : a ≠ X.env.locals
  cel : ∀ x c, X.env.cells.lookup x = some c → c ≠ a
  pin : ∀ p ∈ X.pn ++ pins, p.1 ≠ a
  old : X.s_0.heap.get? a = none
theorem Inv.track {X : Cx} {pins : List (Addr × Obj)} {st : L2.St} {H : Hp} {s : Shared} {a : Addr} {o : HO} (I : Inv X pins st H s) (nw : Newly X pins a) (hn : H a = none) (new : ObjOk X.prog X.w (upd H a o) s.heap a o) : Inv X pins st (upd H a o) s where
  ok := I.ok
  os := I.os
  bare := I.bare
  base := {
    keep := I.base.keep
    slot := I.base.slot
    free := fun b u q n x => by
      rw [upd_ne (fun z => by rw [z, nw.old] at q; cases q)]
      exact I.base.free b u q n x
    there := I.base.there
    tups := fun b xs q => by
      have q := I.base.tups b xs q
      rw [upd_ne (ne_of_none q hn)]
      exact q
    frzs := fun b u xs q => by
      have q := I.base.frzs b u xs q
      rw [upd_ne (ne_of_none q hn)]
      exact q
    tbls := fun b ps q => by
      obtain ⟨more, q⟩ := I.base.tbls b ps q
      refine ⟨more, ?_⟩
      rw [upd_ne (ne_of_none q hn)]
      exact q }
  loc := I.loc
  cell := I.cell
  free := by
    rw [upd_ne (Ne.symm nw.loc)]
    exact I.free
  freeC := fun x c e => by
    rw [upd_ne (nw.cel x c e)]
    exact I.freeC x c e
  pin := fun p hp => by
    obtain ⟨h1, h2, h3⟩ := I.pin p hp
    refine ⟨h1, ?_, h3⟩
    rw [upd_ne (nw.pin p hp)]
    exact h2
  hok := I.hok.laidN (fun _ _ q => q) hn new
  len := I.len
theorem Newly.of {X : Cx} {pins : List (Addr × Obj)} {st : L2.St} {H : Hp} {s : Shared} {a : Addr} (I : Inv X pins st H s) (h : s.heap.get? a = none) (hx : X.ex = []) : Newly X pins a where
  loc := fun z => by
    obtain ⟨m, ⟨o, es, ep, q, _⟩, _⟩ := I.loc
    rw [← z, h] at q
    cases q
  cel := fun x c e z => by
    obtain ⟨v, o, q, _⟩ := I.cell x c e
    rw [z, h] at q
    cases q
  pin := fun p hp z => by
    obtain ⟨q, _⟩ := I.pin p hp
    rw [z, h] at q
    cases q
  old := by
    cases q : X.s_0.heap.get? a with
    | none => rfl
    | some o =>
      obtain ⟨o', q2⟩ := I.base.there a o q (by rw [hx]; simp)
      rw [h] at q2
      cases q2
/-! ### try: .. except x as n: y = n -/
/-- what is wished of an exception of the body: n in slot i, y in slot k -/
def wKeep (K : PySem.W.Frag) (c : Value) (i k : Nat) (Dd : Ends) : WX := fun cls d st H =>
  PySem.W.exmOne K cls c = some true ∧ ∀ a, H a = none → Dd.nx (((st.set i (some (.ref a))).set k (some (.ref a))).set i none) (upd H a (CauO cls d a))
set_option maxHeartbeats 4000000 in
theorem ps_try_keep {X : Cx} {x n y : Str} {c : Value} {i k : Nat} {body : List Stmt} {np p1 p2 p3 pos pos' : Pos} {tb : WX → TS} (hs : X.stack = X.env :: X.outer) (hf : X.env.frame = some X.env.locals) (hex : X.ex = []) (hN : X.N.Nodup) (hi : X.N[i]? = some n) (hln : X.env.kindOf n = some .local) (hk : X.N[k]? = some y) (hly : X.env.kindOf y = some .local) (hc : Names X x c)
    (hdn : (n == ("__debug__" : Str)) = false) (hcn : (n == ("__classdict__" : Str)) = false) (hsw : swapsWith (.Name n p2) (some (.Name y p1)) p3.line X.env = pure false)
    (hb : ∀ (W : WX) (pn : List (Addr × Obj)) (xe : Value → Shared → Prop), Takes (X.tr pn xe) W → PassesOwn (model X.prog X.w) X.A X.env xe → PSs (X.tr pn xe) body (tb W)) :
    PS X (.Try body [.ExceptHandler (some (.Name x np)) (some n) [.Assign [.Name y p1] (.Name n p2) p3] pos'] [] [] pos) (fun Dd st H => tb (wKeep X.K c i k Dd) Dd st H) := by
  refine ⟨fun pins s st H Dd I h => ?_⟩
  have ok := I.ok
  have hfr : X.A.frames = some (X.env :: X.outer) := by rw [ok.frames, hs]
  have hloc : Loc X.env.scope n := .inl hln
  have hlocy : Loc X.env.scope y := .inl hly
  refine wpAny_Try_except ?_
  refine wpAny_mono ((hb (wKeep X.K c i k Dd) (X.pn ++ pins) (fun e s₁ => wpAny (model X.prog X.w) X.A (noteFrame e X.env) (fun _ s₂ => wpAny (model X.prog X.w) X.A (setFlight e none) (fun _ s₃ =>
    wpAny (model X.prog X.w) X.A (handleBy e X.env [.ExceptHandler (some (.Name x np)) (some n) [.Assign [.Name y p1] (.Name n p2) p3] pos']) (SP X pins Dd) X.xe s₃) X.xe s₂) X.xe s₁) (fun u s' xx => ?_) PassesOwn.looking).run [] s st H Dd (I.toTry _) h) (fun f s1 hsp => ?_) (fun e s1 he => he)
  · -- the catch
    obtain ⟨a, B, sI, pins', st', H', cls, d, rfl, J', nb, up, sky, na, os, ag, hb1, hyes⟩ := xx
    have J : Inv X pins st' H' sI := J'.ofTry ok
    have sky' : Sky B (X.env :: X.outer) a (Zc cls d) X.env.locals s'.heap := by rw [← hs]; exact sky
    show wpAny (model X.prog X.w) X.A (noteFrame (.ref a) X.env) _ _ _
    refine Sky.land Zc.steady hfr hf sky' fun h3 fl3 up3 => ?_
    have J3 : Inv X pins st' H' { s' with heap := h3 } := J.landed nb fl3.1 (up.trans up3) os ag
    obtain ⟨oe3, vs3, he3, hz3, hd3⟩ := fl3.there
    have notFr : ∀ {h : Heap} {o : Obj} {vs : Array Value}, h.FunFrames B (X.env :: X.outer) → h.get? a = some o → o.data = .fields vs → a ∉ frs (X.env :: X.outer) := fun {h o vs} ff e dd hm => by
      obtain ⟨_, o', e', hnf⟩ := ff.mem hm
      rw [e] at e'; cases e'
      exact hnf _ dd
    have nfr := notFr fl3.2.2.1 he3 hd3
    have nL : a ≠ X.env.locals := fun z => nfr (List.mem_filterMap.mpr ⟨X.env, List.mem_cons_self, by rw [hf, z]⟩)
    have nF : a ∉ X.fs := fun hm => by
      obtain ⟨e, he, q⟩ := List.mem_filterMap.mp hm
      exact nfr (List.mem_filterMap.mpr ⟨e, List.mem_cons_of_mem _ he, q⟩)
    -- it wasn't there
    have nI : sI.heap.get? a = none := by
      cases q : sI.heap.get? a with
      | none => rfl
      | some o =>
        have q2 := nb a o q (by rw [hs]; exact nfr)
        rw [fl3.2.1] at q2
        cases q2
    have nw : Newly X pins a := Newly.of J nI hex
    have S3 := J3.suite he3 hd3 na nL nF
    refine wpAny_handleBy_cons (codeAny_handlers_test ?_) (by intro q; cases q)
    have LT : PySem.W.Looks (model X.prog X.w) h3 (typeOf (.ref a)) cls := fun A Q E s k q => wpAny_typeOf_ref (k _ _ he3) (by rw [hz3.1]; exact q)
    have LM := PySem.W.exm_one (M := model X.prog X.w) (J3.kIn) LT hb1
    have test : ∀ {Q : Value → Shared → Prop} {E : Value → Shared → Prop}, Q c { s' with heap := h3 } → wpAny (model X.prog X.w) (X.A.mark (some (.ref a))) (eval (.Name x np) X.env) Q E { s' with heap := h3 } := fun {Q E} q => by
      obtain ⟨hg, hdbg, hm | ⟨hm, hv, hnn⟩⟩ := hc
      · exact ld_glob (X := X.suite a ((a, oe3) :: (X.pn ++ pins))) S3 hg hm q hdbg
      · exact ld_blt (X := X.suite a ((a, oe3) :: (X.pn ++ pins))) S3 hg hm hv q hnn hdbg
    refine test (LM.here ?_)
    refine codeAny_handlers_suite_as ?_
    refine HandSPX.lands_againZ fl3 fun h4 fl4 up4 => ?_
    have J4 : Inv X pins st' H' { s' with heap := h4 } := J.landed nb fl4.1 ((up.trans up3).trans up4) os ag
    obtain ⟨oe4, vs4, he4, hz4, hd4⟩ := fl4.there
    have S4 := J4.suite he4 hd4 na nL nF
    refine store_ok (X := X.suite a ((a, oe4) :: (X.pn ++ pins))) (v := .ref a) S4 hN hi hloc rfl (fun s5 S5 => ?_) (.inr hln)
    have su : PSs (X.suite a ((a, oe4) :: (X.pn ++ pins))) [.Assign [.Name y p1] (.Name n p2) p3] (fun Dd' σ H => tVar i σ H fun v H1 => Dd'.nx (σ.set k (some v)) H1) := pss_one (ps_set (X := X.suite a ((a, oe4) :: (X.pn ++ pins))) (i := k) hN hk hlocy (pe_var (i := i) hi (.inl hln) hdn hcn) hsw (.inr hly))
    have hlt : i < st'.length := by
      rw [J.len]
      exact (List.getElem?_eq_some_iff.mp hi).1
    refine wpAny_mono (su.run [] s5 _ H' { nx := fun σ' H'' => σ' = (st'.set i (some (.ref a))).set k (some (.ref a)) ∧ H'' = H', rt := fun _ _ => False, bk := fun _ _ => False, ct := fun _ _ => False } S5 ⟨.ref a, List.getElem?_set_self hlt, rfl, rfl⟩) (fun f s6 hsp => ?_) (fun _ _ z => False.elim z)
    cases f with
    | next =>
      obtain ⟨σ6, H6, S6, rfl, rfl⟩ := hsp
      refine gone_ok (X := X.suite a ((a, oe4) :: (X.pn ++ pins))) S6 hN hi hln fun s7 S7 => ?_
      have he7 : s7.heap.get? a = some oe4 := (S7.pin (a, oe4) (by
        rw [List.append_nil]
        exact List.mem_cons_self)).1
      have J7 : Inv X pins _ H6 s7 := S7.unsuite ok
      refine ⟨_, _, Pu.Inv.track (o := CauO cls d a) J7 nw na ⟨⟨oe4, vs4, he7, hz4, hd4⟩, ⟨_, he7⟩, fun h1 h2 ⟨oe, vs, z1, z2⟩ kk => ⟨oe, vs, kk _ z1, z2⟩⟩, hyes a na⟩
    | brk =>
      obtain ⟨σ6, H6, S6, q6⟩ := hsp
      exact q6.elim
    | cont =>
      obtain ⟨σ6, H6, S6, q6⟩ := hsp
      exact q6.elim
    | ret u =>
      obtain ⟨v6, σ6, H6, S6, r6, q6⟩ := hsp
      exact q6.elim
  · cases f with
    | next =>
      obtain ⟨st', H', J', q⟩ := hsp
      exact wpAny_execs_nil ⟨st', H', J'.ofTry ok, q⟩
    | brk =>
      obtain ⟨st', H', J', q⟩ := hsp
      exact ⟨st', H', J'.ofTry ok, q⟩
    | cont =>
      obtain ⟨st', H', J', q⟩ := hsp
      exact ⟨st', H', J'.ofTry ok, q⟩
    | ret u =>
      obtain ⟨v, st', H', J', r, q⟩ := hsp
      exact ⟨v, st', H', J'.ofTry ok, r, q⟩
/-! ### the classes of the program -/
def houseE : Str := "HouseError"
def isB (nm y : Str) : Bool := decide (nm = y) || decide (y = houseE)
structure XTab (K : PySem.W.Frag) (mg : Str → Option Value) (ns ys : List Str) : Prop where
  ex : ∀ nm ∈ ns, ExcK K nm
  is : ∀ nm ∈ ns, ∀ y ∈ ys, PySem.W.kitOne K (.ref (He.ga K nm)) (.ref (He.ga K y)) = some (isB nm y)
  ve : ∀ nm ∈ ns, PySem.W.kitOne K (.ref (He.ga K nm)) (.type "ValueError") = some true
  em : ∀ nm ∈ ns, PySem.W.exmOne K (.ref (He.ga K nm)) (.ref (He.ga K houseE)) = some true
  g : ∀ y ∈ houseE :: ys, mg y = some (.ref (He.ga K y))
def excCB (K : PySem.W.Frag) (D : Addr) : Bool :=
  decide (PySem.W.findIn K (.ref D) "__getattribute__" = some (some (.builtin "BaseException.__getattribute__"))) && (decide (PySem.W.findIn K (.ref D) "__getattr__" = some none) && (decide (PySem.W.subIn K (.ref D) (.type "BaseException") = some true) && (PySem.W.hasDictIn K D && (decide (PySem.W.findIn K (.ref D) "__class__" = some (some (.builtin "object.__class__"))) && (decide (PySem.W.specialIn K (.builtin "object.__class__") "__get__" = some (some (.builtin "getset_descriptor.__get__"))) && (decide (PySem.W.takesIn K (.builtin "object.__class__") = some true) && decide (PySem.W.mroIn K D (.type "object") = some true)))))))
theorem excCB_ok {K : PySem.W.Frag} {D : Addr} (h : excCB K D = true) : ExcC K D := by
  unfold excCB at h
  simp only [Bool.and_eq_true, decide_eq_true_eq] at h
  obtain ⟨h1, h2, h3, h4, h5, h6, h7, h8⟩ := h
  exact ⟨h1, h2, h3, h4, h5, h6, h7, h8⟩
def xtB (ns ys : List Str) (K : PySem.W.Frag) : Bool := ns.all fun nm => excCB K (He.ga K nm) && ((basicT.all fun T => decide (PySem.W.kitOne K (.ref (He.ga K nm)) (.type T) = some false)) && ((ys.all fun y => decide (PySem.W.kitOne K (.ref (He.ga K nm)) (.ref (He.ga K y)) = some (isB nm y))) && (decide (PySem.W.kitOne K (.ref (He.ga K nm)) (.type "ValueError") = some true) && decide (PySem.W.exmOne K (.ref (He.ga K nm)) (.ref (He.ga K houseE)) = some true))))
theorem xtB_ok {K : PySem.W.Frag} {mg : Str → Option Value} {ns ys : List Str} (h : xtB ns ys K = true) (g : ∀ y ∈ houseE :: ys, mg y = some (.ref (He.ga K y))) : XTab K mg ns ys := by
  have key : ∀ nm ∈ ns, ExcK K nm ∧ (∀ y ∈ ys, PySem.W.kitOne K (.ref (He.ga K nm)) (.ref (He.ga K y)) = some (isB nm y)) ∧ PySem.W.kitOne K (.ref (He.ga K nm)) (.type "ValueError") = some true ∧ PySem.W.exmOne K (.ref (He.ga K nm)) (.ref (He.ga K houseE)) = some true := fun nm hn => by
    have q := List.all_eq_true.mp h nm hn
    simp only [Bool.and_eq_true, decide_eq_true_eq, List.all_eq_true] at q
    obtain ⟨q1, q2, q3, q4, q5⟩ := q
    exact ⟨⟨excCB_ok q1, q2⟩, q3, q4, q5⟩
  exact ⟨fun nm hn => (key nm hn).1, fun nm hn => (key nm hn).2.1, fun nm hn => (key nm hn).2.2.1, fun nm hn => (key nm hn).2.2.2, g⟩
/-! ### the rules -/
def sRaise (nm : Str) : M Fl := fun r => .ex ⟨nm, []⟩ r
def exOf (e : Exn) : D := .dict ((.str e.name, .none) :: e.flds.map fun p => (.str p.1, p.2))
/-- try: body, except HouseError as (slot j): (slot i) = it -/
def sTry (ns : List Str) (j i : Nat) (mb : M Fl) : M Fl := fun r => match mb r with
  | .ex e r1 => if e.name ∈ ns then (match (setN j (.v (exOf e)) r1).bind (setN i (.v (exOf e))) with
    | some r2 => .ok .nx (r2.set j .unk)
    | none => .no) else .no
  | x => x
def isED (ns : List Str) (y : Str) : D → Option D
  | .dict ((.str nm, .none) :: _) => if nm ∈ ns then some (.bool (isB nm y)) else none
  | _ => none
def isEV (ns : List Str) : D → Option D
  | .dict ((.str nm, .none) :: _) => if nm ∈ ns then some (.bool true) else none
  | _ => none
def isET (ns : List Str) (ys : List Str) : D → Option D
  | .dict ((.str nm, .none) :: _) => if nm ∈ ns then some (.bool (ys.any fun y => isB nm y)) else none
  | _ => none
section
variable {X : Cx} {c : Cc}
theorem exRp {K : PySem.W.Frag} {mg : Str → Option Value} {W : WX} {F H : Hp} {e : Exn} {cls : Value} {dd : Option Addr} {a : Addr} (h : ExOk ⟨K, mg, W⟩ F H e cls dd) (x : ExcK K e.name) (ha : F a = none) : Rp K (upd F a (CauO cls dd a)) (.ref a) (exOf e) := by
  obtain ⟨rfl, h⟩ := h
  rcases h with ⟨h1, rfl⟩ | ⟨d, fs, rfl, h1, h2, h3⟩
  · unfold exOf
    rw [h1]
    exact .exc0 upd_same x
  · refine .excF (fs := fs) upd_same ((Ex.new ha).at_ _ _ h1 (fun ps z => nomatch z)) x ?_ ?_
    · rw [List.map_map]
      have e2 : e.flds.map ((fun p : D × D => p.1) ∘ fun p : Str × D => ((.str p.1, p.2) : D × D)) = (e.flds.map (·.1)).map PyData.str := by
        rw [List.map_map]
        rfl
      rw [e2, ← h2, List.map_map]
      rfl
    · rw [List.map_map]
      have e2 : e.flds.map ((fun p : D × D => p.2) ∘ fun p : Str × D => ((.str p.1, p.2) : D × D)) = e.flds.map (·.2) := rfl
      rw [e2]
      exact dpa_mono (Ex.new ha) h3
theorem s_try {n y : Str} {i j : Nat} {ns ys : List Str} {body : List Stmt} {np p1 p2 p3 pos pos' : Pos} {mb : M Fl} (T : XTab X.K X.mg ns ys) (hN : X.N.Nodup)
    (hb : ∀ (W : WX) (pn : List (Addr × Obj)) (xe : Value → Shared → Prop), Takes (X.tr pn xe) W → PassesOwn (model X.prog X.w) X.A X.env xe → PSs (X.tr pn xe) body (sM { c with W := W } mb))
    (hK : c.K = X.K := by rfl) (hs : X.stack = X.env :: X.outer := by rfl) (hf : X.env.frame = some X.env.locals := by rfl) (hex : X.ex = [] := by rfl) (hj : X.N[j]? = some n := by rfl) (hln : X.env.kindOf n = some .local := by rfl) (hi : X.N[i]? = some y := by rfl) (hly : X.env.kindOf y = some .local := by rfl)
    (hg : Gl X houseE := by rfl) (hdn : (n == ("__debug__" : Str)) = false := by decide) (hcn : (n == ("__classdict__" : Str)) = false := by decide) (hsw : swapsWith (.Name n p2) (some (.Name y p1)) p3.line X.env = pure false := by rfl) :
    PS X (.Try body [.ExceptHandler (some (.Name houseE np)) (some n) [.Assign [.Name y p1] (.Name n p2) p3] pos'] [] [] pos) (sM c (sTry ns j i mb)) :=
  ps_cq (ps_try_keep (c := .ref (He.ga X.K houseE)) (tb := fun W => sM { c with W := W } mb) hs hf hex hN hj hln hi hly ⟨hg, by decide, .inl (T.g houseE (List.mem_cons_self ..))⟩ hdn hcn hsw hb) fun Dd st H ⟨pa, H0, F0, F, r, ok, po⟩ => by
    refine ⟨pa, H0, F0, F, r, ok, ?_⟩
    unfold sTry at po
    cases hm : mb r with
    | no =>
      rw [hm] at po
      exact po.elim
    | ok fl r1 =>
      rw [hm] at po
      exact po
    | ex e r1 =>
      rw [hm] at po
      dsimp only at po
      split at po
      case isFalse => exact po.elim
      rename_i hn
      have xk := T.ex e.name hn
      intro F' H' st' cls dd k1 e1 xo
      have xo' := xo
      obtain ⟨hcls, _⟩ := xo
      refine ⟨by rw [hcls, hK]; exact T.em e.name hn, fun a na => ?_⟩
      have nF := k1.fH.nn na
      have k2 := k1.layF (o := CauO cls dd a) na
      have dp : Rp c.K (upd F' a (CauO cls dd a)) (.ref a) (exOf e) := exRp (mg := c.mg) (W := wKeep X.K (.ref (He.ga X.K houseE)) j i Dd) xo' (by rw [hK]; exact xk) nF
      cases h1 : setN j (.v (exOf e)) r1 with
      | none =>
        rw [h1] at po
        exact po.elim
      | some r2 =>
        rw [h1] at po
        cases h2 : setN i (.v (exOf e)) r2 with
        | none =>
          rw [show (some r2).bind (setN i (.v (exOf e))) = setN i (.v (exOf e)) r2 from rfl, h2] at po
          exact po.elim
        | some r3 =>
          rw [show (some r2).bind (setN i (.v (exOf e))) = setN i (.v (exOf e)) r2 from rfl, h2] at po
          obtain ⟨rfl, z1⟩ := setN_some h1
          obtain ⟨rfl, z2⟩ := setN_some h2
          exact po _ _ _ (((k2.setV z1 dp).setV z2 dp).forget (x := none)) (e1.trans (Ex.new nF))
theorem isED_some {ns : List Str} {y : Str} {d z : D} (h : isED ns y d = some z) : ∃ nm kv, d = .dict ((.str nm, .none) :: kv) ∧ nm ∈ ns ∧ z = .bool (isB nm y) := by
  unfold isED at h
  split at h
  · split at h
    · cases h
      exact ⟨_, _, rfl, by assumption, rfl⟩
    · cases h
  · cases h
theorem isEV_some {ns : List Str} {d z : D} (h : isEV ns d = some z) : ∃ nm kv, d = .dict ((.str nm, .none) :: kv) ∧ nm ∈ ns ∧ z = .bool true := by
  unfold isEV at h
  split at h
  · split at h
    · cases h
      exact ⟨_, _, rfl, by assumption, rfl⟩
    · cases h
  · cases h
/-- isinstance(e, y), y a class of the program -/
theorem e_isE {ns ys : List Str} {y : Str} {e : Expr} {m : M D} {p py pos : Pos} (T : XTab X.K X.mg ns ys) (h : PE X e (tM c m)) (hm : X.mg "isinstance" = none) (hy : y ∈ ys := by decide) (hK : c.K = X.K := by rfl) (hg : Gl X "isinstance" := by rfl) (hgy : Gl X y := by rfl) (hdT : (y == ("__debug__" : Str)) = false := by decide)
    (hs1 : starEach [e, .Name y py] X.env = (false, eval e X.env) :: starEach [.Name y py] X.env := by rfl) (hs2 : starEach [.Name y py] X.env = (false, eval (.Name y py) X.env) :: starEach [] X.env := by rfl) (hpl : (backTo pos (starEach [.Name y py] X.env)).any (·.1) = false := by rfl) :
    PE X (.Call (.Name "isinstance" p) [e, .Name y py] [] pos) (tM c (una (isED ns y) m)) :=
  pe_cq (pe_callB call_isX hg hm (by decide +kernel) (pa_cons h (pa_cons (pe_glob (v := .ref (He.ga X.K y)) hgy (T.g y (List.mem_cons_of_mem _ hy)) rfl hdT) pa_nil hs2) hs1) (by decide) (by decide) hs1 hpl) fun st H Q ⟨pa, H0, F0, F, r, ok, po⟩ => seqM ok po fun d r1 F1 H1 v k1 e1 dp q => by
    obtain ⟨z, hz, q⟩ := opt_po q
    obtain ⟨nm, kv, rfl, hn, rfl⟩ := isED_some hz
    obtain ⟨a, rfl, g1, g2⟩ := rp_exAt dp k1.fH
    exact ⟨a, He.ga c.K nm, .ref (He.ga X.K y), .ref (He.ga X.K y), isB nm y, rfl, g1, by rw [← hK]; exact g2.c, fun u ru => ru, by rw [hK]; exact T.is nm hn y hy, q F1 H1 _ k1 e1 (.bl _)⟩
theorem e_isEV {ns ys : List Str} {e : Expr} {m : M D} {p py pos : Pos} (T : XTab X.K X.mg ns ys) (h : PE X e (tM c m)) (hm : X.mg "isinstance" = none) (hmT : X.mg "ValueError" = none) (hK : c.K = X.K := by rfl) (hg : Gl X "isinstance" := by rfl) (hgT : Gl X "ValueError" := by rfl)
    (hs1 : starEach [e, .Name "ValueError" py] X.env = (false, eval e X.env) :: starEach [.Name "ValueError" py] X.env := by rfl) (hs2 : starEach [.Name "ValueError" py] X.env = (false, eval (.Name "ValueError" py) X.env) :: starEach [] X.env := by rfl) (hpl : (backTo pos (starEach [.Name "ValueError" py] X.env)).any (·.1) = false := by rfl) :
    PE X (.Call (.Name "isinstance" p) [e, .Name "ValueError" py] [] pos) (tM c (una (isEV ns) m)) :=
  pe_cq (pe_callB call_isX hg hm (by decide +kernel) (pa_cons h (pa_cons (pe_bltn (v := .ty "ValueError") hgT hmT (by decide +kernel) rfl (by decide) (by decide)) pa_nil hs2) hs1) (by decide) (by decide) hs1 hpl) fun st H Q ⟨pa, H0, F0, F, r, ok, po⟩ => seqM ok po fun d r1 F1 H1 v k1 e1 dp q => by
    obtain ⟨z, hz, q⟩ := opt_po q
    obtain ⟨nm, kv, rfl, hn, rfl⟩ := isEV_some hz
    obtain ⟨a, rfl, g1, g2⟩ := rp_exAt dp k1.fH
    exact ⟨a, He.ga c.K nm, .ty "ValueError", .type "ValueError", true, rfl, g1, by rw [← hK]; exact g2.c, fun u ru => ru, by rw [hK]; exact T.ve nm hn, q F1 H1 _ k1 e1 (.bl _)⟩
end
/-! ### isinstance with a tuple of classes -/
def GlA (K : PySem.W.Frag) (ys : List Str) : TA := fun _ H Q => Q (ys.map fun y => V.ref (He.ga K y)) H
def rIsXT (K : PySem.W.Frag) : List V → Hp → VK → Prop := fun xs H Q => ∃ (a C tp : Addr) (cs : List V) (us : List Value) (b : Bool), xs = [.ref a, .ref tp] ∧ H tp = some (.tup cs) ∧ (∀ ws, Vals cs ws → ws = us) ∧ ExAt H a C ∧ ExcC K C ∧ PySem.W.kitAny K (.ref C) us = some b ∧ Q (.bl b) H
section
variable {X : Cx} {c : Cc}
theorem gl_nil : PA X [] (GlA X.K []) := pa_nil
theorem gl_cons {y : Str} {py : Pos} {es : List Expr} {ys : List Str} (h : PA X es (GlA X.K ys)) (g : X.mg y = some (.ref (He.ga X.K y))) (hgy : Gl X y := by rfl) (hdT : (y == ("__debug__" : Str)) = false := by decide) (hs : starEach (.Name y py :: es) X.env = (false, eval (.Name y py) X.env) :: starEach es X.env := by rfl) : PA X (.Name y py :: es) (GlA X.K (y :: ys)) :=
  pa_cq (pa_cons (pe_glob (v := .ref (He.ga X.K y)) hgy g rfl hdT) h hs) fun st H Q h => h
theorem call_isXT : CallR X (.builtin "isinstance") (rIsXT X.K) := by
  intro pins s st H xs us Q I r h
  obtain ⟨a, C, tp, cs, ws, b, rfl, hT, hu, ha, hC, e, q⟩ := h
  obtain ⟨u1, u2, rfl, r1, r2⟩ := vals2 r
  cases (show u2 = Value.ref tp from r2)
  cases (show u1 = Value.ref a from r1)
  obtain ⟨ox, od, J⟩ := exAt_inst I ha
  obtain ⟨_, its, rv, o, h1, h2, n, h3⟩ := (show ObjOk X.prog X.w H s.heap tp (.tup cs) from I.hok tp _ hT)
  have e3 := hu _ rv
  subst e3
  obtain ⟨oc, od, dt, sl⟩ := o
  simp only at h2 h3
  subst h2 h3
  exact PySem.W.kia_tup (excC_kit hC) I.kIn J h1 e (fun z => nomatch z) fun tk => ⟨.bl b, H, I.tok tk, rfl, q⟩
theorem vals_gl {K : PySem.W.Frag} : ∀ {ys : List Str} {ws : List Value}, Vals (ys.map fun y => V.ref (He.ga K y)) ws → ws = ys.map fun y => Value.ref (He.ga K y)
  | [], _, .nil => rfl
  | _ :: _, _, .cons r t => by
    cases (show _ = Value.ref _ from r)
    rw [vals_gl t]
    rfl
theorem kitAny_gl {K : PySem.W.Frag} {nm : Str} : ∀ {ys : List Str}, (∀ y ∈ ys, PySem.W.kitOne K (.ref (He.ga K nm)) (.ref (He.ga K y)) = some (isB nm y)) → PySem.W.kitAny K (.ref (He.ga K nm)) (ys.map fun y => Value.ref (He.ga K y)) = some (ys.any fun y => isB nm y)
  | [], _ => rfl
  | y :: ys, h => by
    have h1 := h y (List.mem_cons_self ..)
    have h2 := kitAny_gl fun z hz => h z (List.mem_cons_of_mem _ hz)
    rw [List.map_cons, List.any_cons]
    unfold PySem.W.kitAny
    rw [h1]
    cases isB nm y with
    | true => rfl
    | false => exact h2
theorem isET_some {ns ys : List Str} {d z : D} (h : isET ns ys d = some z) : ∃ nm kv, d = .dict ((.str nm, .none) :: kv) ∧ nm ∈ ns ∧ z = .bool (ys.any fun y => isB nm y) := by
  unfold isET at h
  split at h
  · split at h
    · cases h
      exact ⟨_, _, rfl, by assumption, rfl⟩
    · cases h
  · cases h
theorem e_isET {ns ys zs : List Str} {e : Expr} {es : List Expr} {m : M D} {k : Nat} {p pt pos : Pos} (T : XTab X.K X.mg ns ys) (h : PE X e (tM c m)) (hm : X.mg "isinstance" = none) (hp : PA X es (GlA X.K zs)) (hz : ∀ z ∈ zs, z ∈ ys := by decide) (hlen : zs.length ≤ 100 := by decide) (hK : c.K = X.K := by rfl) (hg : Gl X "isinstance" := by rfl)
    (hs1 : starEach [e, .Tuple es k pt] X.env = (false, eval e X.env) :: starEach [.Tuple es k pt] X.env := by rfl) (hs2 : starEach [.Tuple es k pt] X.env = (false, eval (.Tuple es k pt) X.env) :: starEach [] X.env := by rfl) (hpl : (backTo pos (starEach [.Tuple es k pt] X.env)).any (·.1) = false := by rfl) :
    PE X (.Call (.Name "isinstance" p) [e, .Tuple es k pt] [] pos) (tM c (una (isET ns zs) m)) :=
  pe_cq (pe_callB call_isXT hg hm (by decide +kernel) (pa_cons h (pa_cons (pe_tup hp) pa_nil hs2) hs1) (by decide) (by decide) hs1 hpl) fun st H Q ⟨pa, H0, F0, F, r, ok, po⟩ => seqM ok po fun d r1 F1 H1 v k1 e1 dp q => by
    obtain ⟨z, hz2, q⟩ := opt_po q
    obtain ⟨nm, kv, rfl, hn, rfl⟩ := isET_some hz2
    refine ⟨by rw [List.length_map, sizeLine_eq]; omega, fun tp np => ?_⟩
    have k2 := k1.lay (o := .tup (zs.map fun y => V.ref (He.ga X.K y))) np
    obtain ⟨a, rfl, g1, g2⟩ := rp_exAt dp k2.fH
    exact ⟨a, He.ga c.K nm, tp, _, _, _, rfl, upd_same, fun ws hw => vals_gl hw, g1, by rw [← hK]; exact g2.c, by rw [hK]; exact kitAny_gl fun y hy => T.is nm hn y (hz y hy), q F1 _ _ k2 e1 (.bl _)⟩
/-! .. of built-in classes -/
end
/-! ### the head with one more Bool -/
abbrev AlB : Type := He.AlD × Bool
def SaysB (fa : List He.Fa) (fn : List He.DefD) (ex : PySem.W.Frag → Bool) (K : PySem.W.Frag) : Prop := He.SaysD fa fn K ∧ ex K = true
end Pu
namespace Pu
open PySem PySem.Spec PyProof.Rows L2
variable [TabT]
/-! ### zip of three tuples -/
theorem six {zz ti to p1 p2 p3 q : Addr} (h : q ∈ [zz, ti, to, p1, p2, p3]) : q = zz ∨ q = ti ∨ q = to ∨ q = p1 ∨ q = p2 ∨ q = p3 := by simpa using h
def zip3D : List D → List D → List D → List D
  | x :: xs, y :: ys, z :: zs => .tuple [x, y, z] :: zip3D xs ys zs
  | _, _, _ => []
def zip3Of : List D → Option (List D)
  | [.tuple xs, .tuple ys, .tuple zs] => some (zip3D xs ys zs)
  | _ => none
/-! ### x.insert(n, e) -/
noncomputable def sInsert (i : Nat) (mk m : M D) : M Fl := fun r => match getC i r with
  | some (.l _) => (mk r).bind fun k r => (m r).bind fun d r => match k, getC i r with
    | .int n, some (.l ds) => cI (ds.length < 16777216 ∧ 0 ≤ n ∧ n < 2 ^ 63) (.ok .nx (putC i (.l (ds.take n.toNat ++ [d] ++ ds.drop n.toNat)) r)) .no
    | _, _ => .no
  | _ => .no
end Pu
namespace L2
open PySem PySem.Spec PyProof.Rows
end L2
namespace Pu
open PySem PySem.Spec PyProof.Rows L2
variable [TabT]
/-! ### sorted(set(a list of ints)) -/
def unaO (g : D → Option (List D)) (ma : M D) : M RV := ma.bind fun x => M.opt ((g x).map fun z => .o (.l z))
/-! ### sorted(a list of ints) -/
def insS (k : Int) : List Int → List Int
  | [] => [k]
  | x :: xs => if k ≤ x then k :: x :: xs else x :: insS k xs
def isort : List Int → List Int
  | [] => []
  | k :: ks => insS k (isort ks)
def sortD : List D → Option (List D)
  | [.list ds] => (intsOf ds).map fun ns => (isort ns).map .int
  | _ => none
end Pu
namespace Pu
open PySem PySem.Spec PyProof.Rows L2
variable [TabT]
def clsS : Stmt → Nat → Stmt
  | .ClassDef _ _ _ body _ _ _ _ _ _ _, j => body.getD j (.Pass ⟨0, 0, 0, 0⟩)
  | s, _ => s
/-! ### the fields of a caught exception -/
def kvGet (n : Str) : List (D × D) → Option D
  | (.str m, d) :: kv => if n = m then some d else kvGet n kv
  | _ => none
def fldD (tab : List (Str × Str)) (n : Str) : D → Option D
  | .dict ((.str nm, .none) :: kv) => if (nm, n) ∈ tab then kvGet n kv else none
  | _ => none
def tFld (K : PySem.W.Frag) (n : Str) (te : TE) : TE := fun σ H Q => te σ H fun x H1 => ∃ (a dd : Addr) (nm : Str) (fs : List (Str × V)) (v : V), x = .ref a ∧ H1 a = some (CauO (.ref (He.ga K nm)) (some dd) a) ∧ H1 dd = some (.xd fs) ∧ ExcC K (He.ga K nm) ∧ PySem.W.findIn K (.ref (He.ga K nm)) n = some none ∧ fs.lookup n = some v ∧ Q v H1
theorem pe_fld {X : Cx} {e : Expr} {te : TE} {pos : Pos} {n : Str} (he : PE X e te) (hb : attributeBase e n X.env (eval e X.env) = eval e X.env) : PE X (.Attribute e n pos) (tFld X.K n te) := by
  refine ⟨fun pins s σ H Q I h => ?_⟩
  refine attr_of hb (thn (he.run pins s σ H _ I h) fun u s1 hh => ?_)
  obtain ⟨x, H1, I1, rx, a, dd, nm, fs, v, ex, ha, ea, T, hno, l, q⟩ := hh
  subst ex
  obtain rfl : u = Value.ref a := rx
  have hx0 : ObjOk X.prog X.w H1 s1.heap a (.ext fun h => ∃ (oe : Obj) (vs : Array Value), h.get? a = some oe ∧ Zc (.ref (He.ga X.K nm)) (some dd) oe ∧ oe.data = .fields vs) := I1.hok a _ ha
  obtain ⟨oe, vs, hoe, hz, hd⟩ := hx0.1
  have hx : ObjOk X.prog X.w H1 s1.heap dd (.xd fs) := I1.hok dd _ ea
  obtain ⟨mA, hns, hr⟩ := hx
  obtain ⟨od, ho, hl⟩ := lookIn_ns hns
  obtain ⟨u, hu, ru⟩ := RelO.some_of (v := v) (o := mA n) (by rw [← l]; exact hr n)
  have J : PySem.W.InstAt s1.heap a oe (He.ga X.K nm) (some od) := ⟨hoe, hz.1, by unfold PySem.W.notCls; rw [hd] <;> rfl, by rw [hz.2]; exact ho⟩
  exact HandSPX.exc_get I1.kIn J T.hg T.hk T.hs (PySem.W.findObj_own T.hd hno rfl (by rw [hl, hu])) (handed_of ru) ⟨v, H1, I1.tok _, ru, q⟩
theorem kvGet_ok {K : PySem.W.Frag} {H : Hp} {n : Str} : ∀ {kv : List (D × D)} {fs : List (Str × V)} {d : D}, kv.map (·.1) = fs.map (fun p => PyData.str p.1) → RpAll K H (fs.map (·.2)) (kv.map (·.2)) → kvGet n kv = some d → ∃ v, fs.lookup n = some v ∧ Rp K H v d
  | [], _, _, _, _, h => by cases h
  | (k, x) :: kv, [], _, e, _, _ => by cases e
  | (k, x) :: kv, (m, y) :: fs, d, e, r, h => by
    rw [List.map_cons, List.map_cons] at e
    obtain ⟨e1, e2⟩ := List.cons.inj e
    have e1 : k = .str m := e1
    subst e1
    have h : (if n = m then some x else kvGet n kv) = some d := h
    rw [lookup_put]
    cases r with
    | cons r1 r2 =>
      by_cases hn : n = m
      · rw [if_pos hn] at h ⊢
        cases h
        exact ⟨_, rfl, r1⟩
      · rw [if_neg hn] at h ⊢
        exact kvGet_ok e2 r2 h
def FTab (K : PySem.W.Frag) (tab : List (Str × Str)) : Prop := ∀ p ∈ tab, PySem.W.findIn K (.ref (He.ga K p.1)) p.2 = some none
def ftB (tab : List (Str × Str)) (K : PySem.W.Frag) : Bool := tab.all fun p => decide (PySem.W.findIn K (.ref (He.ga K p.1)) p.2 = some none)
theorem ftB_ok {K : PySem.W.Frag} {tab : List (Str × Str)} (h : ftB tab K = true) : FTab K tab := fun p hp => of_decide_eq_true (List.all_eq_true.mp h p hp)
theorem fldD_some {tab : List (Str × Str)} {n : Str} {d z : D} (h : fldD tab n d = some z) : ∃ nm kv, d = .dict ((.str nm, .none) :: kv) ∧ (nm, n) ∈ tab ∧ kvGet n kv = some z := by
  unfold fldD at h
  split at h
  · split at h
    · exact ⟨_, _, rfl, by assumption, h⟩
    · cases h
  · cases h
section
variable {X : Cx} {c : Cc}
theorem e_fld {tab : List (Str × Str)} {e : Expr} {m : M D} {n : Str} {pos : Pos} (T : FTab X.K tab) (h : PE X e (tM c m)) (hK : c.K = X.K := by rfl) (hb : attributeBase e n X.env (eval e X.env) = eval e X.env := by rfl) :
    PE X (.Attribute e n pos) (tM c (una (fldD tab n) m)) :=
  pe_cq (pe_fld h hb) fun st H Q ⟨pa, H0, F0, F, r, ok, po⟩ => seqM ok po fun d r1 F1 H1 v k1 e1 dp q => by
    obtain ⟨z, hz, q9⟩ := opt_po q
    obtain ⟨nm, kv, rfl, ht, hk⟩ := fldD_some hz
    cases dp with
    | exc0 _ _ => cases hk
    | dci _ _ _ _ w => exact (dci_str w).elim
    | @excF a dd _ fs _ g1 g2 g3 g4 g5 =>
      obtain ⟨v, hl, hv⟩ := kvGet_ok g4 g5 hk
      exact ⟨a, dd, nm, fs, v, rfl, by rw [← hK]; exact k1.fH.at_ _ _ g1 cau_ne, k1.fH.at_ _ _ g2 (fun ps z => nomatch z), by rw [← hK]; exact g3.c, T _ ht, hl, q9 F1 H1 _ k1 e1 hv⟩
end
/-! ### HouseError.__init__(self, ..) -/
structure HeI (K : PySem.W.Frag) (mg : Str → Option Value) : Prop where
  g : mg houseE = some (.ref (He.ga K houseE))
  rd : PySem.W.readsIn K (He.ga K houseE) (.type "type") = true
  ga : PySem.W.specialIn K (.ref (He.ga K houseE)) "__getattribute__" = some (some (.builtin "type.__getattribute__"))
  v : PySem.W.findCls K (.ref (He.ga K houseE)) (.type "type") "__init__" = some (.val (.builtin "ValueError.__init__"))
def heB (K : PySem.W.Frag) : Bool := PySem.W.readsIn K (He.ga K houseE) (.type "type") && (decide (PySem.W.specialIn K (.ref (He.ga K houseE)) "__getattribute__" = some (some (.builtin "type.__getattribute__"))) && (match PySem.W.findCls K (.ref (He.ga K houseE)) (.type "type") "__init__" with
  | some (.val (.builtin "ValueError.__init__")) => true
  | _ => false))
theorem heB_ok {K : PySem.W.Frag} {mg : Str → Option Value} (h : heB K = true) (g : mg houseE = some (.ref (He.ga K houseE))) : HeI K mg := by
  unfold heB at h
  simp only [Bool.and_eq_true, decide_eq_true_eq] at h
  obtain ⟨h1, h2, h3⟩ := h
  refine ⟨g, h1, h2, ?_⟩
  split at h3
  · assumption
  · cases h3
theorem pe_heinit {X : Cx} {e : Expr} {es : List Expr} {ta : TA} {p1 p2 pos : Pos} {pl : Sem Bool} (E : HeI X.K X.mg) (ha : PA X (e :: es) ta) (hg : Gl X houseE := by rfl)
    (hc : eval (.Call (.Attribute (.Name houseE p1) "__init__" p2) (e :: es) [] pos) X.env = (do
      let ov ← eval (.Name houseE p1) X.env
      standAt p2.atName
      let (f, first) ← holding [ov] (getMethod ov "__init__" pl)
      callWith pos f first (backTo pos (starEach (e :: es) X.env)) (backToKw pos (keywordEach [] X.env))) := by rfl)
    (he : starEach (e :: es) X.env = (false, eval e X.env) :: starEach es X.env := by rfl) (hpl : (backTo pos (starEach es X.env)).any (·.1) = false := by rfl) :
    PE X (.Call (.Attribute (.Name houseE p1) "__init__" p2) (e :: es) [] pos) (tVeI X.K ta) := by
  refine ⟨fun pins s σ H Q I h => ?_⟩
  refine PySem.W.methodCall_KW (ld_glob I hg E.g ?_ (by decide)) hc
  refine PySem.W.method_cls I.kIn E.ga (PySem.W.cls_value I.kIn E.rd E.v (by decide +kernel) ?_)
  show wpAny _ _ (callWith pos (Value.builtin "ValueError.__init__") [] (backTo pos (starEach (e :: es) X.env)) []) _ _ _
  refine PyProof.Rows.callWith_method1 (thn (ha.run pos pins _ σ H _ (I.tok _) h) fun us s1 ⟨vs, H1, I1, r1, a, C, ws, ev, hl, T, ea, q⟩ => ?_) he hpl
  subst ev
  cases r1 with
  | @cons _ u0 _ ur ra rw' =>
    obtain rfl : u0 = Value.ref a := ra
    have hlen : ur.length ≤ sizeLine := by
      rw [← Paired.length rw', sizeLine_eq]
      omega
    exact oinit_ok T I1 ea hlen fun s' J => ⟨.non, H1, J, rfl, q⟩
/-! ### the own __init__ of an exception: its fields are its parameters -/
def oexB (K : PySem.W.Frag) (C : Addr) : Bool := (match K.lookup C with
  | some ⟨.type "type", _, .cls cd, sl⟩ => (match cd.mro, sl.toList with
    | .ref C' :: bm, [_, _, _, _, some (.builtin n), _] => C' == C && (n == "ValueError.__new__" && (!cd.hasDel && (cd.hasDict && PySem.HandSPX.refsVE bm)))
    | _, _ => false)
  | _ => false) && (decide (PySem.W.findIn K (.ref C) "__setattr__" = some (some (.builtin "object.__setattr__"))) && (decide (PySem.W.subIn K (.ref C) (.type "BaseException") = some true) && (decide (PySem.W.typeIn K (.ref C) = some (.type "type")) && PySem.W.keepIn K (.ref C))))
theorem oexB_ok {K : PySem.W.Frag} {C : Addr} (h : oexB K C = true) : OexC K C := by
  unfold oexB at h
  simp only [Bool.and_eq_true, decide_eq_true_eq] at h
  obtain ⟨q, h1, h2, h3, h4⟩ := h
  refine ⟨?_, h1, h2, h3, h4⟩
  split at q
  · rename_i dd cd sl ho
    split at q
    · rename_i C' bm k0 k1 k2 k3 n k5 hm hs
      simp only [Bool.and_eq_true, beq_iff_eq, Bool.not_eq_true'] at q
      obtain ⟨rfl, rfl, hdel, hdc, hbm⟩ := q
      obtain ⟨nm, bs, mro, ns, qn, hd, sn, sub, ab, col, del⟩ := cd
      dsimp only at hm hdel hdc
      subst hm hdel hdc
      have hsl : sl = #[k0, k1, k2, k3, some (.builtin "ValueError.__new__"), k5] := by
        obtain ⟨l⟩ := sl
        simp only at hs
        rw [hs]
      subst hsl
      exact ⟨nm, qn, ns, bs, bm, sn, sub, ab, col, dd, k0, k1, k2, k3, k5, ho, hbm⟩
    · cases q
  · cases q
structure OeI (K : PySem.W.Frag) (mg : Str → Option Value) (nm : Str) (fs : List Str) : Prop where
  T : OexC K (He.ga K nm)
  g : mg nm = some (.ref (He.ga K nm))
  i : PySem.W.findIn K (.ref (He.ga K nm)) "__init__" = some (some (.ref (He.fAd K (nm, some "__init__"))))
  t : PySem.W.typeIn K (.ref (He.fAd K (nm, some "__init__"))) = some (.type "function")
  no : ∀ f ∈ fs, PySem.W.findIn K (.ref (He.ga K nm)) f = some none
def oeB (K : PySem.W.Frag) (nm : Str) (fs : List Str) : Bool := oexB K (He.ga K nm) && (decide (PySem.W.findIn K (.ref (He.ga K nm)) "__init__" = some (some (.ref (He.fAd K (nm, some "__init__"))))) && (decide (PySem.W.typeIn K (.ref (He.fAd K (nm, some "__init__"))) = some (.type "function")) && fs.all fun f => decide (PySem.W.findIn K (.ref (He.ga K nm)) f = some none)))
theorem oeB_ok {K : PySem.W.Frag} {mg : Str → Option Value} {nm : Str} {fs : List Str} (h : oeB K nm fs = true) (g : mg nm = some (.ref (He.ga K nm))) : OeI K mg nm fs := by
  unfold oeB at h
  simp only [Bool.and_eq_true, decide_eq_true_eq, List.all_eq_true] at h
  obtain ⟨h1, h2, h3, h4⟩ := h
  exact ⟨oexB_ok h1, g, h2, h3, h4⟩
def spI (C : Addr) (fs : List Str) : Sp := fun vs H Q _ => ∃ (a : Addr) (ys : List V), vs = .ref a :: ys ∧ ys.length = fs.length ∧ H a = some (exo a C none) ∧ ∀ dx, H dx = none → dx ≠ a → Q .non (upd (upd H dx (exd dx (fs.zip ys).reverse)) a (exo a C (some dx)))
abbrev CXn : CXT := fun _ _ _ _ _ _ => False
theorem spI_len {C : Addr} {fs : List Str} {vs : List V} {H : Hp} {Q : VK} {E : XK} (h : spI C fs vs H Q E) : vs.length = (("self" : Str) :: fs).length := by
  obtain ⟨a, ys, rfl, hl, _⟩ := h
  simp [hl]
theorem upd_comm {H : Hp} {a b : Addr} {o u v : HO} (h : b ≠ a) : upd (upd (upd H b o) a u) b v = upd (upd H b v) a u := by
  funext x
  by_cases h1 : x = b
  · subst h1
    rw [upd_same, upd_ne h, upd_same]
  · rw [upd_ne h1]
    by_cases h2 : x = a
    · subst h2
      rw [upd_same, upd_same]
    · rw [upd_ne h2, upd_ne h1, upd_ne h2, upd_ne h1]
theorem spI_2 {K : PySem.W.Frag} {mg : Str → Option Value} {nm f g : Str} {m : Str} {vs : List V} {H : Hp} {Q : VK} {E : XK} (O : OeI K mg nm [f, g]) (h : spI (He.ga K nm) [f, g] vs H Q E) :
    tSeq (tDrop (tVeI K (tCons (tVar 0) (tCons (tC (.str m)) tNil)))) (tSeq (tOst K f (tVar 0) (tVar 1)) (tOst K g (tVar 0) (tVar 2))) { nx := fun _ G => Q .non G, rt := Q } (start ["self", f, g] vs) H := by
  obtain ⟨a, ys, rfl, hl, ha, q⟩ := h
  match ys, hl with
  | [y, z], _ =>
    refine ⟨.ref a, rfl, a, He.ga K nm, [.str m], rfl, by simp, O.T, ha, y, rfl, .ref a, rfl, a, He.ga K nm, rfl, O.T, O.no f (by simp), .inl ⟨ha, fun dx n ne => ?_⟩⟩
    refine ⟨z, rfl, .ref a, rfl, a, He.ga K nm, rfl, O.T, O.no g (by simp), .inr ⟨dx, [(f, y)], upd_same, by rw [upd_ne ne, upd_same], by simp, ?_⟩⟩
    have := q dx n ne
    rw [upd_comm ne]
    exact this
structure IniK (P : Program) (w : World) (K : PySem.W.Frag) (mg : Str → Option Value) (base : Heap) (nm : Str) (fs : List Str) : Prop where
  o : OeI K mg nm fs
  ex : ∃ (fd : FuncData) (ps : List Str), FnOk P w K mg base CXn 1 (He.fAd K (nm, some "__init__")) fd ps (spI (He.ga K nm) fs) ∧ Binds K fd ps []
def sRaiseF (nm : Str) (fs : List Str) (ms : M (List D)) : M Fl := ms.bind fun ds => fun r => if ds.length = fs.length then .ex ⟨nm, (fs.zip ds).reverse⟩ r else .no
theorem rpa_rev {K : PySem.W.Frag} {H : Hp} : ∀ {vs : List V} {ds : List D} {ws : List V} {es : List D}, RpAll K H vs ds → RpAll K H ws es → RpAll K H (vs.reverse ++ ws) (ds.reverse ++ es)
  | [], _, _, _, .nil, h => h
  | v :: vs, d :: ds, ws, es, .cons a b, h => by
    rw [List.reverse_cons, List.reverse_cons, List.append_assoc, List.append_assoc]
    exact rpa_rev b (.cons a h)
theorem zip_snd {α β : Type} : ∀ {fs : List α} {ys : List β}, ys.length = fs.length → (fs.zip ys).map (·.2) = ys
  | [], [], _ => rfl
  | _ :: fs, _ :: ys, h => by simp [zip_snd (fs := fs) (ys := ys) (by simpa using h)]
theorem zip_fst {α β : Type} : ∀ {fs : List α} {ys : List β}, ys.length = fs.length → (fs.zip ys).map (·.1) = fs
  | [], [], _ => rfl
  | _ :: fs, _ :: ys, h => by simp [zip_fst (fs := fs) (ys := ys) (by simpa using h)]
theorem upd_del {H : Hp} {a d : Addr} {o u v w : HO} (ha : H a = none) (h : d ≠ a) : upd (del (upd (upd (upd H a o) d u) a v) a) d w = upd H d w := by
  funext x
  by_cases h1 : x = d
  · subst h1
    rw [upd_same, upd_same]
  · rw [upd_ne h1, upd_ne h1]
    by_cases h2 : x = a
    · subst h2
      rw [del_same, ha]
    · rw [del_ne h2, upd_ne h2, upd_ne h1, upd_ne h2]
section
variable {X : Cx} {c : Cc}
theorem s_raiseF {x : Str} {fs : List Str} {e : Expr} {es : List Expr} {ms : M (List D)} {p pos pos' : Pos} (R : IniK X.prog X.w X.K X.mg X.base x fs) (tk : Takes X c.W) (hr : Room 2 X.A) (ha : PA X (e :: es) (tA c ms)) (hf : fs.length ≤ 100 := by decide) (hK : c.K = X.K := by rfl) (hc : X.calm = true := by rfl) (hg : Gl X x := by rfl) (hdb : (x == ("__debug__" : Str)) = false := by decide)
    (he : starEach (e :: es) X.env = (false, eval e X.env) :: starEach es X.env := by rfl) (hpl : (backTo pos (starEach es X.env)).any (·.1) = false := by rfl) :
    PS X (.Raise (some (.Call (.Name x p) (e :: es) [] pos)) none pos') (sM c (sRaiseF x fs ms)) := by
  obtain ⟨fd, ps, F1, hb⟩ := R.ex
  have O := R.o
  refine ps_cq (ps_raise hc tk (pmk_oex (dvs := []) (ds := []) O.T O.i O.t F1 hr hb .nil (fun _ _ _ _ _ _ _ h => h.elim) hg O.g ha hdb he hpl)) fun Dd st H ⟨pa, H0, F0, F, r, ok, po⟩ => seqA ok po fun ds r1 F1 H1 vs k1 e1 dps q => ?_
  by_cases hl : ds.length = fs.length
  · have q : Po (XW c pa H0 F0 F1) (if ds.length = fs.length then Re.ex ⟨x, (fs.zip ds).reverse⟩ r1 else .no) _ := q
    rw [if_pos hl] at q
    have q : XW c pa H0 F0 F1 ⟨x, (fs.zip ds).reverse⟩ r1 := q
    have hv : vs.length = fs.length := (dpa_len dps).trans hl
    refine ⟨by omega, fun a na => ⟨a, vs, by simp, hv, upd_same, fun dx n ne => ⟨rfl, dx, _, upd_same, by rw [upd_ne ne, upd_same], ?_, ?_⟩⟩⟩
    · rw [upd_ne ne] at n
      exact n
    · rw [upd_ne ne] at n
      rw [upd_del na ne]
      refine q _ _ st _ _ (k1.layF n) (Ex.new (k1.fH.nn n)) ⟨by rw [hK], .inr ⟨dx, _, rfl, upd_same, ?_, ?_⟩⟩
      · rw [List.map_reverse, List.map_reverse, zip_fst hv, zip_fst hl]
      · rw [List.map_reverse, List.map_reverse, zip_snd hv, zip_snd hl]
        have := rpa_rev (dpa_mono (Ex.new (o := .xd (fs.zip vs).reverse) (k1.fH.nn n)) dps) .nil
        simpa using this
  · have q : Po (XW c pa H0 F0 F1) (if ds.length = fs.length then Re.ex ⟨x, (fs.zip ds).reverse⟩ r1 else .no) _ := q
    rw [if_neg hl] at q
    exact q.elim
end
/-! ### the head with the statics -/
end Pu
namespace Pu
open PySem PySem.Spec PyProof.Rows L2
/-! ### the tables of the defs that make lambdas -/
/-- the code object and its table of the global def x -/
def tabP (K : PySem.W.Frag) (x : Str) : Option (Addr × Addr) := match K.lookup (He.ga K x) with
  | some ⟨_, _, .func fd, _⟩ => (match fd.code with
    | .ref c => (match K.lookup c with
      | some ⟨_, _, .fields vs, _⟩ => (match (vs[11]? : Option Value) with
        | some (.ref P) => some (c, P)
        | _ => none)
      | _ => none)
    | _ => none)
  | _ => none
def lamQ (x : Str) : Str := (x ++ ".<locals>.") ++ "<lambda>"
def tabsN (ln : List Str) (K : PySem.W.Frag) : List (Addr × Str) := ln.filterMap fun x => (tabP K x).map fun p => (p.2, lamQ x)
def csN (ln : List Str) (K : PySem.W.Frag) : List (Addr × Addr) := ln.filterMap (tabP K)
def emptyT : Option Obj → Bool
  | some ⟨.none, none, .fields vs, sl⟩ => vs.isEmpty && sl.isEmpty
  | _ => false
theorem emptyT_ok {o : Option Obj} (h : emptyT o = true) : o = some { cls := .none, data := .fields #[] } := by
  unfold emptyT at h
  split at h
  · simp only [Bool.and_eq_true, Array.isEmpty_iff] at h
    obtain ⟨rfl, rfl⟩ := h
    rfl
  · cases h
def lamB (ln : List Str) (K : PySem.W.Frag) (g : Addr → Option Obj) : Bool := (ln.all fun x => match tabP K x with
  | some (c, P) => PySem.W.codeHdIn K c P && ((K.lookup P).isNone && emptyT (g P))
  | none => false) && (tabsN ln K).all fun p => (tabsN ln K).all fun q => !(p.1 == q.1) || p.2 == q.2
structure LamOk (ln : List Str) (K : PySem.W.Frag) (h : Heap) : Prop where
  at_ : ∀ x ∈ ln, ∃ c P, tabP K x = some (c, P) ∧ PySem.W.codeHdIn K c P = true ∧ K.lookup P = none ∧ h.get? P = some { cls := .none, data := .fields #[] }
  un : ∀ p ∈ tabsN ln K, ∀ q ∈ tabsN ln K, p.1 = q.1 → p.2 = q.2
theorem lamB_ok {ln : List Str} {K : PySem.W.Frag} {h : Heap} (e : lamB ln K h.get? = true) : LamOk ln K h := by
  unfold lamB at e
  simp only [Bool.and_eq_true, List.all_eq_true] at e
  obtain ⟨e1, e2⟩ := e
  refine ⟨fun x hx => ?_, fun p hp q hq z => ?_⟩
  · have q := e1 x hx
    cases ht : tabP K x with
    | none =>
      rw [ht] at q
      cases q
    | some cp =>
      obtain ⟨c, P⟩ := cp
      rw [ht] at q
      simp only [Bool.and_eq_true] at q
      obtain ⟨q1, q2, q3⟩ := q
      exact ⟨c, P, rfl, q1, Option.isNone_iff_eq_none.mp q2, emptyT_ok q3⟩
  · have y := e2 p hp q hq
    simp only [Bool.or_eq_true, Bool.not_eq_true', beq_iff_eq, beq_eq_false_iff_ne] at y
    rcases y with y | y
    · exact absurd z y
    · exact y
theorem LamOk.keeps {ln : List Str} {K : PySem.W.Frag} {h h' : Heap} (l : LamOk ln K h) (k : ∀ b o, h.get? b = some o → h'.get? b = some o) : LamOk ln K h' := ⟨fun x hx => by
  obtain ⟨c, P, q1, q2, q3, q4⟩ := l.at_ x hx
  exact ⟨c, P, q1, q2, q3, k _ _ q4⟩, l.un⟩
def asL (g : Addr → Option Obj) (n : Nat) (ln : List Str) : List Addr :=
  let as := He.asD g n ++ [cStatics]
  let ts := (csN ln (He.frG g as)).map (·.2)
  as.filter fun a => !ts.contains a
def obsLG (n : Nat) (fa : List He.Fa) (fn : List He.DefD) (ex : PySem.W.Frag → Bool) (ln : List Str) (g : Addr → Option Obj) : AlB := (He.obsD fa fn (He.frG g (asL g n ln)), ex (He.frG g (asL g n ln)) && lamB ln (He.frG g (asL g n ln)) g)
def hookL (n : Nat) (fa : List He.Fa) (fn : List He.DefD) (ex : PySem.W.Frag → Bool) (ln : List Str) : PySem.W.Hook where
  α := AlB
  obs := fun s => obsLG n fa fn ex ln s.heap.get?
  val := fun _ => (He.valD fn, true)
  says := fun _ h => ∃ K : PySem.W.Frag, K.In h ∧ SaysB fa fn ex K ∧ LamOk ln K h
  of := fun _ _ e => by
    have e2 := congrArg (fun z : AlB => z.2) e
    have e2 := Bool.and_eq_true_iff.mp e2
    exact ⟨_, He.frG_in, ⟨congrArg (fun z : AlB => z.1) e, e2.1⟩, lamB_ok e2.2⟩
  keeps := fun _ _ _ ⟨K, hK, c, l⟩ k => ⟨K, PySem.W.Frag.In.keeps hK k, c, l.keeps k⟩
theorem obsLG_eq {n : Nat} {fa : List He.Fa} {fn : List He.DefD} {ex : PySem.W.Frag → Bool} {ln : List Str} {g : Addr → Option Obj} {s : Shared} (h : ∀ a, g a = s.heap.get? a) : obsLG n fa fn ex ln g = (hookL n fa fn ex ln).obs s := by
  have e : g = s.heap.get? := funext h
  rw [e] <;> rfl
/-- what the law's start is told of the tables -/
theorem LamOk.cs {ln : List Str} {K : PySem.W.Frag} {h : Heap} (l : LamOk ln K h) (X : K.In h) : (∀ p ∈ csN ln K, h.get? p.2 = some { cls := .none, data := .fields #[] }) ∧ (∀ p ∈ csN ln K, K.lookup p.2 = none) ∧ (∀ p ∈ csN ln K, PySem.W.CodeHd h p.1 p.2) := by
  have key : ∀ p ∈ csN ln K, PySem.W.codeHdIn K p.1 p.2 = true ∧ K.lookup p.2 = none ∧ h.get? p.2 = some { cls := .none, data := .fields #[] } := fun p hp => by
    obtain ⟨x, hx, e⟩ := List.mem_filterMap.mp hp
    obtain ⟨c, P, q1, q2, q3, q4⟩ := l.at_ x hx
    rw [q1] at e
    cases e
    exact ⟨q2, q3, q4⟩
  exact ⟨fun p hp => (key p hp).2.2, fun p hp => (key p hp).2.1, fun p hp => PySem.W.codeHd_of_K X (key p hp).1⟩
theorem tabs_start {ln : List Str} {K : PySem.W.Frag} {H : Hp} (h : ∀ p ∈ csN ln K, H p.2 = some (.tbl #[])) : LamX.Tabs (tabsN ln K) H := fun p hp => by
  obtain ⟨x, hx, e⟩ := List.mem_filterMap.mp hp
  cases ht : tabP K x with
  | none =>
    rw [ht] at e
    cases e
  | some cp =>
    rw [ht] at e
    cases e
    exact LamX.TabS.nil (h cp (List.mem_filterMap.mpr ⟨x, hx, ht⟩))
/-! ### the lambda called, with no guard under way -/
/-! ### the def that calls the lambda inside its try -/
abbrev E00 : XK := fun _ _ _ => False
section
open LamX
variable [TabT]
/-! ### x(lambda: E) -/
/-- the lambda sees data alone -/
def hideS : Sl → Sl
  | .v d => .v d
  | _ => .unk
def lamRes (r1 : En) : Re Fl → Re RV
  | .ok (.rt rv) _ => .ok rv r1
  | .ok .nx _ => .ok (.v .none) r1
  | _ => .no
def cLam (ns : List Str) (n i : Nat) (br : M Fl) (th : M D) : M RV := fun r => match th (r.map hideS) with
  | .ok _ _ => lamRes r (br ((List.replicate n Sl.unk).set i (.v .none)))
  | .ex e _ => if e.name ∈ ns then lamRes r (br ((List.replicate n Sl.unk).set i (.v (exOf e)))) else .no
  | .no => .no
theorem no_cxE {P : Program} {w : World} {st : List Env} {H : Hp} {s s' : Shared} {e : Value} (h : L2.CX P w st H s E00 e s') : False := by
  obtain ⟨_, _, _, _, _, _, _, _, _, _, _, _, z⟩ := h
  exact z
/-- what the maker y of lambdas, the def at f, is told of its table -/
structure LamAt (K : PySem.W.Frag) (mg : Str → Option Value) (base : Heap) (y : Str) (f : Addr) : Prop where
  ex : ∃ c P, tabP K y = some (c, P) ∧ TabB base mg c P ∧ f = He.ga K y ∧ (P, lamQ y) ∈ TabT.T K ∧ ∀ p ∈ TabT.T K, p.1 = P → p.2 = lamQ y
theorem tabP_code {K : PySem.W.Frag} {y : Str} {c P : Addr} {cdv : Value} (h : tabP K y = some (c, P)) (hc : CodeAt K (He.ga K y) cdv) : cdv = .ref c := by
  obtain ⟨oc, od, fd, osl, lk, rfl⟩ := hc
  unfold tabP at h
  rw [lk] at h
  dsimp only at h
  split at h
  · rename_i c1 hcode
    split at h
    · split at h
      · cases h
        exact hcode
      · cases h
    · cases h
  · cases h
/-- from the head to the maker -/
theorem lamAt_of {ln : List Str} {K : PySem.W.Frag} {mg : Str → Option Value} {base h : Heap} {y : Str} (e : TabT.T K = tabsN ln K) (l : LamOk ln K h) (hy : y ∈ ln) (TB : ∀ p ∈ csN ln K, TabB base mg p.1 p.2) : LamAt K mg base y (He.ga K y) := by
  obtain ⟨c, P, q1, q2, q3, q4⟩ := l.at_ y hy
  have m1 : (c, P) ∈ csN ln K := List.mem_filterMap.mpr ⟨y, hy, q1⟩
  have m2 : (P, lamQ y) ∈ tabsN ln K := List.mem_filterMap.mpr ⟨y, hy, by rw [q1]; rfl⟩
  exact ⟨c, P, q1, TB _ m1, rfl, by rw [e]; exact m2, by rw [e]; exact fun p hp z => l.un p hp _ m2 z⟩
end
end Pu
namespace Pu
open PySem PySem.Spec PyProof.Rows L2
variable [TabT]
section
variable {X : Cx} {c : Cc}
/-! ### l.remove(x), l.count(x) over data -/
noncomputable def eRemove (i : Nat) (m : M D) : M D := fun r => match getC i r with
  | some (.l _) => (m r).bind fun d r => match getC i r with
    | some (.l ds) => cI (SeqAt.shaped d = true ∧ SeqAt.shaped (.list ds) = true ∧ (SeqAt.dataPlace ds d).isSome = true) (.ok .none (putC i (.l (ds.eraseIdx ((SeqAt.dataPlace ds d).getD 0))) r)) .no
    | _ => .no
  | _ => .no
noncomputable def countD : D → D → Option D
  | .list ds, d => cI (SeqAt.shaped d = true ∧ SeqAt.shaped (.list ds) = true) (some (.int ((ds.countP fun z => PyData.eqv z d : Nat) : Int))) none
  | _, _ => none
noncomputable def eCount (mo me : M D) : M D := mo.bind fun d => match d with
  | .list ds => me.bind fun b => M.opt (countD (.list ds) b)
  | _ => M.no
/-! ### d.get(k, x) of an owned dict -/
def eGet (i : Nat) (mk mx : M D) : M D := fun r => match getC i r with
  | some (.d _) => (mk r).bind fun k r => (mx r).bind fun x r => (match getC i r with
    | some (.d kvs) => (match keyD k with
      | some y => .ok ((vK kvs y).getD x) r
      | none => .no)
    | _ => .no)
  | _ => .no
/-! ### l.clear() -/
def eClear (i : Nat) : M D := fun r => match getC i r with
  | some (.l _) => .ok .none (putC i (.l []) r)
  | _ => .no
end
end Pu
namespace Pu
open PySem PySem.Spec PyProof.Rows L2
variable [TabT]
/-! ### zip of a tuple and a list -/
def zipW : List D → Option (List D)
  | [.tuple xs, .list ys] => some (zipD xs ys)
  | [.list xs, .list ys] => some (zipD xs ys)
  | [.tuple xs, .tuple ys] => some (zipD xs ys)
  | _ => none
end Pu
namespace Pu
open PySem PySem.Spec PyProof.Rows L2
variable [TabT]
section
variable {X : Cx} {c : Cc}
/-! ### repr(x), isinstance(x, T) of an owned name -/
noncomputable def eReprS (i : Nat) : M D := fun r => match getC i r with
  | some (.l ds) => M.opt (reprD (.list ds)) r
  | some (.d _) => .no
  | some (.t _) => .no
  | some (.n (.l its)) => M.opt (reprD (.list (its.map Im.data))) r
  | some (.n _) => .no
  | none => nry (one reprD) (aCons (getS i) aNil) r
noncomputable def eIsiS (T : String) (i : Nat) : M D := fun r => match getC i r with
  | some (.l ds) => M.opt ((kitB "list" T).map PyData.bool) r
  | some (.d _) => M.opt ((kitB "dict" T).map PyData.bool) r
  | some (.t _) => .no
  | some (.n (.l _)) => M.opt ((kitB "list" T).map PyData.bool) r
  | some (.n _) => .no
  | none => una (isiD T) (getS i) r
/-! ### list(d), sorted(d) of an owned dict -/
def kD : Key → D
  | .inl i => .int i
  | .inr x => .str x
def oListK (i : Nat) : M RV := fun r => match getC i r with
  | some (.d kvs) => .ok (.o (.l (kvs.map fun kv => kD kv.1))) r
  | some (.l _) => .no
  | some (.t _) => .no
  | some (.n _) => .no
  | none => nryO listD (aCons (getS i) aNil) r
def intKs : List Key → Option (List Int)
  | [] => some []
  | .inl i :: ks => (intKs ks).map (i :: ·)
  | .inr _ :: _ => none
noncomputable def oSortK (i : Nat) : M RV := fun r => match getC i r with
  | some (.d kvs) => (match intKs (kvs.map (·.1)) with
    | some is => cI (is.length < 64) (.ok (.o (.l ((isort is).map .int))) r) .no
    | none => .no)
  | some (.l _) => .no
  | some (.t _) => .no
  | some (.n _) => .no
  | none => nryO sortD (aCons (getS i) aNil) r
/-! ### tuple(x) of an owned list: x stays one's own -/
def eTupS (i : Nat) : M D := fun r => match getC i r with
  | some (.l ds) => .ok (.tuple ds) r
  | some (.d _) => .no
  | some (.t _) => .no
  | some (.n _) => .no
  | none => nry (one tupD) (aCons (getS i) aNil) r
theorem e_tupS (i : Nat) {x : Str} {p px pos : Pos} (hm : X.mg "tuple" = none) (hK : c.K = X.K := by rfl) (hg : Gl X "tuple" := by rfl) (hs1 : starEach [.Name x px] X.env = [(false, eval (.Name x px) X.env)] := by rfl) (hpl : (backTo pos (starEach [] X.env)).any (·.1) = false := by rfl)
    (hN : X.N[i]? = some x := by rfl) (hv : Vis X.env.scope x := by first | exact Or.inl rfl | exact Or.inr (Or.inl rfl) | exact Or.inr (Or.inr rfl)) (hd : (x == ("__debug__" : Str)) = false := by decide)
    (hcd : (x == ("__classdict__" : Str)) = false := by decide) : PE X (.Call (.Name "tuple" p) [.Name x px] [] pos) (tM c (eTupS i)) :=
  pe_cq (pe_or' (pe_callTy call_tuple_of hg hm (by decide +kernel) (pa_cons (pe_var (i := i) hN hv hd hcd) pa_nil hs1) (by decide) (by decide) hs1 hpl)
    (e_callT (c := c) (tup_data hK) hm (a_cons (e_var i hN hv hd hcd) a_nil hs1) hg (by decide +kernel) (by decide) (by decide) hs1 hpl)) fun st H Q ⟨pa, H0, F0, F, r, ok, po⟩ => by
    unfold eTupS at po
    split at po
    · rename_i ds hg
      obtain ⟨s0, hs0, hso0⟩ := getC_some hg
      obtain ⟨a, hst, nF, n0, vs, hH, hr⟩ := ok.ownd hs0 hso0
      refine .inl ⟨_, hst, a, vs, rfl, .inl ⟨.inl (.inl hH), fun p np => ?_⟩⟩
      have nFp := ok.fH.nn np
      exact op_end (r' := r) ok (fun F' H' v k e dp => po F' H' v k e dp) _ _ _ (.inr ⟨p, _, np, rfl, rfl⟩) (.tup upd_same (dpa_mono (Ex.new nFp) hr))
    · exact po.elim
    · exact po.elim
    · exact po.elim
    · exact .inr ⟨pa, H0, F0, F, r, ok, po⟩
end
end Pu
namespace Pu
open PySem PySem.Spec PyProof.Rows L2
variable [TabT]
section
variable {X : Cx} {c : Cc}
/-! ### max(list of ints, default=int) -/
def maxI (d : Int) : List Int → Int
  | [] => d
  | x :: xs => xs.foldl (fun a y => max a y) x
def maxdD : D → D → Option D
  | .list ds, .int d => (intsOf ds).map fun ns => .int (maxI d ns)
  | _, _ => none
/-! ### a call with an owned list lent -/
mutual
def noL : D → Bool
  | .tuple ds => noLAll ds
  | .list _ => false
  | .dict _ => false
  | _ => true
def noLAll : List D → Bool
  | [] => true
  | d :: ds => noL d && noLAll ds
end
end
end Pu
/-! ### sorted(set(a list of ints)), any number of them -/
namespace L2
open PySem PySem.Spec PyProof.Rows
end L2
namespace Pu
open PySem PySem.Spec PyProof.Rows L2
end Pu
/-! ### x(lambda: E) where E changes one object of the maker's -/
namespace Pu
open PySem PySem.Spec PyProof.Rows L2 LamX
end Pu
/-! ### texts -/
namespace Pu
open PySem PySem.Spec PyProof.Rows L2
end Pu
namespace Pu
open PySem PySem.Spec PyProof.Rows L2
/-! ### where a text stands in a text -/
end Pu
namespace Pu
open PySem PySem.Spec PyProof.Rows L2
/-! ### a text parted at a mark -/
end Pu
namespace Pu
open PySem PySem.Spec PyProof.Rows L2
variable [TabT]
section
variable {X : Cx} {c : Cc}
/-! ### l.reverse() -/
def eLRev (i : Nat) : M D := fun r => match getC i r with
  | some (.l ds) => .ok .none (putC i (.l ds.reverse) r)
  | _ => .no
end
@[simp] theorem eLRev_ap (i : Nat) (r : En) : eLRev i r = (match getC i r with
  | some (.l ds) => .ok .none (putC i (.l ds.reverse) r)
  | _ => .no) := rfl
end Pu
namespace Pu
open PySem PySem.Spec PyProof.Rows L2
variable [TabT]
/-! ### i // j of any size -/
noncomputable def fdivLD : D → D → Option D
  | .int i, .int j => cI (j ≠ 0) (some (.int (i.fdiv j))) none
  | _, _ => none
section
variable {X : Cx} {c : Cc}
theorem pylong_room {k : Nat} (hr : Rm k X.A) (NS : SeerK X.prog X.base) {pins : List (Addr × Obj)} {σ : L2.St} {H : Hp} {s : Shared} (I : Inv X pins σ H s) : PySem.PylongRoom (model X.prog X.w) X.A s := by
  have kp : ∀ b o, X.base.get? b = some o → s.heap.get? b = some o := fun b o e => (I.env0.bs b o e).1
  obtain ⟨env, l, hf, t⟩ := hr.top
  refine PySem.PylongRoom.of (I.ok.mod.nolimit.keeps kp) ?_ (PySem.SeerAt.of (NS.ns.keeps kp) NS.tree hf t.gen t.co t.bl t.gl)
  have := hr.dl
  show X.A.depth + 100 < recursionLimit
  omega
theorem op_fdivL {k : Nat} (hr : Rm k X.A) (NS : SeerK X.prog X.base) : OpR X (binaryOp .FloorDiv) (rI (fun _ j => j ≠ 0) fun i j => .int (i.fdiv j)) := by
  intro pins s σ H x y v u Q I rx ry h
  obtain ⟨i, j, rfl, rfl, hc, q⟩ := h
  obtain ⟨t, rfl⟩ := rx
  obtain ⟨t', rfl⟩ := ry
  exact floordiv_int hc ⟨.int (i.fdiv j), H, I.tok _, ⟨_, rfl⟩, q⟩ (.inr (pylong_room hr NS I))
theorem fdivL_data {k : Nat} (hr : Rm k X.A) (NS : SeerK X.prog X.base) : OpR X (binaryOp .FloorDiv) (rD2 c.K fdivLD) := opr_cq (op_fdivL hr NS) fun x y H Q ⟨F, d, e, z, fh, dx, dy, hz, q⟩ => by
  cases dx with
  | int i =>
    cases dy with
    | int j =>
      have hz : (if j ≠ 0 then some (PyData.int (i.fdiv j)) else none) = some z := by
        rw [← cI_eq]
        exact hz
      split at hz
      · rename_i hm
        cases hz
        exact ⟨i, j, rfl, rfl, hm, q _ F H (.inl ⟨rfl, rfl⟩) (.int _)⟩
      · cases hz
    | _ => cases hz
  | _ => cases hz
end
end Pu
namespace Pu
open PySem PySem.Spec PyProof.Rows L2
/-! ### f(x, ..) that lends an owned list x and hands further values -/
end Pu
namespace Pu
open PySem PySem.Spec PyProof.Rows L2
variable [TabT]
/-! ### sorted(xs) of a list of data, any number -/
section
variable {X : Cx} {c : Cc}
/-! ### {k: v}, the key a tuple -/
/-! ### k in d, k not in d: an owned dict -/
def eInS (i : Nat) (mk : M D) : M D := mk.bind fun kd r => match getC i r with
  | some (.t kvs) => (match tkeyD kd with
    | some y => .ok (.bool (vK kvs y).isSome) r
    | none => .no)
  | some (.d kvs) => (match keyD kd with
    | some y => .ok (.bool (vK kvs y).isSome) r
    | none => .no)
  | _ => .no
/-! ### sum of a list or a tuple of ints -/
/-! ### min, max of a list of ints -/
end
end Pu
namespace Pu
open PySem PySem.Spec PyProof.Rows L2
variable [TabT]
section
variable {X : Cx} {c : Cc}
/-! ### e in x, e not in x for an owned list x, which stays owned -/
noncomputable def eInLS (i : Nat) (mk : M D) : M D := mk.bind fun kd r => match getC i r with
  | some (.l ds) => M.opt (inD kd (.list ds)) r
  | _ => .no
noncomputable def eNinLS (i : Nat) (mk : M D) : M D := mk.bind fun kd r => match getC i r with
  | some (.l ds) => M.opt (ninD kd (.list ds)) r
  | _ => .no
end
@[simp] theorem eInLS_ap (i : Nat) (mk : M D) (r : En) : eInLS i mk r = (mk r).bind fun kd r => (match getC i r with
  | some (.l ds) => M.opt (inD kd (.list ds)) r
  | _ => .no) := rfl
@[simp] theorem eNinLS_ap (i : Nat) (mk : M D) (r : En) : eNinLS i mk r = (mk r).bind fun kd r => (match getC i r with
  | some (.l ds) => M.opt (ninD kd (.list ds)) r
  | _ => .no) := rfl
end Pu
namespace Pu
open PySem PySem.Spec PyProof.Rows L2
variable [TabT]
/-! ### dict(a list of pairs whose keys are tuples) -/
section
variable {X : Cx}
variable {c : Cc}
def pairT : D → Option (List Key × D)
  | .tuple [k, v] => (tkeyD k).map fun y => (y, v)
  | _ => none
def pairsT : List D → Option (List (List Key × D))
  | [] => some []
  | d :: ds => (pairT d).bind fun p => (pairsT ds).map fun ps => p :: ps
def dictP : List D → Option (List (List Key × D))
  | [.list xs] => (pairsT xs).map fun kvs => kvs.foldl (fun acc kv => pK acc kv.1 kv.2) []
  | _ => none
def oDictP (ms : M (List D)) : M RV := ms.bind fun ds => M.opt ((dictP ds).map fun kvs => .o (.t kvs))
end
@[simp] theorem oDictP_ap (ms : M (List D)) (r : En) : oDictP ms r = (ms r).bind fun ds => M.opt ((dictP ds).map fun kvs => RV.o (.t kvs)) := rfl
end Pu
namespace Pu
open PySem PySem.Spec PyProof.Rows L2
variable [TabT]
/-! ### f(.., x) that lends an owned x as the last value -/
section
variable {X : Cx} {c : Cc} {k n : Nat} {x : Str} {f : List Sl → Re RV} {e : Expr} {es : List Expr} {p pos : Pos} {ms : M (List D)}
def cCallZ (i : Nat) (f : List Sl → Re RV) (m1 m2 : M D) : M RV := fun r => match getC i r with
  | none => .no
  | some _ => (m1 r).bind fun d1 r => (m2 r).bind fun d2 r => match getC i r with
    | some ct => (match f [.v d1, .v d2, .io ct] with
      | .ok rv z => (match (z[2]? : Option Sl) with
        | some (Sl.io ct') => .ok rv (putC i ct' r)
        | _ => .no)
      | .ex e z => (match (z[2]? : Option Sl) with
        | some (Sl.io ct') => .ex e (putC i ct' r)
        | _ => .no)
      | .no => .no)
    | none => .no
/-! ### e in x, x data or a dict with tuple keys of one's own -/
noncomputable def eInX (i : Nat) (mk : M D) : M D := fun r => match getC i r with
  | some (.t _) => eInS i mk r
  | none => bin inD mk (getS i) r
  | _ => .no
end
@[simp] theorem eInX_ap (i : Nat) (mk : M D) (r : En) : eInX i mk r = (match getC i r with
  | some (.t _) => eInS i mk r
  | none => bin inD mk (getS i) r
  | _ => .no) := rfl
@[simp] theorem cCallZ_ap (i : Nat) (f : List Sl → Re RV) (m1 m2 : M D) (r : En) : cCallZ i f m1 m2 r = (match getC i r with
  | none => .no
  | some _ => (m1 r).bind fun d1 r => (m2 r).bind fun d2 r => match getC i r with
    | some ct => (match f [.v d1, .v d2, .io ct] with
      | .ok rv z => (match (z[2]? : Option Sl) with
        | some (Sl.io ct') => .ok rv (putC i ct' r)
        | _ => .no)
      | .ex e z => (match (z[2]? : Option Sl) with
        | some (Sl.io ct') => .ex e (putC i ct' r)
        | _ => .no)
      | .no => .no)
    | none => .no) := rfl
end Pu
namespace Pu
open PySem PySem.Spec PyProof.Rows L2
variable [TabT]
/-! ### any of a tuple of ints -/
section
variable {X : Cx} {c : Cc}
def anyAD : D → Option D
  | .list ds => (boolsOf ds).map fun bs => .bool (bs.any id)
  | .tuple ds => (intsOf ds).map fun ns => .bool (ns.any fun n => n != 0)
  | _ => none
end
@[simp] theorem anyAD_b (ds : List D) : anyAD (.list ds) = (boolsOf ds).map fun bs => .bool (bs.any id) := rfl
end Pu
namespace Pu
open PySem PySem.Spec PyProof.Rows L2
/-! ### max of a tuple of ints -/
end Pu
namespace Pu
open PySem PySem.Spec PyProof.Rows L2
/-! ### repr of tuples that hold {} -/
end Pu
namespace Pu
open PySem PySem.Spec PyProof.Rows L2
variable [TabT]
/-! ### lists with lists of one's own within -/
/-! ### for y in x[lo:hi]: .., the inner lists lent one by one -/
section
variable {K : PySem.W.Frag} {pa : Nat → Addr} {H0 F0 F H F' H' : Hp} {st st2 : L2.St} {r r2 : En}
open Classical in
/-- the frame while an inner list is lent: the outer list, the other inner lists stand -/
noncomputable def LdK (H0 H : Hp) (a b : Addr) (t : Nt) : Hp := fun x => if x = a ∨ (Inn H a (.n t) x ∧ x ≠ b) then H x else H0 x
omit [TabT] in
theorem LdK.at_ {a b x : Addr} {t : Nt} (h : x = a ∨ (Inn H a (.n t) x ∧ x ≠ b)) : LdK H0 H a b t x = H x := if_pos h
end
/-! ### x[k1][k2] = e, within a list of lists of one's own -/
end Pu
namespace Pu
open PySem PySem.Spec PyProof.Rows L2
variable [TabT]
/-! ### an object of one's own that is no slot's, kept while something else is reckoned -/
open Classical in
noncomputable def FrN (H0 H : Hp) (a : Addr) (t : Nt) : Hp := fun x => if x = a ∨ Inn H a (.n t) x then H x else H0 x
omit [TabT] in
theorem FrN.at_ {H0 H : Hp} {a x : Addr} {t : Nt} (h : x = a ∨ Inn H a (.n t) x) : FrN H0 H a t x = H x := if_pos h
section
variable {K : PySem.W.Frag} {pa : Nat → Addr} {H0 F0 F H F' H' F2 H2 : Hp} {st st2 : L2.St} {r r2 : En} {a : Addr} {its : List Im}
/-- what is nobody's, behind a block -/
theorem Nob.back {is : List Nat} {q : En} (hn : noOwn r is = true) (h : Nob H (wipe st is) (wipeE q is) a) : Nob H st (backE r (wipeE q is) is) a := fun j s ct b hj hct hst => by
  rw [backE_get] at hj
  by_cases hji : j ∈ is
  · rw [if_pos hji] at hj
    split at hj
    · cases hj
      have hz := List.all_eq_true.mp hn j hji
      rw [List.getD_eq_getElem?_getD] at hct
      cases hr : r[j]? with
      | none =>
        rw [hr] at hz
        cases hz
      | some x =>
        rw [hr] at hz hct
        have hz : x.own.isNone = true := hz
        have hct : x.own = some ct := hct
        rw [hct] at hz
        cases hz
    · cases hj
  · rw [if_neg hji] at hj
    exact h j s ct b hj hct (by rw [wipe_get, if_neg hji]; exact hst)
end
/-! ### [e for x in xs], e a list of one's own -/
end Pu
namespace Pu
open PySem PySem.Spec PyProof.Rows L2
/-! ### repr(x), empty dicts within -/
end Pu
namespace Pu
open PySem PySem.Spec PyProof.Rows L2
end Pu
namespace Pu
open PySem PySem.Spec PyProof.Rows L2
/-! ### x[k].clear(), x a tuple of one's own with a list of one's own within -/
end Pu
namespace Pu
open PySem PySem.Spec PyProof.Rows L2
/-! ### objects of one's own lent as data while something is reckoned, and taken back -/
mutual
/-- no list and no dict within -/
def nlD : D → Bool
  | .list _ => false
  | .dict _ => false
  | .tuple ds => nlDs ds
  | _ => true
def nlDs : List D → Bool
  | [] => true
  | d :: ds => nlD d && nlDs ds
end
mutual
theorem rp_nl {K : PySem.W.Frag} {F F' : Hp} (h : ∀ b xs, F b = some (.tup xs) → F' b = some (.tup xs)) : ∀ {v : V} {d : D}, Rp K F v d → nlD d = true → Rp K F' v d
  | _, _, .non, _ => .non
  | _, _, .bl b, _ => .bl b
  | _, _, .int i, _ => .int i
  | _, _, .str x, _ => .str x
  | _, _, .lst _ _, e => by simp [nlD] at e
  | _, _, .tup g a, e => .tup (h _ _ g) (rpa_nl h a (by simpa [nlD] using e))
  | _, _, .emp _, e => by simp [nlD] at e
  | _, _, .exc0 _ _, e => by simp [nlD] at e
  | _, _, .excF _ _ _ _ _, e => by simp [nlD] at e
  | _, _, .dci _ _ _ _ _, e => by simp [nlD] at e
theorem rpa_nl {K : PySem.W.Frag} {F F' : Hp} (h : ∀ b xs, F b = some (.tup xs) → F' b = some (.tup xs)) : ∀ {vs : List V} {ds : List D}, RpAll K F vs ds → nlDs ds = true → RpAll K F' vs ds
  | _, _, .nil, _ => .nil
  | _, _, .cons a t, e => by
    have e := Bool.and_eq_true_iff.mp e
    exact .cons (rp_nl h a e.1) (rpa_nl h t e.2)
end
open Classical in
/-- what is new since H, and what was told -/
noncomputable def since (H F F' : Hp) : Hp := fun b => if H b = none then F' b else F b
theorem since_ex {H F F' : Hp} (e : Ex F H) : Ex F (since H F F') := by
  have same : ∀ b o, F b = some o → since H F F' b = F b := fun b o h => by
    obtain ⟨o', h'⟩ := e.some h
    unfold since
    rw [if_neg (by rw [h']; exact fun z => nomatch z)]
  exact ⟨fun b o h n => (same b o h).trans h, fun b ps h => ⟨#[], by rw [same b _ h, Array.append_empty]; exact h⟩⟩
theorem since_to {H H' F F' : Hp} (eF : Ex F H) (eH : Ex H H') (e' : Ex F' H') : Ex (since H F F') H' := by
  classical
  refine ⟨fun b o h n => ?_, fun b ps h => ?_⟩
  · unfold since at h
    split at h
    · exact e'.at_ b o h n
    · exact (eF.trans eH).at_ b o h n
  · unfold since at h
    split at h
    · exact e'.tb b ps h
    · exact (eF.trans eH).tb b ps h
variable [TabT]
section
variable {K : PySem.W.Frag} {pa : Nat → Addr} {H0 F0 F H : Hp} {st : L2.St} {r : En}
/-- back from what was reckoned with things hidden -/
theorem Ok.since (k : Ok K pa H0 F0 F H st r) {F1 F' H' : Hp} {st' : L2.St} {r' : En} {pa' : Nat → Addr} (k2 : Ok K pa' H F1 F' H' st' r') : Ok K pa H0 F0 (Pu.since H F F') H' st r ∧ Ex F (Pu.since H F F') :=
  ⟨k.grow k2.hH (since_ex k.fH) (since_to k.fH k2.hH k2.fH) (fun a h1 h2 => by
    unfold Pu.since at h1
    rw [if_neg h2] at h1
    exact h1) k2.tb, since_ex k.fH⟩
end
/-- a number, a truth, a text, None -/
def flatD : D → Bool
  | .none => true
  | .bool _ => true
  | .int _ => true
  | .str _ => true
  | _ => false
theorem rp_flat {K : PySem.W.Frag} {F F' : Hp} {v : V} {d : D} (h : Rp K F v d) (e : flatD d = true) : Rp K F' v d := by
  cases h with
  | non => exact .non
  | bl b => exact .bl b
  | int i => exact .int i
  | str x => exact .str x
  | _ => simp [flatD] at e
end Pu
namespace Pu
open PySem PySem.Spec PyProof.Rows L2
variable [TabT]
/-! ### a frozen dict with whole numbers as keys -/
/-- what stands at i -/
def fdG : List (D × D) → Int → Option D
  | [], _ => none
  | (.int j, d) :: r, i => if j = i then some d else fdG r i
  | _ :: _, _ => none
def inKD : D → D → Option D
  | .int i, .dict (x :: r) => some (.bool (fdG (x :: r) i).isSome)
  | _, _ => none
section
variable {X : Cx} {c : Cc}
/-- is it a dict that numbers stand for -/
def isKD : D → Bool
  | .dict ((.int _, _) :: _) => true
  | _ => false
def inK (x d : D) : Option D := if isKD d = true then inKD x d else none
/-! ### for k in d, for k, v in d.items() -/
/-! ### an owned dict is frozen -/
/-! ### len of a frozen dict -/
end
end Pu
namespace Pu
open PySem PySem.Spec PyProof.Rows L2
/-! ### len(set(a list of tuples of whole numbers)) -/
end Pu
namespace Pu
open PySem PySem.Spec PyProof.Rows L2
/-! ### tuples within tuples, asked by a set -/
end Pu
namespace Pu
open PySem PySem.Spec PyProof.Rows L2
/-! ### tables of up to 512 places -/
def MaskW (m : Nat) : Prop := MaskOk m ∨ m = 511
theorem wayW_le (m : Nat) (h : Int) (k : Nat) : way m h k ≤ m := by
  have hi : SetTable.bits h % (m + 1) ≤ m := Nat.le_of_lt_succ (Nat.mod_lt _ (Nat.succ_pos _))
  have r := runEnd_bd hi
  have q := nth_in (m := m) k (runAt m (SetTable.bits h % (m + 1)) (SetTable.bits h)) (by
    show SetTable.bits h % (m + 1) + (SetTable.runEnd m (SetTable.bits h % (m + 1)) - SetTable.bits h % (m + 1)) ≤ m
    omega)
  show (nth m (runAt m (SetTable.bits h % (m + 1)) (SetTable.bits h)) k).j ≤ m
  omega
/-- a table whose places are found again from their hashes -/
structure TabW (t : SetTable) (hs : List Int) : Prop where
  ris : Ris t.place.toList
  dm : t.dummies = #[]
  sz : t.place.size = hs.length
  mok : MaskW t.mask
  bd : ∀ x ∈ t.place.toList, x ≤ t.mask
  reach : ∀ (i : Nat) (h : Int) (j : Nat), hs[i]? = some h → t.place.toList[i]? = some j → ∃ k, way t.mask h k = j ∧ ∀ k', k' < k → way t.mask h k' ∈ t.place.toList
section
variable {t : SetTable} {hs : List Int}
theorem TabW.put (T : TabW t hs) {h : Int} {n : Nat} (hn : way t.mask h n ∉ t.place.toList) (hb : ∀ k, k < n → way t.mask h k ∈ t.place.toList) :
    (t.put (way t.mask h n)).2 = SetTable.below t.place (way t.mask h n) ∧ SetTable.below t.place (way t.mask h n) ≤ hs.length ∧
    TabW (t.put (way t.mask h n)).1 (hs.take (SetTable.below t.place (way t.mask h n)) ++ h :: hs.drop (SetTable.below t.place (way t.mask h n))) ∧
    (t.put (way t.mask h n)).1.mask = t.mask ∧ (t.put (way t.mask h n)).1.led = t.led ∧ (t.put (way t.mask h n)).1.plain = t.plain ∧
    (t.put (way t.mask h n)).1.fill = hs.length + 1 := by
  have hjm := wayW_le t.mask h n
  generalize ej : way t.mask h n = j at hn hjm
  have c1 := (below_cut T.ris j).1
  have hpl : SetTable.below t.place j ≤ t.place.toList.length := by
    rw [Array.length_toList]
    exact c1
  have hph : SetTable.below t.place j ≤ hs.length := T.sz ▸ c1
  have hsz : t.place.toList.length = hs.length := by rw [Array.length_toList, T.sz]
  have hpp := put_place t j
  have hsize : (t.put j).1.place.size = hs.length + 1 := by rw [← Array.length_toList, hpp, len_ins _ hpl, hsz]
  have up : ∀ {x : Nat}, x ∈ t.place.toList → x ∈ (t.put j).1.place.toList := fun hx => by
    rw [hpp]
    exact mem_ins.2 (.inr hx)
  refine ⟨rfl, hph, ?_, rfl, rfl, rfl, ?_⟩
  · refine { ris := ris_insert T.ris fun e => hn (List.mem_of_getElem? (by rw [Array.getElem?_toList]; exact e)), dm := put_dm T.dm j, sz := by rw [len_ins _ hph]; exact hsize, mok := T.mok, bd := fun x hx => ?_, reach := fun i h' j' h1 h2 => ?_ }
    · rw [hpp] at hx
      rcases mem_ins.1 hx with rfl | z
      · exact hjm
      · exact T.bd x z
    · rw [tins_get hs hph] at h1
      rw [hpp, tins_get _ hpl] at h2
      show ∃ k, way t.mask h' k = j' ∧ ∀ k', k' < k → way t.mask h' k' ∈ (t.put j).1.place.toList
      by_cases c : i < SetTable.below t.place j
      · rw [if_pos c] at h1 h2
        obtain ⟨k, e, z⟩ := T.reach i h' j' h1 h2
        exact ⟨k, e, fun k' hk' => up (z k' hk')⟩
      · rw [if_neg c] at h1 h2
        by_cases d : i = SetTable.below t.place j
        · rw [if_pos d] at h1 h2
          cases h1
          cases h2
          exact ⟨n, ej, fun k' hk' => up (hb k' hk')⟩
        · rw [if_neg d] at h1 h2
          obtain ⟨k, e, z⟩ := T.reach (i - 1) h' j' h1 h2
          exact ⟨k, e, fun k' hk' => up (z k' hk')⟩
  · show (t.put j).1.place.size + (t.put j).1.dummies.size = hs.length + 1
    rw [hsize, put_dm T.dm j]
    rfl
end
end Pu
namespace Pu
open PySem PySem.Spec PyProof.Rows L2
/-! ### a set whose members are of one kind of key -/
section
variable {P : Program} {w : World}
/-- what a set wants of a kind of key beyond what a dict wants -/
structure Asked {K : Type} [DecidableEq K] (knd : HeapKind P w K) : Prop where
  seen : ∀ {A : Around} {E : Value → Shared → Prop} {s : Shared} {k : K} {b : Addr} {Q : Bool → Shared → Prop}, knd.is s.heap k b → ∀ {ys : List Value}, (∀ y ∈ ys, ∃ k' c, y = Value.ref c ∧ knd.is s.heap k' c) → Q false s → wpAny (model P w) A (searchCouldBeSeen (.ref b) ys) Q E s
  byv : ∀ {A : Around} {E : Value → Shared → Prop} {s : Shared} {k : K} {b : Addr} {Q : Bool → Shared → Prop}, knd.is s.heap k b → Q true s → wpAny (model P w) A (hashByValue 8 (.ref b)) Q E s
  stay : knd.Stays
theorem Asked.keep {K : Type} [DecidableEq K] {knd : HeapKind P w K} (S : Asked knd) {h h' : Heap} {k : K} {b : Addr} (hb : knd.is h k b) (hk : ∀ c o, h.get? c = some o → h'.get? c = some o) : knd.is h' k b :=
  S.stay.stays (fun c o _ _ hc _ => hk c o hc) hb
section
variable {K : Type} [DecidableEq K] {knd : HeapKind P w K} {A : Around} {E : Value → Shared → Prop} {s : Shared}
def kRows (knd : HeapKind P w K) (L : List (Addr × K)) : List (Int × Value) := L.map fun p => (knd.hash p.2, Value.ref p.1)
theorem kRows_len (L : List (Addr × K)) : (kRows knd L).length = L.length := List.length_map ..
/-- at a stands a set of keys of the kind -/
structure SetK (knd : HeapKind P w K) (h : Heap) (a : Addr) (L : List (Addr × K)) (es : Array (Int × Value)) (ep : Nat) (t : SetTable) : Prop where
  ob : ∃ o, h.get? a = some o ∧ o.ExactSet ∧ o.data = .set es ep t
  rows : es.toList = kRows knd L
  tab : TabW t (L.map fun p => knd.hash p.2)
  nd : (L.map (·.2)).Nodup
  key : ∀ p ∈ L, knd.is h p.2 p.1
  plain : t.plain = true
  led : w.params.followText "set-order" = true ∨ t.led = true
  room : L.length * 5 < t.mask * 3
  few : L.length < 300
variable {a : Addr} {L : List (Addr × K)} {es : Array (Int × Value)} {ep : Nat} {t : SetTable}
theorem SetK.size (R : SetK knd s.heap a L es ep t) : es.size = L.length := by
  rw [← Array.length_toList, R.rows, kRows_len]
end
end
end Pu
namespace Pu
open PySem PySem.Spec PyProof.Rows L2
section
variable {P : Program} {w : World} {K : Type} [DecidableEq K] {knd : HeapKind P w K} {A : Around} {E : Value → Shared → Prop} {s : Shared}
variable {a : Addr} {L : List (Addr × K)} {es : Array (Int × Value)} {ep : Nat} {t : SetTable}
/-- what the set has got of the first i items -/
structure Has (ks : List (Addr × K)) (i : Nat) (L : List (Addr × K)) : Prop where
  sub : ∀ p ∈ L, p ∈ ks.take i
  all : ∀ p ∈ ks.take i, p.2 ∈ L.map (·.2)
  len : L.length ≤ i
theorem Has.step {ks L L' : List (Addr × K)} {i : Nat} {x : Addr × K} (g : Has ks i L) (h : ks[i]? = some x) (c1 : x.2 ∈ L.map (·.2) → L' = L) (c2 : x.2 ∉ L.map (·.2) → L'.Perm (x :: L)) : Has ks (i + 1) L' := by
  by_cases hm : x.2 ∈ L.map (·.2)
  · rw [c1 hm]
    refine ⟨fun p hp => ?_, fun p hp => ?_, Nat.le_succ_of_le g.len⟩
    · rw [take_next h]
      exact List.mem_append_left _ (g.sub p hp)
    · rw [take_next h] at hp
      rcases List.mem_append.mp hp with z | z
      · exact g.all p z
      · rw [List.mem_singleton.mp z]; exact hm
  · have pm := c2 hm
    refine ⟨fun p hp => ?_, fun p hp => ?_, ?_⟩
    · rw [take_next h]
      rcases List.mem_cons.mp (pm.mem_iff.mp hp) with e | z
      · rw [e]; exact List.mem_append_right _ (List.mem_singleton.mpr rfl)
      · exact List.mem_append_left _ (g.sub p z)
    · rw [(pm.map (·.2)).mem_iff, List.map_cons]
      rw [take_next h] at hp
      rcases List.mem_append.mp hp with z | z
      · exact List.mem_cons_of_mem _ (g.all p z)
      · rw [List.mem_singleton.mp z]; exact List.mem_cons_self
    · rw [pm.length_eq, List.length_cons]
      exact Nat.succ_le_succ g.len
theorem SetK.keep {h h' : Heap} (R : SetK knd h a L es ep t) (ha : ∀ o, h.get? a = some o → h'.get? a = some o) (ht : ∀ p ∈ L, knd.is h' p.2 p.1) : SetK knd h' a L es ep t := by
  obtain ⟨o, ho, r⟩ := R.ob
  exact { ob := ⟨o, ha o ho, r⟩, rows := R.rows, tab := R.tab, nd := R.nd, key := ht, plain := R.plain, led := R.led, room := R.room, few := R.few }
end
end Pu
namespace Pu
open PySem PySem.Spec PyProof.Rows L2
end Pu
namespace Pu
open PySem PySem.Spec PyProof.Rows L2
/-! ### len(set(a list of tuples within tuples)) -/
end Pu
namespace Pu
open PySem PySem.Spec PyProof.Rows L2
end Pu
namespace Pu
open PySem PySem.Spec PyProof.Rows L2
variable [TabT]
/-! ### f(..) that lends some owned names, at any places -/
abbrev Az := List (Sum Nat D)
inductive ZAll (K : PySem.W.Frag) (F : Hp) (st : L2.St) : List V → Az → Prop
  | nil : ZAll K F st [] []
  | l {v : V} {vs : List V} {i : Nat} {xs : Az} : st[i]? = some (some v) → ZAll K F st vs xs → ZAll K F st (v :: vs) (.inl i :: xs)
  | d {v : V} {vs : List V} {d : D} {xs : Az} : Rp K F v d → ZAll K F st vs xs → ZAll K F st (v :: vs) (.inr d :: xs)
omit [TabT] in
theorem ZAll.len {K : PySem.W.Frag} {F : Hp} {st : L2.St} : ∀ {vs : List V} {xs : Az}, ZAll K F st vs xs → vs.length = xs.length
  | _, _, .nil => rfl
  | _, _, .l _ t => congrArg Nat.succ t.len
  | _, _, .d _ t => congrArg Nat.succ t.len
omit [TabT] in
theorem ZAll.getD {K : PySem.W.Frag} {F : Hp} {st : L2.St} : ∀ {vs : List V} {xs : Az} {p : Nat} {d : D}, ZAll K F st vs xs → xs[p]? = some (.inr d) → ∃ v, vs[p]? = some v ∧ Rp K F v d
  | _, _, _, _, .nil, e => by simp at e
  | _, _, 0, _, .l h t, e => by simp at e
  | _, _, 0, _, .d h t, e => by
    simp at e
    subst e
    exact ⟨_, rfl, h⟩
  | _, _, p + 1, _, .l h t, e => by
    obtain ⟨v, g1, g2⟩ := ZAll.getD (p := p) t (by simpa using e)
    exact ⟨v, by simpa using g1, g2⟩
  | _, _, p + 1, _, .d h t, e => by
    obtain ⟨v, g1, g2⟩ := ZAll.getD (p := p) t (by simpa using e)
    exact ⟨v, by simpa using g1, g2⟩
omit [TabT] in
theorem ZAll.mono {K : PySem.W.Frag} {F F' : Hp} {st : L2.St} (e : Ex F F') : ∀ {vs : List V} {xs : Az}, ZAll K F st vs xs → ZAll K F' st vs xs
  | _, _, .nil => .nil
  | _, _, .l h t => .l h (t.mono e)
  | _, _, .d h t => .d (dp_mono e h) (t.mono e)
end Pu
namespace Pu
open PySem PySem.Spec PyProof.Rows L2
variable [TabT]
/-! ### for rows, .. in ((x, ..), (y["k"], ..), (y["l"], ..)): each list changed in its turn -/
section
variable {K : PySem.W.Frag} {pa pa' : Nat → Addr} {H0 H1 F0 F H : Hp} {st : L2.St} {r r' : En}
theorem Ok.nobH (k : Ok K pa H0 F0 F H st r) {p : Addr} (h : H0 p ≠ none) : Nob H st r p := fun i s c a h1 h2 h3 => by
  obtain ⟨a', g1, g2, g3, g4⟩ := k.ownd h1 h2
  rw [h3] at g1
  cases g1
  exact ⟨fun z => h (z ▸ g3), fun n => h (k.inn i s c a p h1 h2 h3 n).2.1⟩
theorem Ok.less (k : Ok K pa H0 F0 F H st r) (hl : r'.length = r.length) (h : ∀ (j : Nat) (s' : Sl), r'[j]? = some s' → r[j]? = some s' ∨ s' = .unk ∨ (s' = .pin ∧ st[j]? = some (some (.ref (pa j))))) : Ok K pa H0 F0 F H st r' := by
  have old : ∀ (j : Nat) (s' : Sl) (c : Ct), r'[j]? = some s' → s'.own = some c → r[j]? = some s' := fun j s' c h1 h2 => by
    rcases h j s' h1 with h3 | rfl | ⟨rfl, _⟩
    · exact h3
    · cases h2
    · cases h2
  refine ⟨k.hH, k.fF, k.fH, k.sep, by rw [hl]; exact k.len, fun j s' h1 n => ?_, k.tb, fun i j s q c c' a ne h1 h2 o1 o2 g1 g2 => k.dis i j s q c c' a ne (old i s c h1 o1) (old j q c' h2 o2) o1 o2 g1 g2, fun i s c a b h1 h2 h3 h4 => ?_⟩
  · rcases h j s' h1 with h3 | rfl | ⟨rfl, h3⟩
    · exact k.sl j s' h3 n
    · exact absurd rfl n
    · exact ⟨_, h3, rfl⟩
  · obtain ⟨g1, g2, g3⟩ := k.inn i s c a b (old i s c h1 h2) h2 h3 h4
    exact ⟨g1, g2, fun j q c' a' w1 w2 w3 => g3 j q c' a' (old j q c' w1 w2) w2 w3⟩
/-- an owned object becomes one that must come back -/
theorem Ok.toIo (k : Ok K pa H0 F0 F H st r) {i : Nat} {a : Addr} {c : Ct} (h : r[i]? = some (.o c)) (ha : st[i]? = some (some (.ref a))) (hp : pa' i = a) (hq : ∀ j, j ≠ i → pa' j = pa j) : Ok K pa' H0 F0 F H st (r.set i (.io c)) := by
  have li : i < r.length := (List.getElem?_eq_some_iff.mp h).1
  have view : ∀ (j : Nat) (s' : Sl), (r.set i (.io c))[j]? = some s' → (j = i ∧ s' = .io c) ∨ (j ≠ i ∧ r[j]? = some s') := fun j s' e => by
    by_cases q : i = j
    · subst q
      rw [List.getElem?_set_self li] at e
      cases e
      exact .inl ⟨rfl, rfl⟩
    · rw [List.getElem?_set_ne q] at e
      exact .inr ⟨fun z => q z.symm, e⟩
  have old : ∀ (j : Nat) (s' : Sl) (c' : Ct), (r.set i (.io c))[j]? = some s' → s'.own = some c' → ∃ s, r[j]? = some s ∧ s.own = some c' := fun j s' c' h1 h2 => by
    rcases view j s' h1 with ⟨rfl, rfl⟩ | ⟨_, h3⟩
    · exact ⟨_, h, h2⟩
    · exact ⟨s', h3, h2⟩
  refine ⟨k.hH, k.fF, k.fH, k.sep, by rw [List.length_set]; exact k.len, fun j s' h1 n => ?_, k.tb, fun i1 j1 s q c1 c2 a ne h1 h2 o1 o2 g1 g2 => ?_, fun i1 s c1 a1 b h1 h2 h3 h4 => ?_⟩
  · rcases view j s' h1 with ⟨rfl, rfl⟩ | ⟨nj, h3⟩
    · obtain ⟨v, g1, a', rfl, g2, g3, g4⟩ := k.sl j _ h (fun z => nomatch z)
      rw [ha] at g1
      cases g1
      refine ⟨_, ha, ?_⟩
      show V.ref a = V.ref (pa' j) ∧ F (pa' j) = none ∧ H0 (pa' j) = none ∧ CtOk K F H (pa' j) c
      rw [hp]
      exact ⟨rfl, g2, g3, g4⟩
    · obtain ⟨v, g1, g2⟩ := k.sl j s' h3 n
      refine ⟨v, g1, ?_⟩
      rw [hq j nj]
      exact g2
  · obtain ⟨s', y1, y2⟩ := old i1 s c1 h1 o1
    obtain ⟨q', y3, y4⟩ := old j1 q c2 h2 o2
    exact k.dis i1 j1 s' q' c1 c2 a ne y1 y3 y2 y4 g1 g2
  · obtain ⟨s', y1, y2⟩ := old i1 s c1 h1 h2
    obtain ⟨g1, g2, g3⟩ := k.inn i1 s' c1 a1 b y1 y2 h3 h4
    refine ⟨g1, g2, fun j q c' a' w1 w2 w3 => ?_⟩
    obtain ⟨q', y3, y4⟩ := old j q c' w1 w2
    exact g3 j q' c' a' y3 y4 w3
theorem Ok.pinS (k : Ok K pa H0 F0 F H st r) (S : Addr → Prop) (h1 : ∀ x, S x → H1 x = H x ∧ F x = none ∧ Nob H st r x) (h2 : ∀ x, ¬ S x → H1 x = H0 x) : Ok K pa H1 F0 F H st r := by
  classical
  refine k.frame ⟨fun x o e nt => ?_, fun x ps e => ?_⟩ (fun x z1 z2 => ?_) fun j s c a g1 g2 g3 => ?_
  · by_cases hx : S x
    · rw [(h1 x hx).1] at e
      exact e
    · rw [h2 x hx] at e
      exact k.hH.at_ x o e nt
  · by_cases hx : S x
    · rw [(h1 x hx).1] at e
      exact ⟨#[], by rw [Array.append_empty]; exact e⟩
    · rw [h2 x hx] at e
      exact k.hH.tb x ps e
  · by_cases hx : S x
    · exact absurd (h1 x hx).2.1 z2
    · rw [h2 x hx] at z1
      exact k.sep x z1 z2
  · obtain ⟨a', y1, y2, y3, y4⟩ := k.ownd g1 g2
    rw [g3] at y1
    cases y1
    refine ⟨?_, fun b hb => ?_⟩
    · rw [h2 a fun hx => ((h1 a hx).2.2 j s c a g1 g2 g3).1 rfl]
      exact y3
    · rw [h2 b fun hx => ((h1 b hx).2.2 j s c a g1 g2 g3).2 hb]
      exact (k.inn j s c a b g1 g2 g3 hb).2.1
theorem Ok.unpin (k : Ok K pa H1 F0 F H st r) (h : ∀ x, H0 x = H1 x ∨ H0 x = none) : Ok K pa H0 F0 F H st r := by
  have sub : ∀ x o, H0 x = some o → H1 x = some o := fun x o e => by
    rcases h x with g | g
    · rw [← g]; exact e
    · rw [g] at e; cases e
  have non : ∀ x, H1 x = none → H0 x = none := fun x e => by
    rcases h x with g | g
    · rw [g]; exact e
    · exact g
  refine k.frame ⟨fun x o e nt => k.hH.at_ x o (sub x o e) nt, fun x ps e => k.hH.tb x ps (sub x _ e)⟩ (fun x z1 z2 => k.sep x (fun q => z1 (non x q)) z2) fun j s c a g1 g2 g3 => ?_
  obtain ⟨a', y1, y2, y3, y4⟩ := k.ownd g1 g2
  rw [g3] at y1
  cases y1
  exact ⟨non a y3, fun b hb => non b (k.inn j s c a b g1 g2 g3 hb).2.1⟩
/-- a list that must stand is lent into a slot -/
theorem Ok.take (k : Ok K pa H1 F0 F H st r) {q : Nat} {qs : Sl} {b : Addr} {ws : List V} {L : List D} (hq : r[q]? = some qs) (hio : qs.isIo = false) (hb : H1 b = some (.lst ws)) (hF : F b = none) (hr : RpAll K F ws L) :
    Ok K (fun j => if j = q then b else pa j) (fun x => if x = b then none else H1 x) F0 F H (st.set q (some (.ref b))) (r.set q (.io (.l L))) := by
  have lq : q < r.length := (List.getElem?_eq_some_iff.mp hq).1
  have nb : Nob H st r b := k.nobH (ne_none hb)
  have hHb : H b = some (.lst ws) := k.hH.at_ b _ hb fun ps z => nomatch z
  have k1 : Ok K pa (fun x => if x = b then none else H1 x) F0 F H st r := k.unpin fun x => by
    by_cases e : x = b
    · exact .inr (if_pos e)
    · exact .inl (if_neg e)
  have k2 : Ok K pa (fun x => if x = b then none else H1 x) F0 F H (st.set q (some (.ref b))) (r.set q (.o (.l L))) := k1.set (s := .o (.l L)) (fun s' e => by
    rw [hq] at e
    cases e
    exact hio) rfl ⟨b, rfl, hF, if_pos rfl, ws, hHb, hr⟩ fun a c e1 e2 => by
      cases e1
      cases e2
      exact .l (nb.unk)
  have k3 := k2.toIo (pa' := fun j => if j = q then b else pa j) (i := q) (a := b) (c := .l L) (List.getElem?_set_self lq) (List.getElem?_set_self (by rw [k.len]; exact lq)) (if_pos rfl) fun j nj => if_neg nj
  rw [List.set_set] at k3
  exact k3
end
/-- the state between two turns -/
def S3 (c : Cc) (pa : Nat → Addr) (H0 F0 F : Hp) (ts : List (Addr × HO)) (i j : Nat) (a1 b1 : Addr) (k1 k2 : Key) (G A B : List D) (st : L2.St) (H : Hp) (r : En) : Prop :=
  ∃ F' H1, Ok c.K pa H1 F0 F' H st r ∧ Ex F F' ∧ (∀ x, H0 x = H1 x ∨ H0 x = none) ∧ (∀ p ∈ ts, H1 p.1 = some p.2) ∧ H1 (pa j) = some (.dK [(k1, .ref a1), (k2, .ref b1)]) ∧ F' (pa j) = none ∧
    (∃ ws, H1 (pa i) = some (.lst ws) ∧ RpAll c.K F' ws G ∧ F' (pa i) = none) ∧ (∃ ws, H1 a1 = some (.lst ws) ∧ RpAll c.K F' ws A ∧ F' a1 = none) ∧ (∃ ws, H1 b1 = some (.lst ws) ∧ RpAll c.K F' ws B ∧ F' b1 = none)
section
variable {X : Cx} {c : Cc} {pa : Nat → Addr} {H0 F0 F : Hp} {ts : List (Addr × HO)} {i j : Nat} {a1 b1 : Addr} {k1 k2 : Key} {G A B : List D} {st : L2.St} {H : Hp} {r : En}
/-- the object at a slot, the lists within another's dict: all stand from now on -/
theorem S3.begin (k : Ok c.K pa H0 F0 F H st r) (hi : r[i]? = some (.io (.l G))) (hj : r[j]? = some (.io (.n (.d [(k1, .l A), (k2, .l B)])))) (hij : i ≠ j) :
    ∃ a1 b1, S3 c pa H0 F0 F [] i j a1 b1 k1 k2 G A B st H ((r.set i .pin).set j .pin) ∧ H0 (pa i) = none ∧ H0 (pa j) = none ∧ H0 a1 = none ∧ H0 b1 = none ∧ pa i ≠ a1 ∧ pa i ≠ b1 ∧ a1 ≠ b1 := by
  classical
  obtain ⟨vi, si, rfl, zi, n0i, ws1, h1, y1⟩ := k.sl i _ hi (fun z => nomatch z)
  obtain ⟨vj, sj, rfl, zj, n0j, us, ⟨ks, hd, hkeys, hvals⟩, hit, hun⟩ := k.sl j _ hj (fun z => nomatch z)
  have hl2 : us.length = 2 := hit.len
  obtain ⟨w1, g1, a1, ws2, rfl, h2, y2⟩ := hit.get (j := 0) (i := .l A) rfl
  obtain ⟨w2, g2, b1, ws3, rfl, h3, y3⟩ := hit.get (j := 1) (i := .l B) rfl
  have eks : ks = [(k1, .ref a1), (k2, .ref b1)] := by
    rw [hvals] at g1 g2 hl2
    match ks, hkeys, g1, g2, hl2 with
    | [(p1, q1), (p2, q2)], hkeys, g1, g2, _ =>
      simp at hkeys g1 g2
      obtain ⟨rfl, rfl⟩ := hkeys
      subst g1
      subst g2
      rfl
    | [], _, g1, _, _ => simp at g1
    | [_], _, _, g2, _ => simp at g2
    | _ :: _ :: _ :: _, _, _, _, hl => simp at hl
  subst eks
  have ia : Inn H (pa j) (.n (.d [(k1, .l A), (k2, .l B)])) a1 := ⟨0, us, A, by rw [hd, hvals]; rfl, g1, rfl⟩
  have ib : Inn H (pa j) (.n (.d [(k1, .l A), (k2, .l B)])) b1 := ⟨1, us, B, by rw [hd, hvals]; rfl, g2, rfl⟩
  obtain ⟨fa, n0a, fa3⟩ := k.inn j _ _ _ a1 hj rfl sj ia
  obtain ⟨fb, n0b, fb3⟩ := k.inn j _ _ _ b1 hj rfl sj ib
  have nia : pa i ≠ a1 := (fa3 i _ _ _ hi rfl si).1
  have nib : pa i ≠ b1 := (fb3 i _ _ _ hi rfl si).1
  have nab : a1 ≠ b1 := fun z => hun 0 1 a1 (by decide) ⟨us, A, by rw [hd, hvals]; rfl, g1, rfl⟩ ⟨us, B, by rw [hd, hvals]; rfl, by rw [z]; exact g2, rfl⟩
  have li : i < r.length := (List.getElem?_eq_some_iff.mp hi).1
  have lj : j < r.length := (List.getElem?_eq_some_iff.mp hj).1
  have view : ∀ (n : Nat) (s' : Sl), ((r.set i .pin).set j .pin)[n]? = some s' → (s' = .pin ∧ (n = i ∨ n = j)) ∨ (n ≠ i ∧ n ≠ j ∧ r[n]? = some s') := fun n s' e => by
    by_cases q : j = n
    · subst q
      rw [List.getElem?_set_self (by rw [List.length_set]; exact lj)] at e
      cases e
      exact .inl ⟨rfl, .inr rfl⟩
    · rw [List.getElem?_set_ne q] at e
      by_cases q2 : i = n
      · subst q2
        rw [List.getElem?_set_self li] at e
        cases e
        exact .inl ⟨rfl, .inl rfl⟩
      · rw [List.getElem?_set_ne q2] at e
        exact .inr ⟨fun z => q2 z.symm, fun z => q z.symm, e⟩
  have kp : Ok c.K pa H0 F0 F H st ((r.set i .pin).set j .pin) := k.less (by rw [List.length_set, List.length_set]) fun n s' e => by
    rcases view n s' e with ⟨rfl, rfl | rfl⟩ | ⟨_, _, e⟩
    · exact .inr (.inr ⟨rfl, si⟩)
    · exact .inr (.inr ⟨rfl, sj⟩)
    · exact .inl e
  have nobs : ∀ x, (x = pa i ∨ x = pa j ∨ x = a1 ∨ x = b1) → Nob H st ((r.set i .pin).set j .pin) x := fun x hx n s' c' a e1 e2 e3 => by
    rcases view n s' e1 with ⟨rfl, _⟩ | ⟨ni, nj, e⟩
    · cases e2
    · rcases hx with rfl | rfl | rfl | rfl
      · refine ⟨fun z => ?_, fun z => ((k.inn n s' c' a _ e e2 e3 z).2.2 i _ _ _ hi rfl si).1 rfl⟩
        subst z
        exact k.dis n i s' _ c' _ _ ni e hi e2 rfl e3 si
      · refine ⟨fun z => ?_, fun z => ((k.inn n s' c' a _ e e2 e3 z).2.2 j _ _ _ hj rfl sj).1 rfl⟩
        subst z
        exact k.dis n j s' _ c' _ _ nj e hj e2 rfl e3 sj
      · obtain ⟨z1, z2⟩ := fa3 n s' c' a e e2 e3
        exact ⟨z1, z2 nj⟩
      · obtain ⟨z1, z2⟩ := fb3 n s' c' a e e2 e3
        exact ⟨z1, z2 nj⟩
  have kS : Ok c.K pa (fun x => if (x = pa i ∨ x = pa j ∨ x = a1 ∨ x = b1) then H x else H0 x) F0 F H st ((r.set i .pin).set j .pin) := kp.pinS (fun x => x = pa i ∨ x = pa j ∨ x = a1 ∨ x = b1) (fun x hx => ⟨if_pos hx, by
    rcases hx with rfl | rfl | rfl | rfl
    · exact zi
    · exact zj
    · exact fa
    · exact fb, nobs x hx⟩) fun x hx => if_neg hx
  refine ⟨a1, b1, ⟨F, _, kS, Ex.refl F, fun x => ?_, fun p hp => (by cases hp), ?_, zj, ⟨ws1, ?_, y1, zi⟩, ⟨ws2, ?_, y2, fa⟩, ⟨ws3, ?_, y3, fb⟩⟩, n0i, n0j, n0a, n0b, nia, nib, nab⟩
  · by_cases hx : x = pa i ∨ x = pa j ∨ x = a1 ∨ x = b1
    · right
      rcases hx with rfl | rfl | rfl | rfl
      · exact n0i
      · exact n0j
      · exact n0a
      · exact n0b
    · exact .inl (if_neg hx).symm
  · exact (if_pos (.inr (.inl rfl))).trans hd
  · exact (if_pos (.inl rfl)).trans h1
  · exact (if_pos (.inr (.inr (.inl rfl)))).trans h2
  · exact (if_pos (.inr (.inr (.inr rfl)))).trans h3
end
end Pu
namespace Pu
open PySem PySem.Spec PyProof.Rows L2
/-! ### {"k": a list of one's own, "l": another} -/
end Pu
namespace Pu
open PySem PySem.Spec PyProof.Rows L2
variable [TabT]
theorem sp_start {K : PySem.W.Frag} {mg : Str → Option Value} {f : List Sl → Re RV} {ns : List Int} {H : Hp} {a : Addr} (hl : ∃ r, f [.v (.list (ns.map .int))] = .ok (.v (.bool true)) r) (hS : SqL K H a (ns.map V.int)) (tb : LamX.Tabs (TabT.T K) H) : spG K mg 1 f [.ref a] H (fun v _ => v = .bl true) fun _ _ _ => False := by
  obtain ⟨r, hr⟩ := hl
  refine ⟨rfl, fun _ => 0, H, H, _, argsV (vs := [.ref a]) (ds := [.list (ns.map .int)]) (.cons (.lst hS (dpa_ints ns)) .nil) (Ex.refl H) tb, argsOkV _, ?_⟩
  rw [show [PyData.list (ns.map PyData.int)].map Sl.v = [Sl.v (.list (ns.map .int))] from rfl, hr]
  intro F' H' v ok rv
  cases rv
  rfl
theorem no_cx {P : Program} {w : World} {H : Hp} {s s' : Shared} {e : Value} (h : L2.CX P w [] H s (fun _ _ _ => False) e s') : False := by
  obtain ⟨_, _, _, _, _, _, _, _, _, _, _, _, z⟩ := h
  exact z
/-- the law called from outside, with the tables of code objects -/
theorem lawG {P : Program} {w : World} {K : PySem.W.Frag} {mg mb : Str → Option Value} {k : Nat} {fa a : Addr} {cs : List (Addr × Addr)} {fd : FuncData} {x : Str} {sp : Sp} {s₁ : Shared} {vs : List Value} {ns : List Int}
    (KX : K.In s₁.heap) (hns : s₁.heap.Ns mainGlobals mg) (hb : s₁.heap.Ns builtinsNs mb) (hbb : ∀ x : Str, x ≠ "__name__" → mb x = bootBuiltins x) (hlim : s₁.heap.NoLimit) (hg : s₁.gens = #[])
    (hT : ∀ p ∈ cs, s₁.heap.get? p.2 = some { cls := .none, data := .fields #[] }) (nT : ∀ p ∈ cs, K.lookup p.2 = none) (C : ∀ p ∈ cs, PySem.W.CodeHd s₁.heap p.1 p.2)
    (hbm : ∃ (bm : Addr) (ob : Obj), mg "__builtins__" = some (.ref bm) ∧ bm ≠ builtinsNs ∧ s₁.heap.get? bm = some ob ∧ ob.cls = .type "module" ∧ ob.dict = some builtinsNs ∧ ob.data = .plain)
    (ha : s₁.heap.get? a = some { cls := .type "list", data := .seq vs.toArray }) (hi : IntsAre vs ns) (hl : ns.length ≤ sizeLine) (hr : RmC k callerA) (hsr : s₁.heap.NoSeer)
    (F : ∀ base : Heap, K.In base → base.Ns mainGlobals mg → base.NoSeer → (∀ p ∈ cs, LamX.TabB base mg p.1 p.2) → FnG P w K mg base k fa fd [x] sp) (hbind : ∀ (s : Shared) (u : Value), BindsTo s fd ⟨[u], []⟩ [(x, u)])
    (hsp : ∀ H : Hp, (∀ p ∈ cs, H p.2 = some (.tbl #[])) → SqL K H a (ns.map V.int) → sp [.ref a] H (fun v _ => v = .bl true) fun _ _ _ => False) :
    codeAny (model P w) callerA (.call (.ref fa) ⟨[.ref a], []⟩) (fun r s' => r = .ok (.ret (.bool true)) ∧ OldK s₁.heap s'.heap ∧ s'.os = s₁.os ∧ AllBare s'.gens) s₁ := by
  have rv := vals_ints hi
  have lenV := hi.length
  have isT : ∀ b : Addr, b ∈ cs.map (·.2) → s₁.heap.get? b = some { cls := .none, data := .fields #[] } := fun b hb => by
    obtain ⟨p, hp, e⟩ := List.mem_map.mp hb
    rw [← e]
    exact hT p hp
  have aT : a ∉ cs.map (·.2) := fun z => by
    have q := isT a z
    rw [ha] at q
    have z' : Data.seq vs.toArray _ = Data.fields #[] := congrArg Obj.data (Option.some.inj q)
    cases z'
  have memT : ∀ p ∈ cs, p.2 ∈ cs.map (·.2) := fun p hp => List.mem_map.mpr ⟨p, hp, rfl⟩
  -- from an abstract heap in which nothing but the script and the tables may be tracked
  have core : ∀ H : Hp, (∀ p ∈ cs, H p.2 = some (.tbl #[])) → (∀ b, H b = none ∨ b ∈ cs.map (·.2) ∨ ∃ o xs, H b = some (.frz o (.lst xs))) → SqL K H a (ns.map V.int) → HOk P w H s₁.heap → (∀ b, H b ≠ none → b = a ∨ b ∈ cs.map (·.2)) → (H a ≠ none → K.lookup a = none) →
      codeAny (model P w) callerA (.call (.ref fa) ⟨[.ref a], []⟩) (fun r s' => r = .ok (.ret (.bool true)) ∧ OldK s₁.heap s'.heap ∧ s'.os = s₁.os ∧ AllBare s'.gens) s₁ := by
    intro H hH hO hS hok hA hK
    have base_of : ∀ {b : Addr} {o : Obj}, s₁.heap.get? b = some o → H b = none → (hidT s₁.heap H).get? b = some o := fun e n => hidT_get e n
    have noD : ∀ {b : Addr} {o : Obj}, s₁.heap.get? b = some o → (∀ vs n, o.data ≠ .seq vs n) → o.data ≠ .fields #[] → H b = none := fun {b o} e h1 h2 => by
      cases q : H b with
      | none => rfl
      | some u =>
        rcases hA b (by rw [q]; simp) with e' | e'
        · rw [e', ha] at e
          cases e
          exact (h1 _ _ rfl).elim
        · rw [isT b e'] at e
          cases e
          exact (h2 rfl).elim
    have noA : ∀ {b : Addr} {o : Obj} {es : Array DictEntry} {ep : Nat}, s₁.heap.get? b = some o → o.data = .dict es ep → H b = none := fun {b o es ep} e d => by
      refine noD e (fun vs n z => ?_) fun z => ?_
      · rw [d] at z
        cases z
      · rw [d] at z
        cases z
    have nsK : ∀ {b : Addr} {m : Str → Option Value}, s₁.heap.Ns b m → (hidT s₁.heap H).Ns b m := fun {b m} ⟨o, es, ep, e, d, r⟩ => ⟨o, es, ep, base_of e (noA e d), d, r⟩
    have hKb : K.In (hidT s₁.heap H) := fun b o e => base_of (KX b o e) (by
      cases q : H b with
      | none => rfl
      | some u =>
        rcases hA b (by rw [q]; simp) with e' | e'
        · rw [e'] at e q
          rw [hK (by rw [q]; simp)] at e
          cases e
        · obtain ⟨p, hp, ep⟩ := List.mem_map.mp e'
          rw [← ep, nT p hp] at e
          cases e)
    have hM : L2.Mod K mg (hidT s₁.heap H) := ⟨hKb, nsK hns, ⟨mb, nsK hb, hbb⟩, let ⟨mc, h1, h2⟩ := hlim; ⟨mc, nsK h1, h2⟩⟩
    have hSR : (hidT s₁.heap H).NoSeer := ⟨(let ⟨mc, a, b⟩ := hsr.statics; ⟨mc, nsK a, b⟩), (let ⟨mc, a, b⟩ := hsr.mods; ⟨mc, nsK a, b⟩), (let ⟨mb, a, b⟩ := hsr.imp; ⟨mb, nsK a, b⟩), by
      obtain ⟨bm, ob, b1, b2, b3, b4, b5, b6⟩ := hbm
      refine ⟨mg, bm, ob, nsK hns, b1, base_of b3 (noD b3 (fun vs n z => ?_) fun z => ?_), b4, b5⟩
      · rw [b6] at z
        cases z
      · rw [b6] at z
        cases z⟩
    have TB : ∀ p ∈ cs, LamX.TabB (hidT s₁.heap H) mg p.1 p.2 := fun p hp => by
      have hTp := hT p hp
      refine ⟨?_, ?_, fun z => ?_⟩
      · obtain ⟨o, us, file, tf, flags, tg, inF, text, tt, e1, r1, r2, r3, r4, r5, r6, r7, r8, hne⟩ := C p hp
        refine ⟨o, us, file, tf, flags, tg, inF, text, tt, base_of e1 (noD e1 (fun vs n z => ?_) fun z => ?_), r1, r2, r3, r4, r5, r6, r7, r8, hne⟩
        · rw [r2] at z
          cases z
        · rw [r2] at z
          cases z
          simp at r3
      · obtain ⟨bm, ob, b1, b2, b3, b4, b5, b6⟩ := hbm
        have nG : bm ≠ mainGlobals := fun q => by
          obtain ⟨o, es, ep, e, hd, _⟩ := hns
          rw [q, e] at b3
          cases b3
          rw [hd] at b6
          cases b6
        have nP : bm ≠ p.2 := fun q => by
          rw [q, hTp] at b3
          cases b3
          cases b6
        refine ⟨bm, ob, b1, b2, nG, nP, base_of b3 (noD b3 (fun vs n z => ?_) fun z => ?_), b4, b5, b6⟩
        · rw [b6] at z
          cases z
        · rw [b6] at z
          cases z
      · obtain ⟨o, es, ep, e, hd, _⟩ := hns
        rw [z, hTp] at e
        cases e
        cases hd
    have e0 : Env0 P w K mg (hidT s₁.heap H) callerA [] s₁ H := ⟨rfl, hM, fun b o e => of_hidT e, Nat.le_of_eq (hidT_size _ _), trivial, fun b hb => absurd (show b ∈ ([] : List Addr) from hb) (by simp), hok, .of_eq hg⟩
    refine codeAny_mono ((F _ hKb (nsK hns) hSR TB).run callerA [] s₁ H ⟨[.ref a], []⟩ [.ref a] [.ref a] _ _ hr e0 (hbind s₁ (.ref a)) (.cons rfl .nil) (hsp H hH hS)) fun r s' h => ?_
    cases r with
    | error e => exact (no_cx h).elim
    | ok fl =>
      cases fl with
      | next => exact False.elim h
      | brk => exact False.elim h
      | cont => exact False.elim h
      | ret u =>
        obtain ⟨v, H', os, bare, un, hok', r', q⟩ := h
        have q' : v = .bl true := q
        subst q'
        obtain rfl : u = Value.bool true := r'
        have key : ∀ b o, b ∉ cs.map (·.2) → s₁.heap.get? b = some o → s'.heap.get? b = some o := fun b o nb e => by
          cases q : H b with
          | none => exact un.keep b o e q (by intro z; exact absurd (show b ∈ ([] : List Addr) from z) (by simp)) (by simp)
          | some u =>
            rcases hO b with z | z | ⟨ob, xs, z⟩
            · rw [q] at z; cases z
            · exact absurd z nb
            · have z2 := un.frzs b ob _ z
              obtain ⟨e1, _⟩ := hok b _ z
              obtain ⟨e2, _⟩ := hok' b _ z2
              rw [e] at e1; cases e1
              exact e2
        have grown : ∀ p ∈ cs, ∃ more : Array Value, s'.heap.get? p.2 = some { cls := .none, data := .fields more } := fun p hp => by
          obtain ⟨more, z⟩ := un.tbls p.2 #[] (hH p hp)
          exact ⟨_, hok' p.2 _ z⟩
        refine ⟨rfl, ⟨fun b o e => ?_, fun b o e => ?_⟩, os, bare⟩
        · by_cases hb : b ∈ cs.map (·.2)
          · obtain ⟨p, hp, ep⟩ := List.mem_map.mp hb
            obtain ⟨more, hm⟩ := grown p hp
            rw [← ep] at e ⊢
            rw [hT p hp] at e
            cases e
            exact .inr (.inl ⟨((C p hp).tab (hT p hp)).isCodeTable, rfl, #[], more, rfl, by rw [Array.empty_append]; exact hm⟩)
          · exact .inl (key b o hb e)
        · by_cases hb : b ∈ cs.map (·.2)
          · obtain ⟨p, hp, ep⟩ := List.mem_map.mp hb
            obtain ⟨more, hm⟩ := grown p hp
            rw [← ep]
            exact ⟨_, hm⟩
          · exact ⟨o, key b o hb e⟩
  cases hk : K.lookup a with
  | some o =>
    have e := KX a o hk
    rw [ha] at e
    cases e
    refine core (fun b => if b ∈ cs.map (·.2) then some (.tbl #[]) else none) (fun p hp => if_pos (memT p hp)) (fun b => ?_) (.inr ⟨_, vs.toArray, _, hk, rfl, rfl, rfl, by rw [List.size_toArray, lenV]; exact hl, by simpa using rv⟩) (fun b u z => ?_) (fun b z => ?_) fun z => absurd (show (if a ∈ cs.map (·.2) then some (HO.tbl #[]) else none) = none from if_neg aT) z
    · by_cases hb : b ∈ cs.map (·.2)
      · exact .inr (.inl hb)
      · exact .inl (if_neg hb)
    · by_cases hb : b ∈ cs.map (·.2)
      · have z' := (if_pos hb).symm.trans z
        cases z'
        exact isT b hb
      · have z' := (if_neg hb).symm.trans z
        cases z'
    · by_cases hb : b ∈ cs.map (·.2)
      · exact .inr hb
      · exact absurd (if_neg hb) z
  | none =>
    refine core (fun b => if b = a then some (.frz { cls := .type "list", data := .seq vs.toArray } (.lst (ns.map V.int))) else if b ∈ cs.map (·.2) then some (.tbl #[]) else none) (fun p hp => (if_neg (show ¬ p.2 = a from fun z => aT (by rw [← z]; exact memT p hp))).trans (if_pos (memT p hp))) (fun b => ?_)
      (.inl (.inr ⟨{ cls := .type "list", data := .seq vs.toArray }, if_pos rfl⟩)) (fun b u z => ?_) (fun b z => ?_) fun _ => hk
    · by_cases hb : b = a
      · exact .inr (.inr ⟨_, _, if_pos hb⟩)
      · by_cases hb2 : b ∈ cs.map (·.2)
        · exact .inr (.inl hb2)
        · exact .inl ((if_neg hb).trans (if_neg hb2))
    · by_cases hb : b = a
      · have z' := (if_pos hb).symm.trans z
        cases z'
        rw [hb]
        exact ⟨ha, by rw [List.length_map]; exact hl, vs, _, rv, ha⟩
      · have z1 := (if_neg hb).symm.trans z
        by_cases hb2 : b ∈ cs.map (·.2)
        · have z' := (if_pos hb2).symm.trans z1
          cases z'
          exact isT b hb2
        · have z' := (if_neg hb2).symm.trans z1
          cases z'
    · by_cases hb : b = a
      · exact .inl hb
      · by_cases hb2 : b ∈ cs.map (·.2)
        · exact .inr hb2
        · exact absurd ((if_neg hb).trans (if_neg hb2)) z
theorem walk_ofP {l : PySem.W.OpenLaw} {n k : Nat} {q : Program} {loose : List Str} {XP : (Str → Option Value) → Heap → Prop} {YP : World → Heap → Prop} {d : DefRec} {x : Str} (hn : l.most = some n) (hn2 : n ≤ sizeLine) (hdf : d.params.defaults = []) (hr : RmC k callerA) (hi : PyProof.Rows.importsNone q = true)
    (F : ∀ (w : World) (mg : Str → Option Value) (fa : Addr) (h : Heap), YP w h → h.Ns mainGlobals mg → mg d.name = some (.ref fa) → ∃ (K : PySem.W.Frag) (fd : FuncData) (cs : List (Addr × Addr)) (sp : Sp), K.In h ∧ (∀ p ∈ cs, h.get? p.2 = some { cls := .none, data := .fields #[] }) ∧ (∀ p ∈ cs, K.lookup p.2 = none) ∧ (∀ p ∈ cs, PySem.W.CodeHd h p.1 p.2) ∧ (∀ (s : Shared) (u : Value), BindsTo s fd ⟨[u], []⟩ [(x, u)]) ∧
      (∀ (H : Hp) (a : Addr) (ns : List Int), ns.length ≤ n → (∀ z ∈ ns, Builtin.Int.intBits z ≤ 1048576) → (∀ p ∈ cs, H p.2 = some (.tbl #[])) → SqL K H a (ns.map V.int) → sp [.ref a] H (fun v _ => v = .bl true) fun _ _ _ => False) ∧ ∀ base : Heap, K.In base → base.Ns mainGlobals mg → base.NoSeer → (∀ p ∈ cs, LamX.TabB base mg p.1 p.2) → FnG l.prog w K mg base k fa fd [x] sp) :
    PySem.W.WalkO q loose XP YP l.row.toRowW d [] (fun f vs => PySem.call f vs) :=
  Att.attach_callB hn hdf fun w t0 t1 mg mb fa o pm cd doc a us ns G Y ho hd hcd hmg hobj hints hlen hbits hg => by
    obtain ⟨K, fd, cs, sp, KX, hT, nT, C, hb, hsp, hF⟩ := F w mg fa _ Y G.T.g hmg
    exact lawG KX G.T.g G.T.b G.T.builtins G.T.nolimit hg hT nT C G.T.bmain hobj hints (Nat.le_trans hlen hn2) hr (G.T.seer hi) hF hb fun H hH hS => hsp H a ns hlen hbits hH hS
end Pu
namespace Pu
open PySem L2
variable [TabT]
theorem ite_some {α : Type} (p : Prop) [Decidable p] (a b : α) : ((if p then some a else none) = some b) = (p ∧ a = b) := by
  by_cases h : p
  · rw [if_pos h]
    simp [h]
  · rw [if_neg h]
    simp [h]
/-! ### what a mirror does, from the left -/
variable {α β : Type} {X : Exn → En → Prop} {k : α → En → Prop}
@[simp] theorem qo_ok (a : α) (r : En) : Po X (.ok a r) k = k a r := rfl
@[simp] theorem qo_ex (e : Exn) (r : En) : Po X (.ex e r) k = X e r := rfl
@[simp] theorem qo_no : Po X (.no : Re α) k = False := rfl
@[simp] theorem qo_bind (x : Re β) (f : β → M α) : Po X (x.bind f) k = Po X x fun a r => Po X (f a r) k := by cases x <;> rfl
theorem qo_opt (o : Option α) (r : En) : Po X (M.opt o r) k = ∃ a, o = some a ∧ k a r := by
  cases o with
  | none => simp [M.opt]
  | some a => simp [M.opt]
theorem qo_mono {x : Re α} {k' : α → En → Prop} (h : Po X x k') (i : ∀ a r, k' a r → k a r) : Po X x k := h.mono (fun _ _ z => z) i
theorem qo_true {f : Re RV} (h : Po (fun _ _ => False) f fun rv _ => rv = .v (.bool true)) : ∃ r, f = .ok (.v (.bool true)) r := by
  cases f with
  | ok a r => exact ⟨r, by rw [show a = .v (.bool true) from h]⟩
  | ex e r => exact h.elim
  | no => exact h.elim
@[simp] theorem getS_ap (i : Nat) (r : En) : getS i r = (match r[i]? with
  | some (.v d) => .ok d r
  | _ => .no) := rfl
@[simp] theorem bin_ap (g : D → D → Option D) (a b : M D) (r : En) : bin g a b r = (a r).bind fun x r => (b r).bind fun y r => M.opt (g x y) r := rfl
@[simp] theorem una_ap (g : D → Option D) (a : M D) (r : En) : una g a r = (a r).bind fun x r => M.opt (g x) r := rfl
@[simp] theorem nry_ap (g : List D → Option D) (a : M (List D)) (r : En) : nry g a r = (a r).bind fun x r => M.opt (g x) r := rfl
@[simp] theorem unaO_ap (g : D → Option (List D)) (a : M D) (r : En) : unaO g a r = (a r).bind fun x r => M.opt ((g x).map fun z => .o (.l z)) r := rfl
@[simp] theorem nryO_ap (g : List D → Option (List D)) (a : M (List D)) (r : En) : nryO g a r = (a r).bind fun x r => M.opt ((g x).map fun z => .o (.l z)) r := rfl
@[simp] theorem aNil_ap (r : En) : aNil r = .ok [] r := rfl
@[simp] theorem aCons_ap (a : M D) (b : M (List D)) (r : En) : aCons a b r = (a r).bind fun x r => (b r).bind fun y r => .ok (x :: y) r := rfl
@[simp] theorem frzM_ap (m : M RV) (r : En) : frzM m r = (m r).bind fun rv r => M.opt rv.data r := rfl
@[simp] theorem data_v (d : D) : RV.data (.v d) = some d := rfl
@[simp] theorem data_l (ds : List D) : RV.data (.o (.l ds)) = some (.list ds) := rfl
@[simp] theorem eTup_ap (m : M (List D)) (r : En) : eTup m r = (m r).bind fun ds r => M.opt (szC ds.length (.tuple ds)) r := rfl
@[simp] theorem oLst_ap (m : M (List D)) (r : En) : oLst m r = (m r).bind fun ds r => M.opt (szC ds.length (.o (.l ds))) r := rfl
theorem szC_iff (n : Nat) (a b : α) : (szC n a = some b) = (n ≤ 16777216 ∧ a = b) := by
  unfold szC
  exact ite_some _ _ _
@[simp] theorem tBool_ap (m : M D) (r : En) : tBool m r = (m r).bind fun d r => M.opt (match d with
  | .bool b => some b
  | _ => none) r := rfl
@[simp] theorem tTru_ap (m : M D) (r : En) : tTru m r = (m r).bind fun d r => M.opt (tru d) r := rfl
@[simp] theorem tNotM_ap (m : M Bool) (r : En) : tNotM m r = (m r).bind fun b r => .ok (!b) r := rfl
@[simp] theorem tAndM_ap (m n : M Bool) (r : En) : tAndM m n r = (m r).bind fun b r => if b = true then n r else .ok false r := by
  show (m r).bind (fun b => if b = true then n else M.ret false) = _
  congr 1
  funext b r
  cases b <;> rfl
@[simp] theorem tOrM_ap (m n : M Bool) (r : En) : tOrM m n r = (m r).bind fun b r => if b = true then .ok true r else n r := by
  show (m r).bind (fun b => if b = true then M.ret true else n) = _
  congr 1
  funext b r
  cases b <;> rfl
@[simp] theorem eNot_ap (m : M D) (r : En) : eNot m r = (tBool m r).bind fun b r => .ok (.bool (!b)) r := rfl
@[simp] theorem eNotT_ap (m : M D) (r : En) : eNotT m r = (tTru m r).bind fun b r => .ok (.bool (!b)) r := rfl
@[simp] theorem eAnd_ap (m n : M D) (r : En) : eAnd m n r = (tBool m r).bind fun b r => if b = true then n r else .ok (.bool false) r := by
  show (tBool m r).bind (fun b => if b = true then n else M.ret (.bool false)) = _
  congr 1
  funext b r
  cases b <;> rfl
@[simp] theorem eOr_ap (m n : M D) (r : En) : eOr m n r = (tBool m r).bind fun b r => if b = true then .ok (.bool true) r else n r := by
  show (tBool m r).bind (fun b => if b = true then M.ret (.bool true) else n) = _
  congr 1
  funext b r
  cases b <;> rfl
@[simp] theorem eIf_ap (t : M Bool) (m n : M D) (r : En) : eIf t m n r = (t r).bind fun b r => if b = true then m r else n r := by
  show (t r).bind (fun b => if b = true then m else n) = _
  congr 1
  funext b r
  cases b <;> rfl
@[simp] theorem eChain_ap (g g' : D → D → Option D) (a b d : M D) (r : En) : eChain g g' a b d r = (a r).bind fun x r => (b r).bind fun y r => (M.opt (g x y) r).bind fun z r => (match z with
  | .bool true => (d r).bind fun z r => M.opt (g' y z) r
  | .bool false => .ok (.bool false) r
  | _ => .no) := by
  show (a r).bind (fun x => b.bind fun y => (M.opt (g x y)).bind fun z => (match z with
  | .bool true => d.bind fun z => M.opt (g' y z)
  | .bool false => M.ret (.bool false)
  | _ => M.no)) = _
  congr 1
  funext x r
  show (b r).bind _ = _
  congr 1
  funext y r
  show (M.opt (g x y) r).bind _ = _
  congr 1
  funext z r
  cases z with
  | bool b => cases b <;> rfl
  | _ => rfl
@[simp] theorem setN_ap (i : Nat) (s : Sl) (r : En) : setN i s r = (match r[i]? with
  | some q => if q.isIo = true then none else some (r.set i s)
  | none => none) := by
  unfold setN
  cases r[i]? with
  | none => rfl
  | some q => cases q <;> rfl
@[simp] theorem io_unk : Sl.isIo .unk = false := rfl
@[simp] theorem io_v (d : D) : Sl.isIo (.v d) = false := rfl
@[simp] theorem io_o (c : Ct) : Sl.isIo (.o c) = false := rfl
@[simp] theorem io_io (c : Ct) : Sl.isIo (.io c) = true := rfl
@[simp] theorem setM_ap (i : Nat) (s : Sl) (r : En) : setM i s r = (match setN i s r with
  | some r' => .ok .nx r'
  | none => .no) := rfl
@[simp] theorem slOf_v (d : D) : slOf (.v d) = .v d := rfl
@[simp] theorem slOf_o (d : Ct) : slOf (.o d) = .o d := rfl
@[simp] theorem sSet_ap (i : Nat) (m : M D) (r : En) : sSet i m r = (m r).bind fun d r => setM i (.v d) r := rfl
@[simp] theorem sSetO_ap (i : Nat) (m : M RV) (r : En) : sSetO i m r = (m r).bind fun d r => setM i (slOf d) r := rfl
@[simp] theorem sNil_ap (r : En) : sNil r = .ok .nx r := rfl
theorem sSeq_ap (m n : M Fl) (r : En) : sSeq m n r = (m r).bind fun fl r => (match fl with
  | .nx => n r
  | f => .ok f r) := by
  show (m r).bind (fun fl => (match fl with
  | .nx => n
  | f => M.ret f)) = _
  congr 1
  funext fl r
  cases fl <;> rfl
theorem qo_seq {kk : Fl → En → Prop} (m n : M Fl) (r : En) : Po X (sSeq m n r) kk = Po X (m r) fun fl r => (match fl with
  | .nx => Po X (n r) kk
  | f => kk f r) := by
  rw [sSeq_ap, qo_bind]
  congr 1
  funext fl r
  cases fl <;> rfl
@[simp] theorem sIf_ap (t : M Bool) (a b : M Fl) (r : En) : sIf t a b r = (t r).bind fun x r => if x = true then a r else b r := by
  show (t r).bind (fun x => if x = true then a else b) = _
  congr 1
  funext x r
  cases x <;> rfl
@[simp] theorem qo_ite (p : Prop) [Decidable p] (x y : Re α) : Po X (if p then x else y) k = if p then Po X x k else Po X y k := by split <;> rfl
@[simp] theorem sRet_ap (m : M RV) (r : En) : sRet m r = (m r).bind fun d r => .ok (.rt d) r := rfl
@[simp] theorem sDrop_ap (m : M D) (r : En) : sDrop m r = (m r).bind fun _ r => .ok .nx r := rfl
@[simp] theorem sDropO_ap (m : M RV) (r : En) : sDropO m r = (m r).bind fun _ r => .ok .nx r := rfl
@[simp] theorem frzE_ap (i : Nat) (r : En) : frzE i r = (match r[i]? with
  | some (.o (.l ds)) => r.set i (.v (.list ds))
  | some (.o (.n t)) => (match t.data with
    | some d => r.set i (.v d)
    | none => r)
  | _ => r) := rfl
@[simp] theorem frz_ap (i : Nat) (m : M α) (r : En) : frz i m r = m (frzE i r) := rfl
@[simp] theorem takeS_ap (i : Nat) (r : En) : takeS i r = (match r[i]? with
  | some (.v d) => .ok (.v d) r
  | some (.o ct) => .ok (.o ct) (r.set i .unk)
  | _ => .no) := rfl
@[simp] theorem gN_ap (i : Nat) (d : D) (r : En) : gN i d r = setN i (.v d) r := rfl
@[simp] theorem gT_ap (t : Tgs) (ds : List D) (r : En) : gT t (.tuple ds) r = t ds r := rfl
@[simp] theorem gT_l (t : Tgs) (ds : List D) (r : En) : gT t (.list ds) r = t ds r := rfl
@[simp] theorem gNl_ap (r : En) : gNl [] r = some r := rfl
@[simp] theorem gCn_ap (t : Tg) (ts : Tgs) (d : D) (ds : List D) (r : En) : gCn t ts (d :: ds) r = (t d r).bind fun r' => ts ds r' := rfl
@[simp] theorem sAsg_ap (t : Tg) (m : M D) (r : En) : sAsg t m r = (m r).bind fun d r => (match t d r with
  | some r' => .ok .nx r'
  | none => .no) := rfl
@[simp] theorem sPar_ap (i j : Nat) (m : M (List D)) (r : En) : sPar i j m r = (m r).bind fun ds r => (match ds with
  | [a, b] => (match (setN i (.v a) r).bind (setN j (.v b)) with
    | some r' => .ok .nx r'
    | none => .no)
  | _ => .no) := by
  unfold sPar
  show (m r).bind _ = _
  congr 1
  funext ds r
  rcases ds with _ | ⟨a, _ | ⟨b, _ | ⟨c, ds⟩⟩⟩ <;> rfl
@[simp] theorem iSeq_ap (m : M D) (r : En) : iSeq m r = (m r).bind fun d r => M.opt (seqOf d) r := rfl
@[simp] theorem seqOf_l (ds : List D) : seqOf (.list ds) = some ds := rfl
@[simp] theorem seqOf_t (ds : List D) : seqOf (.tuple ds) = some ds := rfl
@[simp] theorem iBy_ap (g : List D → Option (List D)) (m : M (List D)) (r : En) : iBy g m r = (m r).bind fun ds r => M.opt (g ds) r := rfl
theorem rng1_iff (j : Int) (xs : List D) : (rng1 [.int j] = some xs) = ((-(2 ^ 62) ≤ j ∧ j < 2 ^ 62) ∧ rngD 0 j.toNat = xs) := by
  show (cI (-(2 ^ 62) ≤ j ∧ j < 2 ^ 62) (some (rngD 0 j.toNat)) none = some xs) = _
  rw [cI_eq]
  exact ite_some _ _ _
theorem rng2_iff (i j : Int) (xs : List D) : (rng2 [.int i, .int j] = some xs) = (((-(2 ^ 62) ≤ i ∧ i < 2 ^ 62) ∧ (-(2 ^ 62) ≤ j ∧ j < 2 ^ 62)) ∧ rngD i (j - i).toNat = xs) := by
  show (cI ((-(2 ^ 62) ≤ i ∧ i < 2 ^ 62) ∧ (-(2 ^ 62) ≤ j ∧ j < 2 ^ 62)) (some (rngD i (j - i).toNat)) none = some xs) = _
  rw [cI_eq]
  exact ite_some _ _ _
theorem enF_zip {γ : Type} (g : γ → D) : ∀ (k : Nat) (xs : List γ), enF k (xs.map g) = (xs.zipIdx k).map fun p => .tuple [.int (p.2 : Nat), g p.1]
  | _, [] => rfl
  | k, x :: xs => by
    rw [List.map_cons, List.zipIdx_cons, List.map_cons, ← enF_zip g (k + 1) xs]
    rfl
@[simp] theorem enOf_l {γ : Type} (g : γ → D) (xs : List γ) : enOf [.list (xs.map g)] = some ((xs.zipIdx 0).map fun p => .tuple [.int (p.2 : Nat), g p.1]) := by
  rw [← enF_zip]
  rfl
@[simp] theorem enOf_t {γ : Type} (g : γ → D) (xs : List γ) : enOf [.tuple (xs.map g)] = some ((xs.zipIdx 0).map fun p => .tuple [.int (p.2 : Nat), g p.1]) := by
  rw [← enF_zip]
  rfl
theorem rng_map (lo : Int) (n : Nat) : rngD lo n = (List.range n).map fun k : Nat => PyData.int (lo + (k : Int)) := rfl
@[simp] theorem pNone_ap (r : En) : pNone r = .ok none r := rfl
@[simp] theorem pSome_ap (m : M D) (r : En) : pSome m r = (m r).bind fun d r => M.opt (match d with
  | .int i => some (some i)
  | _ => none) r := rfl
@[simp] theorem eSl_ap (m : M D) (l u : M (Option Int)) (r : En) : eSl m l u r = (m r).bind fun d r => (l r).bind fun a r => (u r).bind fun b r => M.opt (slD d a b) r := rfl
@[simp] theorem slD_l (ds : List D) (a b : Option Int) : slD (.list ds) a b = some (.list (cutL ds a b)) := rfl
@[simp] theorem slD_t (ds : List D) (a b : Option Int) : slD (.tuple ds) a b = some (.tuple (cutL ds a b)) := rfl
@[simp] theorem revD_l (ds : List D) : revD (.list ds) = some (.list ds.reverse) := rfl
@[simp] theorem revD_t (ds : List D) : revD (.tuple ds) = some (.tuple ds.reverse) := rfl
@[simp] theorem sAppend_ap (i : Nat) (m : M D) (r : En) : sAppend i m r = (match getC i r with
  | some (.l _) => (m r).bind fun d r => (match getC i r with
    | some (.l ds) => if ds.length < 16777216 then .ok .nx (putC i (.l (ds ++ [d])) r) else .no
    | _ => .no)
  | _ => .no) := rfl
@[simp] theorem sExtend_ap (i : Nat) (m : M RV) (r : En) : sExtend i m r = (match getC i r with
  | some (.l _) => (m r).bind fun rv r => (match rv, getC i r with
    | .o (.l es), some (.l ds) => if ds.length + es.length ≤ 16777216 then .ok .nx (putC i (.l (ds ++ es)) r) else .no
    | _, _ => .no)
  | _ => .no) := rfl
@[simp] theorem getC_ap (i : Nat) (r : En) : getC i r = (r[i]?).bind Sl.own := rfl
@[simp] theorem putC_ap (i : Nat) (ct : Ct) (r : En) : putC i ct r = (match r[i]? with
  | some s => r.set i (s.put ct)
  | none => r) := rfl
@[simp] theorem own_o (c : Ct) : Sl.own (.o c) = some c := rfl
@[simp] theorem own_io (c : Ct) : Sl.own (.io c) = some c := rfl
@[simp] theorem own_v (d : D) : Sl.own (.v d) = none := rfl
@[simp] theorem own_unk : Sl.own .unk = none := rfl
@[simp] theorem put_o (c c' : Ct) : Sl.put c (.o c') = .o c := rfl
@[simp] theorem put_io (c c' : Ct) : Sl.put c (.io c') = .io c := rfl
@[simp] theorem eIxS_ap (i : Nat) (mk : M D) (r : En) : eIxS i mk r = (match getC i r with
  | some (.l _) => (mk r).bind fun k r => (match getC i r with
    | some (.l ds) => M.opt (ixL ds k) r
    | _ => .no)
  | some (.d _) => (mk r).bind fun k r => (match getC i r with
    | some (.d kvs) => M.opt ((keyD k).bind (vK kvs)) r
    | _ => .no)
  | some (.t _) => .no
  | some (.n _) => .no
  | none => bin ixD (getS i) mk r) := rfl
@[simp] theorem sPut_ap (i : Nat) (mk m : M D) (r : En) : sPut' i mk m r = (m r).bind fun d r => (match getC i r with
  | none => .no
  | some _ => (mk r).bind fun k r => (match getC i r with
    | some (.l ds) => (match k with
      | .int n => (match ixN ds.length n with
        | some j => .ok .nx (putC i (.l (ds.set j d)) r)
        | none => .no)
      | _ => .no)
    | some (.d kvs) => (match keyD k with
      | some y => if kvs.length < 16777216 then .ok .nx (putC i (.d (pK kvs y d)) r) else .no
      | none => .no)
    | some (.t kvs) => (match tkeyD k with
      | some y => if kvs.length < 16777216 then .ok .nx (putC i (.t (pK kvs y d)) r) else .no
      | none => .no)
    | some (.n _) => .no
    | none => .no)) := rfl
@[simp] theorem ixL_ap (ds : List D) (n : Int) : ixL ds (.int n) = atI ds n := rfl
@[simp] theorem ixD_l (ds : List D) (k : D) : ixD (.list ds) k = ixL ds k := rfl
@[simp] theorem ixD_t (ds : List D) (k : D) : ixD (.tuple ds) k = ixL ds k := rfl
@[simp] theorem lenD_l (ds : List D) : lenD (.list ds) = some (.int (ds.length : Nat)) := rfl
@[simp] theorem lenD_t (ds : List D) : lenD (.tuple ds) = some (.int (ds.length : Nat)) := rfl
@[simp] theorem one_ap (g : D → Option D) (d : D) : one g [d] = g d := rfl
@[simp] theorem two_ap (g : D → D → Option D) (d e : D) : two g [d, e] = g d e := rfl
@[simp] theorem eLenS_ap (i : Nat) (r : En) : eLenS i r = (match getC i r with
  | some (.l ds) => .ok (.int (ds.length : Nat)) r
  | some (.d kvs) => .ok (.int (kvs.length : Nat)) r
  | some (.t _) => .no
  | some (.n _) => .no
  | none => nry (one lenD) (aCons (getS i) aNil) r) := rfl
@[simp] theorem addD_i (i j : Int) : addD (.int i) (.int j) = some (.int (i + j)) := rfl
@[simp] theorem addD_l (xs ys : List D) : addD (.list xs) (.list ys) = szC (xs.length + ys.length) (.list (xs ++ ys)) := rfl
@[simp] theorem addD_t (xs ys : List D) : addD (.tuple xs) (.tuple ys) = szC (xs.length + ys.length) (.tuple (xs ++ ys)) := rfl
@[simp] theorem subD_i (i j : Int) : subD (.int i) (.int j) = some (.int (i - j)) := rfl
theorem mulD_iff (i j : Int) (d : D) : (mulD (.int i) (.int j) = some d) = (mulOk i j ∧ .int (i * j) = d) := by
  show (cI (mulOk i j) (some (PyData.int (i * j))) none = some d) = _
  rw [cI_eq]
  exact ite_some _ _ _
theorem fdivD_iff (i j : Int) (d : D) : (fdivD (.int i) (.int j) = some d) = ((j ≠ 0 ∧ j.natAbs.log2 < 9000) ∧ .int (i.fdiv j) = d) := by
  show (cI (j ≠ 0 ∧ j.natAbs.log2 < 9000) (some (PyData.int (i.fdiv j))) none = some d) = _
  rw [cI_eq]
  exact ite_some _ _ _
theorem modD_iff (i j : Int) (d : D) : (modD (.int i) (.int j) = some d) = (j ≠ 0 ∧ .int (i.fmod j) = d) := by
  show (cI (j ≠ 0) (some (PyData.int (i.fmod j))) none = some d) = _
  rw [cI_eq]
  exact ite_some _ _ _
theorem powD_iff (i j : Int) (d : D) : (powD (.int i) (.int j) = some d) = ((0 ≤ j ∧ j ≤ 1000000 ∧ i.natAbs < 2 ^ 64) ∧ .int (i ^ j.toNat) = d) := by
  show (cI (0 ≤ j ∧ j ≤ 1000000 ∧ i.natAbs < 2 ^ 64) (some (PyData.int (i ^ j.toNat))) none = some d) = _
  rw [cI_eq]
  exact ite_some _ _ _
@[simp] theorem negD_i (i : Int) : negD (.int i) = some (.int (-i)) := rfl
@[simp] theorem ltD_i (i j : Int) : ltD (.int i) (.int j) = some (.bool (decide (i < j))) := congrArg (fun b => some (PyData.bool b)) (cd_eq _)
@[simp] theorem leD_i (i j : Int) : leD (.int i) (.int j) = some (.bool (decide (i ≤ j))) := congrArg (fun b => some (PyData.bool b)) (cd_eq _)
@[simp] theorem gtD_i (i j : Int) : gtD (.int i) (.int j) = some (.bool (decide (j < i))) := congrArg (fun b => some (PyData.bool b)) (cd_eq _)
@[simp] theorem geD_i (i j : Int) : geD (.int i) (.int j) = some (.bool (decide (j ≤ i))) := congrArg (fun b => some (PyData.bool b)) (cd_eq _)
@[simp] theorem eqD_i (i j : Int) : eqD (.int i) (.int j) = some (.bool (decide (i = j))) := by
  show some (PyData.bool (i == j)) = _
  congr 2
@[simp] theorem neD_i (i j : Int) : neD (.int i) (.int j) = some (.bool (!decide (i = j))) := by
  show some (PyData.bool (!(i == j))) = _
  congr 2
@[simp] theorem eqD_s (i j : Str) : eqD (.str i) (.str j) = some (.bool (decide (i = j))) := rfl
@[simp] theorem neD_s (i j : Str) : neD (.str i) (.str j) = some (.bool (!decide (i = j))) := rfl
theorem eqD_ll {xs ys : List D} (h1 : SeqAt.shaped (.list xs) = true) (h2 : SeqAt.shaped (.list ys) = true) : eqD (.list xs) (.list ys) = some (.bool (PyData.eqvAll xs ys)) := if_pos ⟨h1, h2⟩
theorem neD_ll {xs ys : List D} (h1 : SeqAt.shaped (.list xs) = true) (h2 : SeqAt.shaped (.list ys) = true) : neD (.list xs) (.list ys) = some (.bool (!PyData.eqvAll xs ys)) := if_pos ⟨h1, h2⟩
theorem eqD_tt {xs ys : List D} (h1 : SeqAt.shaped (.tuple xs) = true) (h2 : SeqAt.shaped (.tuple ys) = true) : eqD (.tuple xs) (.tuple ys) = some (.bool (PyData.eqvAll xs ys)) := if_pos ⟨h1, h2⟩
theorem neD_tt {xs ys : List D} (h1 : SeqAt.shaped (.tuple xs) = true) (h2 : SeqAt.shaped (.tuple ys) = true) : neD (.tuple xs) (.tuple ys) = some (.bool (!PyData.eqvAll xs ys)) := if_pos ⟨h1, h2⟩
/-- of other lengths -/
theorem eqD_other {xs ys : List D} (h : xs.length ≠ ys.length) : eqD (.list xs) (.list ys) = some (.bool false) := by
  show (if SeqAt.shaped (.list xs) = true ∧ SeqAt.shaped (.list ys) = true then some (PyData.bool (PyData.eqvAll xs ys)) else eqL (.list xs) (.list ys)) = _
  split
  · rw [SeqAt.eqvAll_other_length h]
  · show (if xs.length = ys.length then none else some (PyData.bool false)) = _
    rw [if_neg h]
theorem eqD_nil (xs : List D) : eqD (.list xs) (.list []) = some (.bool (decide (xs = []))) := by
  cases xs with
  | nil => rfl
  | cons x xs => rw [eqD_other (by simp)]; simp
/-! plain data: whole numbers, yes and no, None, rows of such -/
mutual
def pln : D → Bool
  | .none => true
  | .bool _ => true
  | .int i => decide (i.natAbs < 2 ^ 1900)
  | .str x => (PyData.str x).showable && ((PyData.str x).canLay0 && (PyData.str x).leavesShort 1901)
  | .list xs => plnAll xs
  | .tuple xs => plnAll xs
  | .dict _ => false
def plnAll : List D → Bool
  | [] => true
  | x :: xs => pln x && plnAll xs
end
theorem int_len {i : Int} (h : i.natAbs < 2 ^ 1900) : (PyData.shown (.int i)).length ≤ 1901 := by
  show (Str.ofString (toString i)).length ≤ 1901
  rw [ofString_length]
  exact int_text_length_le (k := 1900) (by decide) (PySem.Flt.log2_lt_of (by decide) h)
mutual
theorem pln_ok : ∀ d : D, pln d = true → d.showable = true ∧ d.canLay0 = true ∧ d.leavesShort 1901 = true
  | .none, _ => ⟨rfl, rfl, rfl⟩
  | .bool _, _ => ⟨rfl, rfl, rfl⟩
  | .int i, h => by
    have h : i.natAbs < 2 ^ 1900 := of_decide_eq_true h
    refine ⟨?_, rfl, ?_⟩
    · exact decide_eq_true (by
        have : i.natAbs.log2 < 1900 := PySem.Flt.log2_lt_of (by decide) h
        omega)
    · exact decide_eq_true (int_len h)
  | .str x, h => by
    have h : ((PyData.str x).showable && ((PyData.str x).canLay0 && (PyData.str x).leavesShort 1901)) = true := h -- pln_str
    rw [Bool.and_eq_true, Bool.and_eq_true] at h
    exact ⟨h.1, h.2.1, h.2.2⟩
  | .list xs, h => plnAll_ok xs h
  | .tuple xs, h => plnAll_ok xs h
  | .dict _, h => by cases h
theorem plnAll_ok : ∀ xs : List D, plnAll xs = true → PyData.showableAll xs = true ∧ PyData.canLayAll0 xs = true ∧ PyData.leavesShortAll 1901 xs = true
  | [], _ => ⟨rfl, rfl, rfl⟩
  | x :: xs, h => by
    have h : (pln x && plnAll xs) = true := h
    obtain ⟨h1, h2⟩ := Bool.and_eq_true_iff.mp h
    obtain ⟨a1, a2, a3⟩ := pln_ok x h1
    obtain ⟨b1, b2, b3⟩ := plnAll_ok xs h2
    exact ⟨Bool.and_eq_true_iff.mpr ⟨a1, b1⟩, Bool.and_eq_true_iff.mpr ⟨a2, b2⟩, Bool.and_eq_true_iff.mpr ⟨a3, b3⟩⟩
end
theorem pln_shaped {d : D} (h : pln d = true) (hd : d.depth ≤ 64) : SeqAt.shaped d = true := Bool.and_eq_true_iff.mpr ⟨(pln_ok d h).2.1, decide_eq_true hd⟩
theorem plnAll_map {γ : Type} (f : γ → D) : ∀ xs : List γ, (∀ x ∈ xs, pln (f x) = true) → plnAll (xs.map f) = true
  | [], _ => rfl
  | x :: xs, h => Bool.and_eq_true_iff.mpr ⟨h x (List.mem_cons_self ..), plnAll_map f xs fun y hy => h y (List.mem_cons_of_mem _ hy)⟩
theorem depthAll_map {γ : Type} (f : γ → D) (k : Nat) : ∀ xs : List γ, (∀ x ∈ xs, (f x).depth ≤ k) → PyData.depthAll (xs.map f) ≤ k
  | [], _ => Nat.zero_le _
  | x :: xs, h => by
    have h1 := h x (List.mem_cons_self ..)
    have h2 := depthAll_map f k xs fun y hy => h y (List.mem_cons_of_mem _ hy)
    simp only [List.map_cons, PyData.depthAll]
    omega
theorem bulkAll_map {γ : Type} (f : γ → D) (k : Nat) : ∀ xs : List γ, (∀ x ∈ xs, (f x).bulk ≤ k) → PyData.bulkAll (xs.map f) ≤ (k + 1) * xs.length
  | [], _ => Nat.zero_le _
  | x :: xs, h => by
    have h1 := h x (List.mem_cons_self ..)
    have h2 := bulkAll_map f k xs fun y hy => h y (List.mem_cons_of_mem _ hy)
    simp only [List.map_cons, PyData.bulkAll, List.length_cons, Nat.mul_add, Nat.mul_one]
    omega
theorem lay_ints : ∀ xs : List Int, PyData.canLayAll0 (xs.map .int) = true
  | [] => rfl
  | _ :: xs => lay_ints xs
theorem shaped_t (xs : List Int) : SeqAt.shaped (.tuple (xs.map .int)) = true := Bool.and_eq_true_iff.mpr ⟨lay_ints xs, decide_eq_true (by
  have := depthAll_map PyData.int 1 xs fun x _ => by simp [PyData.depth]
  simp only [PyData.depth]
  omega)⟩
theorem shaped_l (xs : List Int) : SeqAt.shaped (.list (xs.map .int)) = true := Bool.and_eq_true_iff.mpr ⟨lay_ints xs, decide_eq_true (by
  have := depthAll_map PyData.int 1 xs fun x _ => by simp [PyData.depth]
  simp only [PyData.depth]
  omega)⟩
theorem eqv_ints : ∀ xs ys : List Int, PyData.eqvAll (xs.map .int) (ys.map .int) = decide (xs = ys)
  | [], [] => rfl
  | [], _ :: _ => rfl
  | _ :: _, [] => rfl
  | x :: xs, y :: ys => by
    show ((x == y) && PyData.eqvAll (xs.map .int) (ys.map .int)) = _
    rw [eqv_ints xs ys]
    by_cases h1 : x = y
    · by_cases h2 : xs = ys
      · simp [h1, h2]
      · simp [h1, h2]
    · simp [h1]
@[simp] theorem eqD_T (xs ys : List Int) : eqD (.tuple (xs.map .int)) (.tuple (ys.map .int)) = some (.bool (decide (xs = ys))) := by
  rw [eqD_tt (shaped_t _) (shaped_t _), eqv_ints]
@[simp] theorem neD_T (xs ys : List Int) : neD (.tuple (xs.map .int)) (.tuple (ys.map .int)) = some (.bool (!decide (xs = ys))) := by
  rw [neD_tt (shaped_t _) (shaped_t _), eqv_ints]
@[simp] theorem eqD_L (xs ys : List Int) : eqD (.list (xs.map .int)) (.list (ys.map .int)) = some (.bool (decide (xs = ys))) := by
  rw [eqD_ll (shaped_l _) (shaped_l _), eqv_ints]
@[simp] theorem neD_L (xs ys : List Int) : neD (.list (xs.map .int)) (.list (ys.map .int)) = some (.bool (!decide (xs = ys))) := by
  rw [neD_ll (shaped_l _) (shaped_l _), eqv_ints]
@[simp] theorem neD_b (i j : Bool) : neD (.bool i) (.bool j) = some (.bool (!decide (i = j))) := by
  show some (PyData.bool (!(i == j))) = _
  congr 2
@[simp] theorem eqD_b (i j : Bool) : eqD (.bool i) (.bool j) = some (.bool (decide (i = j))) := by
  show some (PyData.bool (i == j)) = _
  congr 2
@[simp] theorem tru_b (b : Bool) : tru (.bool b) = some b := rfl
@[simp] theorem tru_i (i : Int) : tru (.int i) = some (i != 0) := rfl
@[simp] theorem tru_l (ds : List D) : tru (.list ds) = some (!ds.isEmpty) := rfl
@[simp] theorem tru_t (ds : List D) : tru (.tuple ds) = some (!ds.isEmpty) := rfl
@[simp] theorem absD_i (i : Int) : absD (.int i) = some (.int (if i < 0 then -i else i)) := rfl
@[simp] theorem tupD_l (ds : List D) : tupD (.list ds) = some (.tuple ds) := rfl
@[simp] theorem tupD_t (ds : List D) : tupD (.tuple ds) = some (.tuple ds) := rfl
@[simp] theorem isi_ii (i : Int) : isiD "int" (.int i) = some (.bool true) := by kernel_rfl
@[simp] theorem isi_ib (i : Int) : isiD "bool" (.int i) = some (.bool false) := by kernel_rfl
@[simp] theorem isi_it (i : Int) : isiD "tuple" (.int i) = some (.bool false) := by kernel_rfl
@[simp] theorem isi_tt (ds : List D) : isiD "tuple" (.tuple ds) = some (.bool true) := by kernel_rfl
@[simp] theorem isi_ll (ds : List D) : isiD "list" (.list ds) = some (.bool true) := by kernel_rfl
@[simp] theorem eqS_ap (i : Nat) (mb : M D) (r : En) : eqS i mb r = (match getC i r with
  | some (.l _) => (mb r).bind fun d r => (match getC i r with
    | some (.l ds) => M.opt (eqD0 (.list ds) d) r
    | _ => .no)
  | some (.d _) => .no
  | some (.t _) => .no
  | some (.n _) => .no
  | none => bin eqD (getS i) mb r) := rfl
@[simp] theorem neS_ap (i : Nat) (mb : M D) (r : En) : neS i mb r = (match getC i r with
  | some (.l _) => (mb r).bind fun d r => (match getC i r with
    | some (.l ds) => M.opt (neD (.list ds) d) r
    | _ => .no)
  | some (.d _) => .no
  | some (.t _) => .no
  | some (.n _) => .no
  | none => bin neD (getS i) mb r) := rfl
@[simp] theorem cCall0_ap (f : List Sl → Re RV) (r : En) : cCall0 f r = cCall f aNil r := rfl
@[simp] theorem binO_ap (g : D → D → Option RV) (a b : M D) (r : En) : binO g a b r = (a r).bind fun x r => (b r).bind fun y r => M.opt (g x y) r := rfl
@[simp] theorem addO_l (xs ys : List D) : addO (.list xs) (.list ys) = szC (xs.length + ys.length) (.o (.l (xs ++ ys))) := rfl
@[simp] theorem addO_t (xs ys : List D) : addO (.tuple xs) (.tuple ys) = (szC (xs.length + ys.length) (PyData.tuple (xs ++ ys))).map .v := rfl
@[simp] theorem listD_t (xs : List D) : listD [.tuple xs] = some xs := rfl
@[simp] theorem listD_l (xs : List D) : listD [.list xs] = some xs := rfl
@[simp] theorem addO_i (i j : Int) : addO (.int i) (.int j) = some (.v (.int (i + j))) := rfl
@[simp] theorem mulO_iff (xs : List D) (k : Int) (d : RV) : (mulO (.list xs) (.int k) = some d) = (((-(2 ^ 63) ≤ k ∧ k < 2 ^ 63) ∧ xs.length * k.toNat ≤ 16777216) ∧ .o (.l (List.replicate k.toNat xs).flatten) = d) := by
  show (cI ((-(2 ^ 63) ≤ k ∧ k < 2 ^ 63) ∧ xs.length * k.toNat ≤ 16777216) (some (RV.o (.l (List.replicate k.toNat xs).flatten))) none = some d) = _
  rw [cI_eq]
  exact ite_some _ _ _
@[simp] theorem sAppX_ap (m : M RV) (r : En) : sAppX m r = (m r).bind fun rv r => (match rv with
  | .o (.l ds) => if ds.length < 16777216 then .ok .nx r else .no
  | _ => .no) := by
  show (m r).bind _ = _
  congr 1
  funext rv r
  rcases rv with d | ct
  · rfl
  · cases ct with
    | l ds =>
      simp only
      split <;> rfl
    | d kvs => rfl
    | t kvs => rfl
    | n t => rfl
/-! an answer with a condition -/
@[simp] theorem qo_szM {γ : Type} (n : Nat) (a : γ) (f : γ → α) (r : En) : Po X (M.opt ((szC n a).map f) r) k = (n ≤ 16777216 ∧ k (f a) r) := by
  unfold szC
  by_cases h : n ≤ 16777216
  · rw [if_pos h]
    simp [h]
  · rw [if_neg h]
    simp [h]
@[simp] theorem qo_szC (n : Nat) (a : α) (r : En) : Po X (M.opt (szC n a) r) k = (n ≤ 16777216 ∧ k a r) := by
  rw [qo_opt]
  simp only [szC_iff]
  exact propext ⟨fun ⟨_, ⟨h, e⟩, q⟩ => ⟨h, by rw [e]; exact q⟩, fun ⟨h, q⟩ => ⟨a, ⟨h, rfl⟩, q⟩⟩
section
variable {kd : D → En → Prop} {kl : List D → En → Prop}
@[simp] theorem qo_rng1 (j : Int) (r : En) : Po X (M.opt (rng1 [.int j]) r) kl = ((-(2 ^ 62) ≤ j ∧ j < 2 ^ 62) ∧ kl (rngD 0 j.toNat) r) := by
  rw [qo_opt]
  simp only [rng1_iff]
  exact propext ⟨fun ⟨_, ⟨h, e⟩, q⟩ => ⟨h, by rw [e]; exact q⟩, fun ⟨h, q⟩ => ⟨_, ⟨h, rfl⟩, q⟩⟩
@[simp] theorem qo_rng2 (i j : Int) (r : En) : Po X (M.opt (rng2 [.int i, .int j]) r) kl = (((-(2 ^ 62) ≤ i ∧ i < 2 ^ 62) ∧ (-(2 ^ 62) ≤ j ∧ j < 2 ^ 62)) ∧ kl (rngD i (j - i).toNat) r) := by
  rw [qo_opt]
  simp only [rng2_iff]
  exact propext ⟨fun ⟨_, ⟨h, e⟩, q⟩ => ⟨h, by rw [e]; exact q⟩, fun ⟨h, q⟩ => ⟨_, ⟨h, rfl⟩, q⟩⟩
@[simp] theorem qo_mul (i j : Int) (r : En) : Po X (M.opt (mulD (.int i) (.int j)) r) kd = (mulOk i j ∧ kd (.int (i * j)) r) := by
  rw [qo_opt]
  simp only [mulD_iff]
  exact propext ⟨fun ⟨_, ⟨h, e⟩, q⟩ => ⟨h, by rw [e]; exact q⟩, fun ⟨h, q⟩ => ⟨_, ⟨h, rfl⟩, q⟩⟩
@[simp] theorem qo_fdiv (i j : Int) (r : En) : Po X (M.opt (fdivD (.int i) (.int j)) r) kd = ((j ≠ 0 ∧ j.natAbs.log2 < 9000) ∧ kd (.int (i.fdiv j)) r) := by
  rw [qo_opt]
  simp only [fdivD_iff]
  exact propext ⟨fun ⟨_, ⟨h, e⟩, q⟩ => ⟨h, by rw [e]; exact q⟩, fun ⟨h, q⟩ => ⟨_, ⟨h, rfl⟩, q⟩⟩
@[simp] theorem qo_mod (i j : Int) (r : En) : Po X (M.opt (modD (.int i) (.int j)) r) kd = (j ≠ 0 ∧ kd (.int (i.fmod j)) r) := by
  rw [qo_opt]
  simp only [modD_iff]
  exact propext ⟨fun ⟨_, ⟨h, e⟩, q⟩ => ⟨h, by rw [e]; exact q⟩, fun ⟨h, q⟩ => ⟨_, ⟨h, rfl⟩, q⟩⟩
@[simp] theorem qo_pow (i j : Int) (r : En) : Po X (M.opt (powD (.int i) (.int j)) r) kd = ((0 ≤ j ∧ j ≤ 1000000 ∧ i.natAbs < 2 ^ 64) ∧ kd (.int (i ^ j.toNat)) r) := by
  rw [qo_opt]
  simp only [powD_iff]
  exact propext ⟨fun ⟨_, ⟨h, e⟩, q⟩ => ⟨h, by rw [e]; exact q⟩, fun ⟨h, q⟩ => ⟨_, ⟨h, rfl⟩, q⟩⟩
@[simp] theorem qo_mulO {kr : RV → En → Prop} (xs : List D) (j : Int) (r : En) : Po X (M.opt (mulO (.list xs) (.int j)) r) kr = (((-(2 ^ 63) ≤ j ∧ j < 2 ^ 63) ∧ xs.length * j.toNat ≤ 16777216) ∧ kr (.o (.l (List.replicate j.toNat xs).flatten)) r) := by
  rw [qo_opt]
  simp only [mulO_iff]
  exact propext ⟨fun ⟨_, ⟨h, e⟩, q⟩ => ⟨h, by rw [e]; exact q⟩, fun ⟨h, q⟩ => ⟨_, ⟨h, rfl⟩, q⟩⟩
@[simp] theorem qo_mulL (xs : List D) (k : Int) (r : En) : Po X (M.opt (mulD (.list xs) (.int k)) r) kd = (((-(2 ^ 63) ≤ k ∧ k < 2 ^ 63) ∧ xs.length * k.toNat ≤ 16777216) ∧ kd (.list (List.replicate k.toNat xs).flatten) r) := by
  rw [qo_opt]
  show (∃ a, cI ((-(2 ^ 63) ≤ k ∧ k < 2 ^ 63) ∧ xs.length * k.toNat ≤ 16777216) (some (PyData.list (List.replicate k.toNat xs).flatten)) none = some a ∧ kd a r) = _
  rw [cI_eq]
  simp only [ite_some]
  exact propext ⟨fun ⟨_, ⟨h, e⟩, q⟩ => ⟨h, by rw [e]; exact q⟩, fun ⟨h, q⟩ => ⟨_, ⟨h, rfl⟩, q⟩⟩
@[simp] theorem qo_mulT (xs : List D) (k : Int) (r : En) : Po X (M.opt (mulD (.tuple xs) (.int k)) r) kd = ((-1000 ≤ k ∧ k ≤ 1000 ∧ xs.length ≤ 1000) ∧ kd (.tuple (List.replicate k.toNat xs).flatten) r) := by
  rw [qo_opt]
  show (∃ a, cI (-1000 ≤ k ∧ k ≤ 1000 ∧ xs.length ≤ 1000) (some (PyData.tuple (List.replicate k.toNat xs).flatten)) none = some a ∧ kd a r) = _
  rw [cI_eq]
  simp only [ite_some]
  exact propext ⟨fun ⟨_, ⟨h, e⟩, q⟩ => ⟨h, by rw [e]; exact q⟩, fun ⟨h, q⟩ => ⟨_, ⟨h, rfl⟩, q⟩⟩
@[simp] theorem qo_at (xs : List D) (n : Int) (r : En) : Po X (M.opt (atI xs n) r) kd = ∃ d, atI xs n = some d ∧ kd d r := qo_opt _ _
@[simp] theorem atI_nat {α : Type} (xs : List α) (i : Nat) : atI xs (i : Int) = xs[i]? := by
  unfold atI ixN
  rw [if_pos (by omega)]
  by_cases h : i < xs.length
  · rw [if_pos (by omega)]
    simp
  · rw [if_neg (by omega), List.getElem?_eq_none (by omega)]
    rfl
theorem atI_map {α β : Type} (f : α → β) (xs : List α) (n : Int) : atI (xs.map f) n = (atI xs n).map f := by
  unfold atI
  rw [List.length_map]
  cases ixN xs.length n with
  | none => rfl
  | some j => simp
@[simp high] theorem qo_atI (xs : List Int) (n : Int) (r : En) : Po X (M.opt (atI (xs.map .int) n) r) kd = ∃ c, atI xs n = some c ∧ kd (.int c) r := by
  rw [qo_opt, atI_map]
  cases atI xs n with
  | none => simp
  | some c => simp
end
/-! calls -/
@[simp] theorem qo_call {kk : RV → En → Prop} (f : List Sl → Re RV) (ms : M (List D)) (r : En) : Po X (cCall f ms r) kk = Po X (ms r) fun ds r => Po (fun e _ => X e r) (f (ds.map .v)) fun rv _ => kk rv r := by
  show Po X ((ms r).bind _) kk = _
  rw [qo_bind]
  congr 1
  funext ds r
  cases f (ds.map .v) <;> rfl
def InIo (P : Ct → Prop) : List Sl → Prop
  | .io c :: _ => P c
  | _ => False
@[simp] theorem inIo (P : Ct → Prop) (c : Ct) (t : List Sl) : InIo P (.io c :: t) = P c := rfl
@[simp] theorem qo_callI {kk : RV → En → Prop} (f : List Sl → Re RV) (ms : M (List D)) (i : Nat) (r : En) : Po X (cCallI i f ms r) kk = (match getC i r with
  | none => False
  | some _ => Po X (ms r) fun ds r1 => (match getC i r1 with
    | none => False
    | some ct => Po (fun e z => InIo (fun c => X e (putC i c r1)) z) (f (.io ct :: ds.map .v)) fun rv z => InIo (fun c => kk rv (putC i c r1)) z)) := by
  unfold cCallI
  cases getC i r with
  | none => rfl
  | some c0 =>
    show Po X ((ms r).bind _) kk = _
    rw [qo_bind]
    simp only
    congr 1
    funext ds r1
    cases getC i r1 with
    | none => rfl
    | some ct =>
      simp only
      cases f (.io ct :: ds.map .v) with
      | no => rfl
      | ok rv z => rcases z with _ | ⟨q, z⟩ <;> first | rfl | (cases q <;> rfl)
      | ex rv z => rcases z with _ | ⟨q, z⟩ <;> first | rfl | (cases q <;> rfl)
theorem qo_fn {kk : RV → List Sl → Prop} {n : Nat} {m : M Fl} {rs : List Sl} (h : Po (fun e r => ∃ z, backA rs r = some z ∧ X e z) (m (rs ++ List.replicate (n - rs.length) .unk)) fun fl r => ∃ rv z, backA rs r = some z ∧ (fl = .rt rv ∨ (fl = .nx ∧ rv = .v .none)) ∧ kk rv z) : Po X (fnOf n m rs) kk := by
  unfold fnOf backR flRv
  cases hm : m (rs ++ List.replicate (n - rs.length) .unk) with
  | ok fl r =>
    rw [hm] at h
    obtain ⟨rv, z, hz, hfl, hk⟩ := h
    rcases hfl with rfl | ⟨rfl, rfl⟩
    · simp only [hz]
      exact hk
    · simp only [hz]
      exact hk
  | ex e r =>
    rw [hm] at h
    obtain ⟨z, hz, hk⟩ := h
    simp only [hz]
    exact hk
  | no =>
    rw [hm] at h
    exact h.elim
@[simp] theorem backA_nil (r : En) : backA [] r = some [] := rfl
@[simp] theorem backA_io (c c' : Ct) (s : List Sl) (r : En) : backA (.io c :: s) (.io c' :: r) = (backA s r).map fun z => .io c' :: z := rfl
@[simp] theorem backA_v (d : D) (s : List Sl) (q : Sl) (r : En) : backA (.v d :: s) (q :: r) = (backA s r).map fun z => .v d :: z := rfl
/-! loops -/
theorem qo_for {kk : Fl → En → Prop} {tg : Tg} {b : M Fl} (I : List D → List D → En → Prop) : ∀ (xs done : List D) (r : En), I done xs r →
    (∀ done x xs r, I done (x :: xs) r → ∃ r1, tg x r = some r1 ∧ Po X (b r1) fun fl r2 => (match fl with
      | .nx => I (done ++ [x]) xs r2
      | .ct => I (done ++ [x]) xs r2
      | .bk => kk .nx r2
      | .rt v => kk (.rt v) r2)) → (∀ done r, I done [] r → kk .nx r) → Po X (forL tg b xs r) kk
  | [], done, r, h0, hs, he => he done r h0
  | x :: xs, done, r, h0, hs, he => by
    obtain ⟨r1, h1, h2⟩ := hs done x xs r h0
    unfold forL
    rw [h1]
    simp only
    cases hb : b r1 with
    | no =>
      rw [hb] at h2
      exact h2.elim
    | ex e r2 =>
      rw [hb] at h2
      exact h2
    | ok fl r2 =>
      rw [hb] at h2
      cases fl with
      | nx => exact qo_for I xs (done ++ [x]) r2 h2 hs he
      | ct => exact qo_for I xs (done ++ [x]) r2 h2 hs he
      | bk => exact h2
      | rt v => exact h2
/-- over a list of things told as data -/
theorem qo_forM {γ : Type} {kk : Fl → En → Prop} {tg : Tg} {b : M Fl} {f : γ → D} (I : List γ → En → Prop) (xs : List γ) (r : En) (h0 : I [] r)
    (hs : ∀ done x rest r, xs = done ++ x :: rest → I done r → ∃ r1, tg (f x) r = some r1 ∧ Po X (b r1) fun fl r2 => (match fl with
      | .nx => I (done ++ [x]) r2
      | .ct => I (done ++ [x]) r2
      | .bk => kk .nx r2
      | .rt v => kk (.rt v) r2)) (he : ∀ r, I xs r → kk .nx r) : Po X (forL tg b (xs.map f) r) kk := by
  refine qo_for (fun d1 rest r => ∃ done xs2, xs = done ++ xs2 ∧ rest = xs2.map f ∧ I done r) _ [] r ⟨[], xs, rfl, rfl, h0⟩ ?_ ?_
  · rintro d1 x rest r ⟨done, xs2, e1, e2, hI⟩
    cases xs2 with
    | nil => cases e2
    | cons y ys =>
      cases e2
      obtain ⟨r1, h1, h2⟩ := hs done y ys r e1 hI
      refine ⟨r1, h1, qo_mono h2 fun fl r2 q => ?_⟩
      have e3 : xs = (done ++ [y]) ++ ys := by rw [e1]; simp
      cases fl with
      | nx => exact ⟨_, ys, e3, rfl, q⟩
      | ct => exact ⟨_, ys, e3, rfl, q⟩
      | bk => exact q
      | rt v => exact q
  · rintro d1 r ⟨done, xs2, e1, e2, hI⟩
    cases xs2 with
    | nil =>
      rw [List.append_nil] at e1
      subst e1
      exact he r hI
    | cons y ys => cases e2
/-- range(n): the invariant by the number of turns -/
theorem qo_rng {kk : Fl → En → Prop} {tg : Tg} {b : M Fl} {lo : Int} (I : Nat → En → Prop) (n : Nat) (r : En) (h0 : I 0 r)
    (hs : ∀ i r, i < n → I i r → ∃ r1, tg (.int (lo + (i : Nat))) r = some r1 ∧ Po X (b r1) fun fl r2 => (match fl with
      | .nx => I (i + 1) r2
      | .ct => I (i + 1) r2
      | .bk => kk .nx r2
      | .rt v => kk (.rt v) r2)) (he : ∀ r, I n r → kk .nx r) : Po X (forL tg b (rngD lo n) r) kk := by
  refine qo_forM (f := fun k : Nat => PyData.int (lo + (k : Nat))) (fun done r => I done.length r) (List.range n) r h0 ?_ ?_
  · intro done x rest r e hI
    have hl : (List.range n).length = (done ++ x :: rest).length := by rw [e]
    rw [List.length_range, List.length_append, List.length_cons] at hl
    have hx : x = done.length := by
      have h1 : (List.range n)[done.length]? = some x := by rw [e]; simp
      rw [List.getElem?_range (by omega)] at h1
      cases h1
      rfl
    subst hx
    obtain ⟨r1, h1, h2⟩ := hs done.length r (by omega) hI
    refine ⟨r1, h1, qo_mono h2 fun fl r2 q => ?_⟩
    rw [List.length_append, List.length_singleton]
    exact q
  · intro r h
    rw [List.length_range] at h
    exact he r h
@[simp] theorem sFor_ap (src : M (List D)) (tg : Tg) (b : M Fl) (r : En) : sFor src tg b r = (src r).bind fun xs r => forL tg b xs r := rfl
/-! the same, with what comes behind hidden -/
theorem qo_step {kk : Fl → En → Prop} {m n : M Fl} {r : En} (h : ∀ K : Fl → En → Prop, (∀ r', Po X (n r') kk → K .nx r') → (∀ v r', kk (.rt v) r' → K (.rt v) r') → (∀ r', kk .bk r' → K .bk r') → (∀ r', kk .ct r' → K .ct r') → Po X (m r) K) : Po X (sSeq m n r) kk := by
  rw [qo_seq]
  exact h _ (fun _ q => q) (fun _ _ q => q) (fun _ q => q) fun _ q => q
theorem qo_fnK {kk : RV → List Sl → Prop} {n : Nat} {m : M Fl} {rs : List Sl} (h : ∀ (Y : Exn → En → Prop) (K : Fl → En → Prop), (∀ e r z, backA rs r = some z → X e z → Y e r) → (∀ v r z, backA rs r = some z → kk v z → K (.rt v) r) → (∀ r z, backA rs r = some z → kk (.v .none) z → K .nx r) → Po Y (m (rs ++ List.replicate (n - rs.length) .unk)) K) : Po X (fnOf n m rs) kk :=
  qo_fn (h _ _ (fun _ _ z hz q => ⟨z, hz, q⟩) (fun v _ z hz q => ⟨v, z, hz, .inl rfl, q⟩) fun _ z hz q => ⟨_, z, hz, .inr ⟨rfl, rfl⟩, q⟩)
theorem qo_forK {γ : Type} {kk : Fl → En → Prop} {tg : Tg} {b : M Fl} {f : γ → D} (I : List γ → En → Prop) (xs : List γ) (r : En) (h0 : I [] r)
    (hs : ∀ done x rest r, xs = done ++ x :: rest → I done r → ∃ r1, tg (f x) r = some r1 ∧ ∀ K : Fl → En → Prop, (∀ r2, I (done ++ [x]) r2 → K .nx r2) → (∀ v r2, kk (.rt v) r2 → K (.rt v) r2) → (∀ r2, I (done ++ [x]) r2 → K .ct r2) → (∀ r2, kk .nx r2 → K .bk r2) → Po X (b r1) K) (he : ∀ r, I xs r → kk .nx r) : Po X (forL tg b (xs.map f) r) kk :=
  qo_forM I xs r h0 (fun done x rest r e h => by
    obtain ⟨r1, h1, h2⟩ := hs done x rest r e h
    exact ⟨r1, h1, h2 _ (fun _ q => q) (fun _ _ q => q) (fun _ q => q) fun _ q => q⟩) he
theorem qo_rngK {kk : Fl → En → Prop} {tg : Tg} {b : M Fl} {lo : Int} (I : Nat → En → Prop) (n : Nat) (r : En) (h0 : I 0 r)
    (hs : ∀ i r, i < n → I i r → ∃ r1, tg (.int (lo + (i : Nat))) r = some r1 ∧ ∀ K : Fl → En → Prop, (∀ r2, I (i + 1) r2 → K .nx r2) → (∀ v r2, kk (.rt v) r2 → K (.rt v) r2) → (∀ r2, I (i + 1) r2 → K .ct r2) → (∀ r2, kk .nx r2 → K .bk r2) → Po X (b r1) K) (he : ∀ r, I n r → kk .nx r) : Po X (forL tg b (rngD lo n) r) kk :=
  qo_rng I n r h0 (fun i r hi h => by
    obtain ⟨r1, h1, h2⟩ := hs i r hi h
    exact ⟨r1, h1, h2 _ (fun _ q => q) (fun _ _ q => q) (fun _ q => q) fun _ q => q⟩) he
@[simp] theorem oDict0_ap (r : En) : oDict0 r = .ok (.o (.d [])) r := rfl
@[simp] theorem zipOf_T (a b : List Int) : zipOf [.tuple (a.map .int), .tuple (b.map .int)] = some ((List.zip a b).map fun p => .tuple [.int p.1, .int p.2]) := by
  show some (zipD (a.map .int) (b.map .int)) = _
  unfold zipD
  rw [List.zipWith_map, List.map_zip_eq_zipWith]
  rfl
@[simp] theorem isD_bb (a b : Bool) : isD (.bool a) (.bool b) = some (.bool (decide (a = b))) := rfl
@[simp] theorem isntD_bb (a b : Bool) : isntD (.bool a) (.bool b) = some (.bool (!decide (a = b))) := rfl
@[simp] theorem boolD_i (i : Int) : boolD (.int i) = some (.bool (i != 0)) := rfl
@[simp] theorem boolD_b (b : Bool) : boolD (.bool b) = some (.bool b) := rfl
@[simp] theorem eIndex_ap (mo me : M D) (r : En) : eIndex mo me r = (mo r).bind fun d r => (match d with
  | .list ds => (me r).bind fun b r => M.opt (indexD (.list ds) b) r
  | _ => .no) := by
  show (mo r).bind (fun d => (match d with
  | .list ds => me.bind fun b => M.opt (indexD (.list ds) b)
  | _ => M.no)) = _
  congr 1
  funext d r
  cases d <;> rfl
@[simp] theorem ePop_ap (i : Nat) (m : M D) (r : En) : ePop i m r = (match getC i r with
  | some (.l _) => (m r).bind fun d r => match getC i r with
    | some (.l ds) => (match popD ds d with
      | some p => .ok p.1 (putC i (.l p.2) r)
      | none => .no)
    | _ => .no
  | _ => .no) := rfl
@[simp] theorem isi_bi (b : Bool) : isiD "int" (.bool b) = some (.bool true) := by kernel_rfl
@[simp] theorem isi_bb (b : Bool) : isiD "bool" (.bool b) = some (.bool true) := by kernel_rfl
@[simp] theorem isi_bt (b : Bool) : isiD "tuple" (.bool b) = some (.bool false) := by kernel_rfl
@[simp] theorem isi_bs (b : Bool) : isiD "str" (.bool b) = some (.bool false) := by kernel_rfl
@[simp] theorem isi_ni : isiD "int" .none = some (.bool false) := by kernel_rfl
@[simp] theorem isi_nb : isiD "bool" .none = some (.bool false) := by kernel_rfl
@[simp] theorem isi_nt : isiD "tuple" .none = some (.bool false) := by kernel_rfl
@[simp] theorem isi_ns : isiD "str" .none = some (.bool false) := by kernel_rfl
@[simp] theorem isi_nl : isiD "list" .none = some (.bool false) := by kernel_rfl
@[simp] theorem isi_si (x : Str) : isiD "int" (.str x) = some (.bool false) := by kernel_rfl
@[simp] theorem isi_sb (x : Str) : isiD "bool" (.str x) = some (.bool false) := by kernel_rfl
@[simp] theorem isi_st (x : Str) : isiD "tuple" (.str x) = some (.bool false) := by kernel_rfl
@[simp] theorem isi_ss (x : Str) : isiD "str" (.str x) = some (.bool true) := by kernel_rfl
@[simp] theorem isi_sl (x : Str) : isiD "list" (.str x) = some (.bool false) := by kernel_rfl
@[simp] theorem isi_is (i : Int) : isiD "str" (.int i) = some (.bool false) := by kernel_rfl
@[simp] theorem isi_il (i : Int) : isiD "list" (.int i) = some (.bool false) := by kernel_rfl
@[simp] theorem isi_li (ds : List D) : isiD "int" (.list ds) = some (.bool false) := by kernel_rfl
@[simp] theorem isi_lb (ds : List D) : isiD "bool" (.list ds) = some (.bool false) := by kernel_rfl
@[simp] theorem isi_lt (ds : List D) : isiD "tuple" (.list ds) = some (.bool false) := by kernel_rfl
@[simp] theorem isi_ls (ds : List D) : isiD "str" (.list ds) = some (.bool false) := by kernel_rfl
@[simp] theorem isi_ti (ds : List D) : isiD "int" (.tuple ds) = some (.bool false) := by kernel_rfl
@[simp] theorem isi_tb (ds : List D) : isiD "bool" (.tuple ds) = some (.bool false) := by kernel_rfl
@[simp] theorem isi_ts (ds : List D) : isiD "str" (.tuple ds) = some (.bool false) := by kernel_rfl
@[simp] theorem isi_tl (ds : List D) : isiD "list" (.tuple ds) = some (.bool false) := by kernel_rfl
theorem isi_dicts {T : String} (hT : T ∈ basicT) (hk : kitB "dict" T = some false) (ds : List (D × D)) : isiD T (.dict ds) = some (.bool false) := by
  cases ds with
  | nil =>
    show (kitB "dict" T).map PyData.bool = _
    rw [hk]
    rfl
  | cons x r =>
    obtain ⟨k, e⟩ := x
    cases k with
    | str x =>
      show (if T ∈ basicT then some (PyData.bool false) else none) = _
      rw [if_pos hT]
    | _ =>
      show (kitB "dict" T).map PyData.bool = _
      rw [hk]
      rfl
@[simp] theorem isi_di (ds : List (D × D)) : isiD "int" (.dict ds) = some (.bool false) := isi_dicts (by decide) (by kernel_rfl) ds
@[simp] theorem isi_db (ds : List (D × D)) : isiD "bool" (.dict ds) = some (.bool false) := isi_dicts (by decide) (by kernel_rfl) ds
@[simp] theorem isi_dt (ds : List (D × D)) : isiD "tuple" (.dict ds) = some (.bool false) := isi_dicts (by decide) (by kernel_rfl) ds
@[simp] theorem isi_ds (ds : List (D × D)) : isiD "str" (.dict ds) = some (.bool false) := isi_dicts (by decide) (by kernel_rfl) ds
@[simp] theorem isi_dl (ds : List (D × D)) : isiD "list" (.dict ds) = some (.bool false) := isi_dicts (by decide) (by kernel_rfl) ds
/-! comprehensions -/
@[simp] theorem qo_comp {kk : RV → En → Prop} (src : M (List D)) (is : List Nat) (tg : Tg) (tt : M Bool) (te : M D) (r : En) : Po X (oComp src is tg tt te r) kk = Po X (src r) fun xs r => noOwn r is = true ∧ Po (fun _ _ => False) (compL is tg tt te xs [] r) fun ys q => kk (.o (.l ys)) (backE r (wipeE q is) is) := by
  show Po X ((src r).bind _) kk = _
  rw [qo_bind]
  congr 1
  funext xs r
  by_cases h : noOwn r is = true
  · rw [if_pos h]
    cases compL is tg tt te xs [] r with
    | ok ys q => simp [h]
    | ex e q => simp
    | no => simp
  · rw [if_neg h]
    simp [h]
@[simp] theorem compL_nil (is : List Nat) (tg : Tg) (tt : M Bool) (te : M D) (acc : List D) (r : En) : compL is tg tt te [] acc r = .ok acc r := rfl
theorem qo_compL {kl : List D → En → Prop} (is : List Nat) (tg : Tg) (tt : M Bool) (te : M D) (x : D) (xs acc : List D) (r : En) : Po (fun _ _ => False) (compL is tg tt te (x :: xs) acc r) kl = (match tg x (wipeE r is) with
  | none => False
  | some r1 => Po (fun _ _ => False) (tt r1) fun b r2 => if b = true then Po (fun _ _ => False) (te r2) fun y r3 => acc.length < 16777216 ∧ Po (fun _ _ => False) (compL is tg tt te xs (acc ++ [y]) r3) kl else Po (fun _ _ => False) (compL is tg tt te xs acc r2) kl) := by
  show Po _ (match tg x (wipeE r is) with
    | none => .no
    | some r1 => match tt r1 with
      | .ok true r2 => (match te r2 with
        | .ok y r3 => if acc.length < 16777216 then compL is tg tt te xs (acc ++ [y]) r3 else .no
        | _ => .no)
      | .ok false r2 => compL is tg tt te xs acc r2
      | _ => .no) kl = _
  cases tg x (wipeE r is) with
  | none => rfl
  | some r1 =>
    simp only
    cases tt r1 with
    | no => rfl
    | ex e r2 => rfl
    | ok b r2 =>
      cases b with
      | false => rfl
      | true =>
        simp only [qo_ok, if_true]
        cases te r2 with
        | no => rfl
        | ex e r3 => rfl
        | ok y r3 =>
          simp only [qo_ok]
          by_cases h : acc.length < 16777216
          · rw [if_pos h]
            simp [h]
          · rw [if_neg h]
            simp [h]
@[simp] theorem yes_ap (r : En) : yes r = .ok true r := rfl
/-- each thing to one datum, nothing else changed -/
theorem qo_compM {γ : Type} {kl : List D → En → Prop} {is : List Nat} {tg : Tg} {te : M D} {f : γ → D} {g : γ → D} (J : En → Prop) : ∀ (xs : List γ) (acc : List D) (r : En), J r → acc.length + xs.length ≤ 16777216 →
    (∀ x ∈ xs, ∀ r, J r → ∃ r1, tg (f x) (wipeE r is) = some r1 ∧ Po (fun _ _ => False) (te r1) fun y r3 => y = g x ∧ J r3) → (∀ r, J r → kl (acc ++ xs.map g) r) → Po (fun _ _ => False) (compL is tg yes te (xs.map f) acc r) kl
  | [], acc, r, hJ, _, _, he => by
    have := he r hJ
    rw [List.map_nil, List.append_nil] at this
    exact this
  | x :: xs, acc, r, hJ, hl, hs, he => by
    rw [List.map_cons, qo_compL]
    obtain ⟨r1, h1, h2⟩ := hs x (List.mem_cons_self ..) r hJ
    rw [h1]
    simp only [yes_ap, qo_ok, if_true]
    refine qo_mono h2 ?_
    rintro y r3 ⟨rfl, hJ3⟩
    rw [List.length_cons] at hl
    refine ⟨by omega, qo_compM J xs (acc ++ [g x]) r3 hJ3 (by rw [List.length_append, List.length_singleton]; omega) (fun z hz => hs z (List.mem_cons_of_mem _ hz)) fun r hr => ?_⟩
    have := he r hr
    rw [List.map_cons] at this
    rw [List.append_assoc]
    exact this
/-- with a test -/
theorem qo_compF {γ : Type} {kl : List D → En → Prop} {is : List Nat} {tg : Tg} {tt : M Bool} {te : M D} {f : γ → D} {g : γ → D} {p : γ → Bool} (J : En → Prop) : ∀ (xs : List γ) (acc : List D) (r : En), J r → acc.length + xs.length ≤ 16777216 →
    (∀ x ∈ xs, ∀ r, J r → ∃ r1, tg (f x) (wipeE r is) = some r1 ∧ Po (fun _ _ => False) (tt r1) fun b r2 => b = p x ∧ (p x = false → J r2) ∧ (p x = true → Po (fun _ _ => False) (te r2) fun y r3 => y = g x ∧ J r3)) → (∀ r, J r → kl (acc ++ (xs.filter p).map g) r) → Po (fun _ _ => False) (compL is tg tt te (xs.map f) acc r) kl
  | [], acc, r, hJ, _, _, he => by
    have := he r hJ
    rw [List.filter_nil, List.map_nil, List.append_nil] at this
    exact this
  | x :: xs, acc, r, hJ, hl, hs, he => by
    rw [List.map_cons, qo_compL]
    obtain ⟨r1, h1, h2⟩ := hs x (List.mem_cons_self ..) r hJ
    rw [h1]
    simp only
    rw [List.length_cons] at hl
    refine qo_mono h2 ?_
    rintro b r2 ⟨rfl, h3, h4⟩
    cases hp : p x with
    | false =>
      rw [if_neg Bool.false_ne_true]
      refine qo_compF J xs acc r2 (h3 hp) (by omega) (fun z hz => hs z (List.mem_cons_of_mem _ hz)) fun r hr => ?_
      have := he r hr
      rw [List.filter_cons_of_neg (by rw [hp]; exact Bool.false_ne_true)] at this
      exact this
    | true =>
      rw [if_pos rfl]
      refine qo_mono (h4 hp) ?_
      rintro y r3 ⟨rfl, hJ3⟩
      refine ⟨by omega, qo_compF J xs (acc ++ [g x]) r3 hJ3 (by rw [List.length_append, List.length_singleton]; omega) (fun z hz => hs z (List.mem_cons_of_mem _ hz)) fun r hr => ?_⟩
      have := he r hr
      rw [List.filter_cons_of_pos hp, List.map_cons] at this
      rw [List.append_assoc]
      exact this
theorem qo_compMD {kl : List D → En → Prop} {is : List Nat} {tg : Tg} {te : M D} {g : D → D} (J : En → Prop) (xs : List D) (r : En) (hJ : J r) (hl : xs.length ≤ 16777216) (hs : ∀ x ∈ xs, ∀ r, J r → ∃ r1, tg x (wipeE r is) = some r1 ∧ Po (fun _ _ => False) (te r1) fun y r3 => y = g x ∧ J r3) (he : ∀ r, J r → kl (xs.map g) r) : Po (fun _ _ => False) (compL is tg yes te xs [] r) kl := by
  have h := qo_compM (kl := kl) (is := is) (tg := tg) (te := te) (f := fun d : D => d) (g := g) J xs [] r hJ (by simpa using hl) hs (by simpa using he)
  rwa [List.map_id''] at h
  exact fun _ => rfl
@[simp] theorem wipe_nil (r : En) : wipeE r [] = r := rfl
@[simp] theorem wipe_cons (r : En) (i : Nat) (is : List Nat) : wipeE r (i :: is) = (wipeE r is).set i .unk := rfl
@[simp] theorem back_nil (r q : En) : backE r q [] = q := rfl
@[simp] theorem back_cons (r q : En) (i : Nat) (is : List Nat) : backE r q (i :: is) = (backE r q is).set i (r.getD i .unk) := rfl
@[simp] theorem noOwn_nil (r : En) : noOwn r [] = true := rfl
@[simp] theorem noOwn_cons (r : En) (i : Nat) (is : List Nat) : noOwn r (i :: is) = ((match r[i]? with
  | some s => s.own.isNone
  | none => false) && noOwn r is) := rfl
@[simp] theorem allD_b (ds : List D) : allD (.list ds) = (boolsOf ds).map fun bs => .bool (bs.all id) := rfl
@[simp] theorem anyD_b (ds : List D) : anyD (.list ds) = (boolsOf ds).map fun bs => .bool (bs.any id) := rfl
@[simp] theorem boolsOf_nil : boolsOf [] = some [] := rfl
@[simp] theorem boolsOf_cons (b : Bool) (ds : List D) : boolsOf (.bool b :: ds) = (boolsOf ds).map (b :: ·) := rfl
@[simp] theorem boolsOf_map {γ : Type} (f : γ → Bool) : ∀ xs : List γ, boolsOf (xs.map fun x => .bool (f x)) = some (xs.map f)
  | [] => rfl
  | x :: xs => by
    rw [List.map_cons, boolsOf_cons, boolsOf_map f xs]
    rfl
/-! numbers -/
theorem mulOk_l {i j : Int} (h : -(2 ^ 63) < i ∧ i < 2 ^ 63) : mulOk i j := .inl (by omega)
theorem mulOk_r {i j : Int} (h : -(2 ^ 63) < j ∧ j < 2 ^ 63) : mulOk i j := .inr (.inl (by omega))
theorem fmod_pos (a : Int) {n : Int} (h : 0 < n) : 0 ≤ a.fmod n ∧ a.fmod n < n := by
  rw [Int.fmod_eq_emod_of_nonneg _ (by omega)]
  exact ⟨Int.emod_nonneg _ (by omega), Int.emod_lt_of_pos _ h⟩
theorem fdiv_nn {a n : Int} (ha : 0 ≤ a) (h : 0 < n) : 0 ≤ a.fdiv n := by
  rw [Int.fdiv_eq_ediv_of_nonneg _ (by omega)]
  exact Int.ediv_nonneg ha (by omega)
theorem fmod_nat (x p : Nat) : (x : Int).fmod p = ((x % p : Nat) : Int) := by
  rw [Int.fmod_eq_emod_of_nonneg _ (by omega)]
  rfl
@[simp] theorem mulOk_sl (i j : Int) (h1 : -(2 ^ 63) < i) (h2 : i < 2 ^ 63) : mulOk i j := mulOk_l ⟨h1, h2⟩
@[simp] theorem mulOk_sr (i j : Int) (h1 : -(2 ^ 63) < j) (h2 : j < 2 ^ 63) : mulOk i j := mulOk_r ⟨h1, h2⟩
@[simp] theorem mulOk_ml (x m j : Int) (h0 : 0 < m) (h1 : m < 2 ^ 63) : mulOk (x % m) j := by
  have a1 := Int.emod_nonneg x (show m ≠ 0 by omega)
  have a2 := Int.emod_lt_of_pos x h0
  exact mulOk_l ⟨by omega, by omega⟩
@[simp] theorem mulOk_mr (x m i : Int) (h0 : 0 < m) (h1 : m < 2 ^ 63) : mulOk i (x % m) := by
  have a1 := Int.emod_nonneg x (show m ≠ 0 by omega)
  have a2 := Int.emod_lt_of_pos x h0
  exact mulOk_r ⟨by omega, by omega⟩
@[simp] theorem log2_s (n : Nat) (h : n < 2 ^ 64) : n.log2 < 9000 := by
  have : n.log2 < 64 := PySem.Flt.log2_lt_of (by decide) h
  omega
@[simp] theorem abs_nn (c : Int) : 0 ≤ (if c < 0 then -c else c) := by split <;> omega
@[simp] theorem sInsert_ap (i : Nat) (mk m : M D) (r : En) : sInsert i mk m r = (match getC i r with
  | some (.l _) => (mk r).bind fun k r => (m r).bind fun d r => (match k, getC i r with
    | .int n, some (.l ds) => cI (ds.length < 16777216 ∧ 0 ≤ n ∧ n < 2 ^ 63) (.ok .nx (putC i (.l (ds.take n.toNat ++ [d] ++ ds.drop n.toNat)) r)) .no
    | _, _ => .no)
  | _ => .no) := rfl
@[simp] theorem qo_cI (p : Prop) (x : Re α) : Po X (cI p x .no) k = (p ∧ Po X x k) := by
  by_cases h : p
  · have : cI p x .no = x := by unfold cI; exact if_pos h
    rw [this]
    simp [h]
  · have : cI p x .no = .no := by unfold cI; exact if_neg h
    rw [this]
    simp [h]
theorem zip3D_map {γ δ ε : Type} (f : γ → D) (g : δ → D) (h : ε → D) : ∀ (xs : List γ) (ys : List δ) (zs : List ε), zip3D (xs.map f) (ys.map g) (zs.map h) = (List.zip xs (List.zip ys zs)).map fun p => .tuple [f p.1, g p.2.1, h p.2.2]
  | [], _, _ => rfl
  | _ :: _, [], _ => rfl
  | _ :: _, _ :: _, [] => rfl
  | x :: xs, y :: ys, z :: zs => by
    simp only [List.map_cons, zip3D, zip3D_map f g h xs ys zs, List.zip_cons_cons]
@[simp] theorem zip3Of_T (a b c : List Int) : zip3Of [.tuple (a.map .int), .tuple (b.map .int), .tuple (c.map .int)] = some ((List.zip a (List.zip b c)).map fun p => .tuple [.int p.1, .int p.2.1, .int p.2.2]) := congrArg some (zip3D_map _ _ _ a b c)
/-! exceptions -/
@[simp] theorem sRaiseF_ap (nm : Str) (fs : List Str) (ms : M (List D)) (r : En) : sRaiseF nm fs ms r = (ms r).bind fun ds r => if ds.length = fs.length then .ex ⟨nm, (fs.zip ds).reverse⟩ r else .no := rfl
@[simp] theorem sRaise_ap (nm : Str) (r : En) : sRaise nm r = .ex ⟨nm, []⟩ r := rfl
@[simp] theorem exOf_ap (nm : Str) : exOf ⟨nm, []⟩ = .dict [(.str nm, .none)] := rfl
@[simp] theorem isED_ap (ns : List Str) (y nm : Str) (kv : List (D × D)) : isED ns y (.dict ((.str nm, .none) :: kv)) = if nm ∈ ns then some (.bool (isB nm y)) else none := rfl
@[simp] theorem isEV_ap (ns : List Str) (nm : Str) (kv : List (D × D)) : isEV ns (.dict ((.str nm, .none) :: kv)) = if nm ∈ ns then some (.bool true) else none := rfl
@[simp] theorem isET_ap (ns ys : List Str) (nm : Str) (kv : List (D × D)) : isET ns ys (.dict ((.str nm, .none) :: kv)) = if nm ∈ ns then some (.bool (ys.any fun y => isB nm y)) else none := rfl
@[simp] theorem isntD_d (kv : List (D × D)) : isntD (.dict kv) .none = some (.bool true) := rfl
@[simp] theorem isD_d (kv : List (D × D)) : isD (.dict kv) .none = some (.bool false) := rfl
@[simp] theorem lamRes_rt (r r2 : En) (rv : RV) : lamRes r (.ok (.rt rv) r2) = .ok rv r := rfl
@[simp] theorem lamRes_nx (r r2 : En) : lamRes r (.ok .nx r2) = .ok (.v .none) r := rfl
@[simp] theorem hide_v (d : D) : hideS (.v d) = .v d := rfl
@[simp] theorem hide_u : hideS .unk = .unk := rfl
@[simp] theorem hide_o (c : Ct) : hideS (.o c) = .unk := rfl
@[simp] theorem hide_io (c : Ct) : hideS (.io c) = .unk := rfl
@[simp] theorem qo_lamR {kk : RV → En → Prop} (r : En) (m : Re Fl) : Po X (lamRes r m) kk = Po (fun _ _ => False) m fun fl _ => (match fl with
  | .rt rv => kk rv r
  | .nx => kk (.v .none) r
  | _ => False) := by
  cases m with
  | no => rfl
  | ex e r1 => rfl
  | ok fl r1 => cases fl <;> rfl
@[simp] theorem qo_lam {kk : RV → En → Prop} (ns : List Str) (n i : Nat) (br : M Fl) (th : M D) (r : En) : Po X (cLam ns n i br th r) kk = Po (fun e _ => e.name ∈ ns ∧ Po X (lamRes r (br ((List.replicate n Sl.unk).set i (.v (exOf e))))) kk) (th (r.map hideS)) fun _ _ => Po X (lamRes r (br ((List.replicate n Sl.unk).set i (.v .none)))) kk := by
  unfold cLam
  cases th (r.map hideS) with
  | ok fl r1 => rfl
  | no => rfl
  | ex e r1 =>
    show Po X (if e.name ∈ ns then _ else _) kk = (e.name ∈ ns ∧ _)
    by_cases h : e.name ∈ ns
    · rw [if_pos h]
      simp only [h, true_and]
    · rw [if_neg h]
      simp only [h, false_and]
      rfl
@[simp] theorem qo_try {kk : Fl → En → Prop} (ns : List Str) (j i : Nat) (mb : M Fl) (r : En) : Po X (sTry ns j i mb r) kk = Po (fun e r1 => e.name ∈ ns ∧ (match (setN j (.v (exOf e)) r1).bind (setN i (.v (exOf e))) with
  | some r2 => kk .nx (r2.set j .unk)
  | none => False)) (mb r) kk := by
  unfold sTry
  cases mb r with
  | ok fl r1 => rfl
  | no => rfl
  | ex e r1 =>
    show Po X (if e.name ∈ ns then _ else _) kk = (e.name ∈ ns ∧ _)
    by_cases h : e.name ∈ ns
    · rw [if_pos h]
      simp only [h, true_and]
      cases (setN j (.v (exOf e)) r1).bind (setN i (.v (exOf e))) <;> rfl
    · rw [if_neg h]
      simp [h]
/-! the pen -/
def penL (cs : List Int) (a l : Int) : List (Key × D) := [(.inr "cells", .list (cs.map .int)), (.inr "at", .int a), (.inr "left", .int l)]
@[simp] theorem pen_c (cs : List Int) (a l : Int) : vK (penL cs a l) (.inr "cells") = some (.list (cs.map .int)) := rfl
@[simp] theorem pen_a (cs : List Int) (a l : Int) : vK (penL cs a l) (.inr "at") = some (.int a) := rfl
@[simp] theorem pen_l (cs : List Int) (a l : Int) : vK (penL cs a l) (.inr "left") = some (.int l) := rfl
@[simp] theorem pen_pa (cs : List Int) (a l b : Int) : pK (penL cs a l) (.inr "at") (.int b) = penL cs b l := rfl
@[simp] theorem pen_pl (cs : List Int) (a l b : Int) : pK (penL cs a l) (.inr "left") (.int b) = penL cs a b := rfl
@[simp] theorem pen_len (cs : List Int) (a l : Int) : (penL cs a l).length = 3 := rfl
@[simp] theorem keyD_s (x : Str) : keyD (.str x) = some (.inr x) := rfl
@[simp] theorem keyD_i (x : Int) : keyD (.int x) = some (.inl x) := rfl
theorem intsOf_mp : ∀ ns : List Int, intsOf (ns.map .int) = some ns
  | [] => rfl
  | k :: ks => by
    show (intsOf (ks.map .int)).map (k :: ·) = some (k :: ks)
    rw [intsOf_mp ks]
    rfl
/-! ### the same, shut to the elaborator's own reckoning -/
section
variable {α β : Type} {X : Exn → En → Prop} {k : α → En → Prop}
@[irreducible] def Wp {α : Type} (X : Exn → En → Prop) (x : Re α) (k : α → En → Prop) : Prop := Po X x k
theorem wp_eq {α : Type} {X : Exn → En → Prop} {x : Re α} {k : α → En → Prop} : Wp X x k = Po X x k := by
  unfold Wp
  rfl
variable {kd : D → En → Prop} {kl : List D → En → Prop}
@[simp] theorem po_ok (a : α) (r : En) : Wp X (.ok a r) k = k a r := by
  rw [wp_eq]
  rfl
@[simp] theorem po_ex (e : Exn) (r : En) : Wp X (.ex e r) k = X e r := by
  rw [wp_eq]
  rfl
@[simp] theorem po_no : Wp X (.no : Re α) k = False := by
  rw [wp_eq]
  rfl
@[simp] theorem po_bind (x : Re β) (f : β → M α) : Wp X (x.bind f) k = Wp X x fun a r => Wp X (f a r) k := by
  simp only [wp_eq, qo_bind]
theorem po_mono {x : Re α} {k' : α → En → Prop} (h : Wp X x k') (i : ∀ a r, k' a r → k a r) : Wp X x k := by
  simp only [wp_eq] at *
  exact qo_mono h i
theorem po_true {f : Re RV} (h : Wp (fun _ _ => False) f fun rv _ => rv = .v (.bool true)) : ∃ r, f = .ok (.v (.bool true)) r := by
  simp only [wp_eq] at *
  exact qo_true h
theorem po_seq {kk : Fl → En → Prop} (m n : M Fl) (r : En) : Wp X (sSeq m n r) kk = Wp X (m r) fun fl r => (match fl with
  | .nx => Wp X (n r) kk
  | f => kk f r) := by
  simp only [wp_eq, qo_seq]
@[simp] theorem po_ite (p : Prop) [Decidable p] (x y : Re α) : Wp X (if p then x else y) k = if p then Wp X x k else Wp X y k := by
  simp only [wp_eq, qo_ite]
@[simp] theorem po_szM {γ : Type} (n : Nat) (a : γ) (f : γ → α) (r : En) : Wp X (M.opt ((szC n a).map f) r) k = (n ≤ 16777216 ∧ k (f a) r) := by
  simp only [wp_eq, qo_szM]
@[simp] theorem po_szC (n : Nat) (a : α) (r : En) : Wp X (M.opt (szC n a) r) k = (n ≤ 16777216 ∧ k a r) := by
  simp only [wp_eq, qo_szC]
@[simp] theorem po_rng1 (j : Int) (r : En) : Wp X (M.opt (rng1 [.int j]) r) kl = ((-(2 ^ 62) ≤ j ∧ j < 2 ^ 62) ∧ kl (rngD 0 j.toNat) r) := by
  simp only [wp_eq, qo_rng1]
@[simp] theorem po_rng2 (i j : Int) (r : En) : Wp X (M.opt (rng2 [.int i, .int j]) r) kl = (((-(2 ^ 62) ≤ i ∧ i < 2 ^ 62) ∧ (-(2 ^ 62) ≤ j ∧ j < 2 ^ 62)) ∧ kl (rngD i (j - i).toNat) r) := by
  simp only [wp_eq, qo_rng2]
@[simp] theorem po_mul (i j : Int) (r : En) : Wp X (M.opt (mulD (.int i) (.int j)) r) kd = (mulOk i j ∧ kd (.int (i * j)) r) := by
  simp only [wp_eq, qo_mul]
@[simp] theorem po_fdiv (i j : Int) (r : En) : Wp X (M.opt (fdivD (.int i) (.int j)) r) kd = ((j ≠ 0 ∧ j.natAbs.log2 < 9000) ∧ kd (.int (i.fdiv j)) r) := by
  simp only [wp_eq, qo_fdiv]
@[simp] theorem po_mod (i j : Int) (r : En) : Wp X (M.opt (modD (.int i) (.int j)) r) kd = (j ≠ 0 ∧ kd (.int (i.fmod j)) r) := by
  simp only [wp_eq, qo_mod]
@[simp] theorem po_pow (i j : Int) (r : En) : Wp X (M.opt (powD (.int i) (.int j)) r) kd = ((0 ≤ j ∧ j ≤ 1000000 ∧ i.natAbs < 2 ^ 64) ∧ kd (.int (i ^ j.toNat)) r) := by
  simp only [wp_eq, qo_pow]
@[simp] theorem po_mulO {kr : RV → En → Prop} (xs : List D) (j : Int) (r : En) : Wp X (M.opt (mulO (.list xs) (.int j)) r) kr = (((-(2 ^ 63) ≤ j ∧ j < 2 ^ 63) ∧ xs.length * j.toNat ≤ 16777216) ∧ kr (.o (.l (List.replicate j.toNat xs).flatten)) r) := by
  simp only [wp_eq, qo_mulO]
@[simp] theorem po_mulL (xs : List D) (k : Int) (r : En) : Wp X (M.opt (mulD (.list xs) (.int k)) r) kd = (((-(2 ^ 63) ≤ k ∧ k < 2 ^ 63) ∧ xs.length * k.toNat ≤ 16777216) ∧ kd (.list (List.replicate k.toNat xs).flatten) r) := by
  simp only [wp_eq, qo_mulL]
@[simp] theorem po_mulT (xs : List D) (k : Int) (r : En) : Wp X (M.opt (mulD (.tuple xs) (.int k)) r) kd = ((-1000 ≤ k ∧ k ≤ 1000 ∧ xs.length ≤ 1000) ∧ kd (.tuple (List.replicate k.toNat xs).flatten) r) := by
  simp only [wp_eq, qo_mulT]
@[simp] theorem po_at (xs : List D) (n : Int) (r : En) : Wp X (M.opt (atI xs n) r) kd = ∃ d, atI xs n = some d ∧ kd d r := by
  simp only [wp_eq, qo_at]
@[simp high] theorem po_atI (xs : List Int) (n : Int) (r : En) : Wp X (M.opt (atI (xs.map .int) n) r) kd = ∃ c, atI xs n = some c ∧ kd (.int c) r := by
  simp only [wp_eq, qo_atI]
@[simp] theorem po_call {kk : RV → En → Prop} (f : List Sl → Re RV) (ms : M (List D)) (r : En) : Wp X (cCall f ms r) kk = Wp X (ms r) fun ds r => Wp (fun e _ => X e r) (f (ds.map .v)) fun rv _ => kk rv r := by
  simp only [wp_eq, qo_call]
@[simp] theorem po_callI {kk : RV → En → Prop} (f : List Sl → Re RV) (ms : M (List D)) (i : Nat) (r : En) : Wp X (cCallI i f ms r) kk = (match getC i r with
  | none => False
  | some _ => Wp X (ms r) fun ds r1 => (match getC i r1 with
    | none => False
    | some ct => Wp (fun e z => InIo (fun c => X e (putC i c r1)) z) (f (.io ct :: ds.map .v)) fun rv z => InIo (fun c => kk rv (putC i c r1)) z)) := by
  simp only [wp_eq, qo_callI]
theorem po_fn {kk : RV → List Sl → Prop} {n : Nat} {m : M Fl} {rs : List Sl} (h : Wp (fun e r => ∃ z, backA rs r = some z ∧ X e z) (m (rs ++ List.replicate (n - rs.length) .unk)) fun fl r => ∃ rv z, backA rs r = some z ∧ (fl = .rt rv ∨ (fl = .nx ∧ rv = .v .none)) ∧ kk rv z) : Wp X (fnOf n m rs) kk := by
  simp only [wp_eq] at *
  exact qo_fn h
theorem po_step {kk : Fl → En → Prop} {m n : M Fl} {r : En} (h : ∀ K : Fl → En → Prop, (∀ r', Wp X (n r') kk → K .nx r') → (∀ v r', kk (.rt v) r' → K (.rt v) r') → (∀ r', kk .bk r' → K .bk r') → (∀ r', kk .ct r' → K .ct r') → Wp X (m r) K) : Wp X (sSeq m n r) kk := by
  simp only [wp_eq] at *
  exact qo_step h
theorem po_fnK {kk : RV → List Sl → Prop} {n : Nat} {m : M Fl} {rs : List Sl} (h : ∀ (Y : Exn → En → Prop) (K : Fl → En → Prop), (∀ e r z, backA rs r = some z → X e z → Y e r) → (∀ v r z, backA rs r = some z → kk v z → K (.rt v) r) → (∀ r z, backA rs r = some z → kk (.v .none) z → K .nx r) → Wp Y (m (rs ++ List.replicate (n - rs.length) .unk)) K) : Wp X (fnOf n m rs) kk := by
  simp only [wp_eq] at *
  exact qo_fnK h
theorem po_forK {γ : Type} {kk : Fl → En → Prop} {tg : Tg} {b : M Fl} {f : γ → D} (I : List γ → En → Prop) (xs : List γ) (r : En) (h0 : I [] r)
    (hs : ∀ done x rest r, xs = done ++ x :: rest → I done r → ∃ r1, tg (f x) r = some r1 ∧ ∀ K : Fl → En → Prop, (∀ r2, I (done ++ [x]) r2 → K .nx r2) → (∀ v r2, kk (.rt v) r2 → K (.rt v) r2) → (∀ r2, I (done ++ [x]) r2 → K .ct r2) → (∀ r2, kk .nx r2 → K .bk r2) → Wp X (b r1) K) (he : ∀ r, I xs r → kk .nx r) : Wp X (forL tg b (xs.map f) r) kk := by
  simp only [wp_eq] at *
  exact qo_forK I xs r h0 hs he
theorem po_rngK {kk : Fl → En → Prop} {tg : Tg} {b : M Fl} {lo : Int} (I : Nat → En → Prop) (n : Nat) (r : En) (h0 : I 0 r)
    (hs : ∀ i r, i < n → I i r → ∃ r1, tg (.int (lo + (i : Nat))) r = some r1 ∧ ∀ K : Fl → En → Prop, (∀ r2, I (i + 1) r2 → K .nx r2) → (∀ v r2, kk (.rt v) r2 → K (.rt v) r2) → (∀ r2, I (i + 1) r2 → K .ct r2) → (∀ r2, kk .nx r2 → K .bk r2) → Wp X (b r1) K) (he : ∀ r, I n r → kk .nx r) : Wp X (forL tg b (rngD lo n) r) kk := by
  simp only [wp_eq] at *
  exact qo_rngK I n r h0 hs he
@[simp] theorem po_comp {kk : RV → En → Prop} (src : M (List D)) (is : List Nat) (tg : Tg) (tt : M Bool) (te : M D) (r : En) : Wp X (oComp src is tg tt te r) kk = Wp X (src r) fun xs r => noOwn r is = true ∧ Wp (fun _ _ => False) (compL is tg tt te xs [] r) fun ys q => kk (.o (.l ys)) (backE r (wipeE q is) is) := by
  simp only [wp_eq, qo_comp]
theorem po_compM {γ : Type} {kl : List D → En → Prop} {is : List Nat} {tg : Tg} {te : M D} {f : γ → D} {g : γ → D} (J : En → Prop) : ∀ (xs : List γ) (acc : List D) (r : En), J r → acc.length + xs.length ≤ 16777216 →
    (∀ x ∈ xs, ∀ r, J r → ∃ r1, tg (f x) (wipeE r is) = some r1 ∧ Wp (fun _ _ => False) (te r1) fun y r3 => y = g x ∧ J r3) → (∀ r, J r → kl (acc ++ xs.map g) r) → Wp (fun _ _ => False) (compL is tg yes te (xs.map f) acc r) kl := by
  intro xs acc r hJ hl hs he
  simp only [wp_eq] at *
  exact qo_compM J xs acc r hJ hl hs he
theorem po_compF {γ : Type} {kl : List D → En → Prop} {is : List Nat} {tg : Tg} {tt : M Bool} {te : M D} {f : γ → D} {g : γ → D} {p : γ → Bool} (J : En → Prop) : ∀ (xs : List γ) (acc : List D) (r : En), J r → acc.length + xs.length ≤ 16777216 →
    (∀ x ∈ xs, ∀ r, J r → ∃ r1, tg (f x) (wipeE r is) = some r1 ∧ Wp (fun _ _ => False) (tt r1) fun b r2 => b = p x ∧ (p x = false → J r2) ∧ (p x = true → Wp (fun _ _ => False) (te r2) fun y r3 => y = g x ∧ J r3)) → (∀ r, J r → kl (acc ++ (xs.filter p).map g) r) → Wp (fun _ _ => False) (compL is tg tt te (xs.map f) acc r) kl := by
  intro xs acc r hJ hl hs he
  simp only [wp_eq] at *
  exact qo_compF J xs acc r hJ hl hs he
theorem po_compMD {kl : List D → En → Prop} {is : List Nat} {tg : Tg} {te : M D} {g : D → D} (J : En → Prop) (xs : List D) (r : En) (hJ : J r) (hl : xs.length ≤ 16777216) (hs : ∀ x ∈ xs, ∀ r, J r → ∃ r1, tg x (wipeE r is) = some r1 ∧ Wp (fun _ _ => False) (te r1) fun y r3 => y = g x ∧ J r3) (he : ∀ r, J r → kl (xs.map g) r) : Wp (fun _ _ => False) (compL is tg yes te xs [] r) kl := by
  simp only [wp_eq] at *
  exact qo_compMD J xs r hJ hl hs he
@[simp] theorem po_cI (p : Prop) (x : Re α) : Wp X (cI p x .no) k = (p ∧ Wp X x k) := by
  simp only [wp_eq, qo_cI]
@[simp] theorem po_lamR {kk : RV → En → Prop} (r : En) (m : Re Fl) : Wp X (lamRes r m) kk = Wp (fun _ _ => False) m fun fl _ => (match fl with
  | .rt rv => kk rv r
  | .nx => kk (.v .none) r
  | _ => False) := by
  simp only [wp_eq, qo_lamR]
@[simp] theorem po_lam {kk : RV → En → Prop} (ns : List Str) (n i : Nat) (br : M Fl) (th : M D) (r : En) : Wp X (cLam ns n i br th r) kk = Wp (fun e _ => e.name ∈ ns ∧ Wp X (lamRes r (br ((List.replicate n Sl.unk).set i (.v (exOf e))))) kk) (th (r.map hideS)) fun _ _ => Wp X (lamRes r (br ((List.replicate n Sl.unk).set i (.v .none)))) kk := by
  simp only [wp_eq, qo_lam]
@[simp] theorem po_try {kk : Fl → En → Prop} (ns : List Str) (j i : Nat) (mb : M Fl) (r : En) : Wp X (sTry ns j i mb r) kk = Wp (fun e r1 => e.name ∈ ns ∧ (match (setN j (.v (exOf e)) r1).bind (setN i (.v (exOf e))) with
  | some r2 => kk .nx (r2.set j .unk)
  | none => False)) (mb r) kk := by
  simp only [wp_eq, qo_try]
end
end Pu
namespace Pu
open PySem L2
variable [TabT]
/-! ### comprehensions of pure members, by the surroundings themselves -/
/-! ### what can be told as a text -/
def Rq (dp bk : Nat) (d : D) : Prop := pln d = true ∧ d.depth ≤ dp ∧ d.bulk ≤ bk
theorem Rq.int {i : Int} (h : i.natAbs < 2 ^ 1900) : Rq 1 0 (.int i) := ⟨decide_eq_true h, by simp [PyData.depth], by simp [PyData.bulk]⟩
theorem Rq.mono {a b a' b' : Nat} {d : D} (h : Rq a b d) (h1 : a ≤ a') (h2 : b ≤ b') : Rq a' b' d := ⟨h.1, Nat.le_trans h.2.1 h1, Nat.le_trans h.2.2 h2⟩
theorem Rq.all {dp bk n : Nat} {ds : List D} (hl : ds.length ≤ n) (h : ∀ d ∈ ds, Rq dp bk d) : plnAll ds = true ∧ PyData.depthAll ds ≤ dp ∧ PyData.bulkAll ds ≤ (bk + 1) * n := by
  have e : ds.map (fun d : D => d) = ds := by simp
  have h1 := plnAll_map (fun d : D => d) ds fun d hd => (h d hd).1
  have h2 := depthAll_map (fun d : D => d) dp ds fun d hd => (h d hd).2.1
  have h3 := bulkAll_map (fun d : D => d) bk ds fun d hd => (h d hd).2.2
  rw [e] at h1 h2 h3
  exact ⟨h1, h2, Nat.le_trans h3 (Nat.mul_le_mul_left _ hl)⟩
theorem Rq.tup {dp bk n : Nat} {ds : List D} (hl : ds.length ≤ n) (h : ∀ d ∈ ds, Rq dp bk d) : Rq (dp + 1) ((bk + 1) * n) (.tuple ds) := by
  obtain ⟨h1, h2, h3⟩ := Rq.all hl h
  exact ⟨h1, by simp only [PyData.depth]; omega, by simp only [PyData.bulk]; exact h3⟩
theorem Rq.lst {dp bk n : Nat} {ds : List D} (hl : ds.length ≤ n) (h : ∀ d ∈ ds, Rq dp bk d) : Rq (dp + 1) ((bk + 1) * n) (.list ds) := by
  obtain ⟨h1, h2, h3⟩ := Rq.all hl h
  exact ⟨h1, by simp only [PyData.depth]; omega, by simp only [PyData.bulk]; exact h3⟩
@[simp] theorem eRemove_ap (i : Nat) (m : M D) (r : En) : eRemove i m r = (match getC i r with
  | some (.l _) => (m r).bind fun d r => match getC i r with
    | some (.l ds) => cI (SeqAt.shaped d = true ∧ SeqAt.shaped (.list ds) = true ∧ (SeqAt.dataPlace ds d).isSome = true) (.ok .none (putC i (.l (ds.eraseIdx ((SeqAt.dataPlace ds d).getD 0))) r)) .no
    | _ => .no
  | _ => .no) := rfl
@[simp] theorem eCount_ap (mo me : M D) (r : En) : eCount mo me r = (mo r).bind fun d r => (match d with
  | .list ds => (me r).bind fun b r => M.opt (countD (.list ds) b) r
  | _ => .no) := by
  show (mo r).bind (fun d => (match d with
  | .list ds => me.bind fun b => M.opt (countD (.list ds) b)
  | _ => M.no)) = _
  congr 1
  funext d r
  cases d <;> rfl
@[simp] theorem eGet_ap (i : Nat) (mk mx : M D) (r : En) : eGet i mk mx r = (match getC i r with
  | some (.d _) => (mk r).bind fun k r => (mx r).bind fun x r => (match getC i r with
    | some (.d kvs) => (match keyD k with
      | some y => .ok ((vK kvs y).getD x) r
      | none => .no)
    | _ => .no)
  | _ => .no) := rfl
@[simp] theorem eClear_ap (i : Nat) (r : En) : eClear i r = (match getC i r with
  | some (.l _) => .ok .none (putC i (.l []) r)
  | _ => .no) := rfl
@[simp] theorem zipW_tl (a b : List D) : zipW [.tuple a, .list b] = some (zipD a b) := rfl
@[simp] theorem zipW_ll (a b : List D) : zipW [.list a, .list b] = some (zipD a b) := rfl
@[simp] theorem eReprS_ap (i : Nat) (r : En) : eReprS i r = (match getC i r with
  | some (.l ds) => M.opt (reprD (.list ds)) r
  | some (.d _) => .no
  | some (.t _) => .no
  | some (.n (.l its)) => M.opt (reprD (.list (its.map Im.data))) r
  | some (.n _) => .no
  | none => nry (one reprD) (aCons (getS i) aNil) r) := rfl
@[simp] theorem eIsiS_ap (T : String) (i : Nat) (r : En) : eIsiS T i r = (match getC i r with
  | some (.l ds) => M.opt ((kitB "list" T).map PyData.bool) r
  | some (.d _) => M.opt ((kitB "dict" T).map PyData.bool) r
  | some (.t _) => .no
  | some (.n (.l _)) => M.opt ((kitB "list" T).map PyData.bool) r
  | some (.n _) => .no
  | none => una (isiD T) (getS i) r) := rfl
@[simp] theorem eTupS_ap (i : Nat) (r : En) : eTupS i r = (match getC i r with
  | some (.l ds) => .ok (.tuple ds) r
  | some (.d _) => .no
  | some (.t _) => .no
  | some (.n _) => .no
  | none => nry (one tupD) (aCons (getS i) aNil) r) := rfl
@[simp] theorem kit_ll : kitB "list" "list" = some true := by kernel_rfl
@[simp] theorem kit_lt : kitB "list" "tuple" = some false := by kernel_rfl
@[simp] theorem oListK_ap (i : Nat) (r : En) : oListK i r = (match getC i r with
  | some (.d kvs) => .ok (.o (.l (kvs.map fun kv => kD kv.1))) r
  | some (.l _) => .no
  | some (.t _) => .no
  | some (.n _) => .no
  | none => nryO listD (aCons (getS i) aNil) r) := rfl
@[simp] theorem oSortK_ap (i : Nat) (r : En) : oSortK i r = (match getC i r with
  | some (.d kvs) => (match intKs (kvs.map (·.1)) with
    | some is => cI (is.length < 64) (.ok (.o (.l ((isort is).map .int))) r) .no
    | none => .no)
  | some (.l _) => .no
  | some (.t _) => .no
  | some (.n _) => .no
  | none => nryO sortD (aCons (getS i) aNil) r) := rfl
@[simp] theorem maxdD_l (ns : List Int) (d : Int) : maxdD (.list (ns.map .int)) (.int d) = some (.int (maxI d ns)) := by
  show (intsOf (ns.map PyData.int)).map (fun ns => PyData.int (maxI d ns)) = _
  rw [intsOf_mp]
  rfl
@[simp] theorem noL_i (i : Int) : noL (.int i) = true := rfl
@[simp] theorem noL_t (ds : List D) : noL (.tuple ds) = noLAll ds := rfl
@[simp] theorem noL_nil : noLAll [] = true := rfl
@[simp] theorem kD_l (i : Int) : kD (.inl i) = .int i := rfl
/-! ### what can be told as a text, of short numbers, much of it -/
def Rs (dp bk : Nat) (d : D) : Prop := (pln d = true ∧ d.leavesShort 60 = true) ∧ d.depth ≤ dp ∧ d.bulk ≤ bk
theorem leaves_all {k : Nat} : ∀ {ds : List D}, (∀ d ∈ ds, d.leavesShort k = true) → PyData.leavesShortAll k ds = true
  | [], _ => rfl
  | d :: ds, h => Bool.and_eq_true_iff.mpr ⟨h d (List.mem_cons_self ..), leaves_all fun x hx => h x (List.mem_cons_of_mem _ hx)⟩
theorem Rs.int {i : Int} (h : i.natAbs < 2 ^ 50) : Rs 1 0 (.int i) := ⟨⟨decide_eq_true (Nat.lt_of_lt_of_le h (Nat.pow_le_pow_right (by decide) (by decide))), decide_eq_true (by
  show (Str.ofString (toString i)).length ≤ 60
  rw [ofString_length]
  have := int_text_length_le (k := 50) (by decide) (PySem.Flt.log2_lt_of (by decide) h)
  omega)⟩, by simp [PyData.depth], by simp [PyData.bulk]⟩
theorem Rs.mono {a b a' b' : Nat} {d : D} (h : Rs a b d) (h1 : a ≤ a') (h2 : b ≤ b') : Rs a' b' d := ⟨h.1, Nat.le_trans h.2.1 h1, Nat.le_trans h.2.2 h2⟩
theorem Rs.all {dp bk n : Nat} {ds : List D} (hl : ds.length ≤ n) (h : ∀ d ∈ ds, Rs dp bk d) : plnAll ds = true ∧ PyData.leavesShortAll 60 ds = true ∧ PyData.depthAll ds ≤ dp ∧ PyData.bulkAll ds ≤ (bk + 1) * n := by
  have e : ds.map (fun d : D => d) = ds := by simp
  have h1 := plnAll_map (fun d : D => d) ds fun d hd => (h d hd).1.1
  have h2 := depthAll_map (fun d : D => d) dp ds fun d hd => (h d hd).2.1
  have h3 := bulkAll_map (fun d : D => d) bk ds fun d hd => (h d hd).2.2
  rw [e] at h1 h2 h3
  exact ⟨h1, leaves_all fun d hd => (h d hd).1.2, h2, Nat.le_trans h3 (Nat.mul_le_mul_left _ hl)⟩
theorem Rs.tup {dp bk n : Nat} {ds : List D} (hl : ds.length ≤ n) (h : ∀ d ∈ ds, Rs dp bk d) : Rs (dp + 1) ((bk + 1) * n) (.tuple ds) := by
  obtain ⟨h1, h4, h2, h3⟩ := Rs.all hl h
  exact ⟨⟨h1, h4⟩, by simp only [PyData.depth]; omega, by simp only [PyData.bulk]; exact h3⟩
theorem Rs.lst {dp bk n : Nat} {ds : List D} (hl : ds.length ≤ n) (h : ∀ d ∈ ds, Rs dp bk d) : Rs (dp + 1) ((bk + 1) * n) (.list ds) := by
  obtain ⟨h1, h4, h2, h3⟩ := Rs.all hl h
  exact ⟨⟨h1, h4⟩, by simp only [PyData.depth]; omega, by simp only [PyData.bulk]; exact h3⟩
theorem Rs.shaped {dp bk : Nat} {d : D} (h : Rs dp bk d) (h1 : dp ≤ 64) : SeqAt.shaped d = true := pln_shaped h.1.1 (Nat.le_trans h.2.1 h1)
theorem Rq.shaped {dp bk : Nat} {d : D} (h : Rq dp bk d) (h1 : dp ≤ 64) : SeqAt.shaped d = true := pln_shaped h.1 (Nat.le_trans h.2.1 h1)
theorem fdivLD_iff (i j : Int) (d : D) : (fdivLD (.int i) (.int j) = some d) = (j ≠ 0 ∧ .int (i.fdiv j) = d) := by
  show (cI (j ≠ 0) (some (PyData.int (i.fdiv j))) none = some d) = _
  rw [cI_eq]
  exact ite_some _ _ _
@[simp] theorem po_fdivL {X : Exn → En → Prop} {kd : D → En → Prop} (i j : Int) (r : En) : Wp X (M.opt (fdivLD (.int i) (.int j)) r) kd = (j ≠ 0 ∧ kd (.int (i.fdiv j)) r) := by
  simp only [wp_eq]
  rw [qo_opt]
  simp only [fdivLD_iff]
  exact propext ⟨fun ⟨_, ⟨h, e⟩, q⟩ => ⟨h, by rw [e]; exact q⟩, fun ⟨h, q⟩ => ⟨_, ⟨h, rfl⟩, q⟩⟩
end Pu
namespace Pu
open PySem PySem.Spec PyProof.Rows L2
variable [TabT]
/-! ### a comprehension whose member may raise -/
omit [TabT] in
theorem note_fr {e : Value} {env env' : Env} (h : env.frame = env'.frame) : noteFrame e env = noteFrame e env' := by
  unfold PySem.noteFrame PySem.frameOf
  rw [h]
omit [TabT] in
theorem rawInt_ne {a b : Addr} (h : a ≠ b) : ¬ ((rawInt a == rawInt b) = true) := by
  intro z
  have z : rawInt a = rawInt b := by simpa using z
  unfold rawInt at z
  injection z with z
  exact h (Int.ofNat.inj z)
section
variable {M : Model} {A : Around} {E : Value → Shared → Prop} {s : Shared} {Z : Obj → Prop} {B : Heap} {env : Env} {outer : List Env} {L a : Addr}
omit [TabT] in
/-- one that flies, or that another place holds, is noted here -/
theorem look_any {fl : Value} {Q : Unit → Shared → Prop} (hZ : HandSPX.Steady Z) (hfr : A.frames = some (env :: outer)) (hf : env.frame = some L) (hB : B.StaysIn s.heap) (hn : B.get? a = none) (hl : s.heap.FunFrames B (env :: outer)) (ht : HandSPX.TracedZ s.heap B a Z fl) (hne : ¬ ((fl == rawInt L) = true))
    (hQ : ∀ h', HandSPX.HeldZ B (env :: outer) a Z L h' → s.heap.UpToSlots h' → Q () { s with heap := h' }) : wpAny M A (noteFrame (.ref a) env) Q E s := by
  obtain ⟨oe, vs, T, oT, ts, he, hz, hd, h1, hnT, hTe, hT, hdT, h3⟩ := ht
  unfold noteFrame
  simp only [hf]
  refine wpAny_bind (wpAny_field he hd h1 ?_)
  rw [if_pos (show (Value.ref T != Value.none) = true from by simp)]
  refine wpAny_bind (wpAny_field hT hdT h3 ?_)
  rw [if_neg hne]
  refine wpAny_bind (wpAny_setField hT hdT (Array.getElem?_eq_some_iff.mp h3).1 ?_)
  have oth : ∀ b, b ≠ T → (s.heap.update T (Obj.mapFields (·.setIfInBounds 3 Value.none))).get? b = s.heap.get? b := fun b hb => Heap.get?_update_other _ _ (Ne.symm hb)
  have nr : ∀ b o, s.heap.get? b = some o → (∀ vs, o.data ≠ .fields vs) → b ≠ T := fun b o hb hnf q => by
    rw [q, hT] at hb
    cases hb
    exact hnf ts hdT
  refine HandSPX.wpAny_entryZ hZ hfr (hl.of_keeps fun b o hb hnf => ⟨o, (oth b (nr b o hb hnf)).trans hb, rfl⟩) hf ((oth a (Ne.symm hTe)).trans he)
    (fun b o hbo => (oth b fun q => by rw [q, hnT] at hbo; cases hbo).trans (hB b o hbo)) hn hd (Array.getElem?_eq_some_iff.mp h1).1 hz fun h' ⟨x1, x2, x3, x4⟩ => ?_
  exact hQ h' ⟨x1, hn, x2, x3⟩ fun b o hb hnf => x4 b o ((oth b (nr b o hb hnf)).trans hb) hnf
end
section
variable {X : Cx}
omit [TabT] in
/-- what a member raises goes on in the def -/
theorem blk_ex {Wx : WX} {pins pn : List (Addr × Obj)} {σ : L2.St} {H3 : Hp} {s3 s' : Shared} {scope : Scope} {cl : List (Str × Addr)} {ce : Env} {fp : List Addr} {u : Value} {xe : Value → Shared → Prop} {use : Option (Value → Sem Unit)} {Qf : Value → Shared → Prop} {D : Value}
    (hs : X.stack = X.env :: X.outer) (hf : X.env.frame = some X.env.locals) (tk : Takes X Wx) (I3 : Inv X pins σ H3 s3) (hce : ce = compEnvC scope cl s3.heap.objs.size X.env)
    (f3 : ∀ b ∈ fp, FpOk X pins H3 b ∧ b < s3.heap.objs.size) (okB : (X.blk s3 H3 scope ce fp).Ok)
    (x : XE ((X.blk s3 H3 scope ce fp).tr ((X.blk s3 H3 scope ce fp).pn ++ pn) xe) (fun cls d _ H => Wx cls d σ H) u s') :
    notedBy (model X.prog X.w) X.A ce (fun e s' => compEnds (model X.prog X.w) X.A X.xe use Qf D ce (.error e) s') u s' := by
  obtain ⟨a, B, sI, pinsI, σI, HI, cls, d, rfl, JI, nb, up, sky, na, os, ag, w⟩ := x
  have J : Inv (X.blk s3 H3 scope ce fp) pn σI HI sI := JI.ofTry okB
  have J1 : Inv X pins σ HI sI := I3.call' (ch := fp) J.os J.base J.hok J.bare fun b hb => ⟨(f3 b hb).1.2.2.2.1, (f3 b hb).1.2.1, (f3 b hb).1.2.2.2.2.1, (f3 b hb).1.2.2.2.2.2⟩
  have hL : ce.locals = s3.heap.objs.size := by rw [hce]; rfl
  have hF : ce.frame = X.env.frame := by rw [hce]; rfl
  have nC : HI ce.locals = none := J.free
  obtain ⟨m, hns, _⟩ := J.loc
  have hns : sI.heap.Ns ce.locals m := hns
  have fC : FpOk X pins HI ce.locals := I3.fpOk (Nat.le_of_eq hL.symm) nC
  obtain ⟨f0, f1, f2, f3', f4, f5⟩ := fC
  have hfr : X.A.frames = some (X.env :: X.outer) := by rw [I3.ok.frames, hs]
  have nb : ∀ b o, sI.heap.get? b = some o → b ∉ frs X.stack → B.get? b = some o := nb
  have sky : Sky B X.stack a (Zc cls d) ce.locals s'.heap := sky
  have cfs : ce.locals ∉ frs X.stack := fun hm => by
    rcases List.mem_cons.mp (I3.stkSub _ hm) with z | z
    · exact f1 z
    · exact f2 z
  -- noted, it is let go
  have fin : ∀ h', HandSPX.HeldZ B (X.env :: X.outer) a (Zc cls d) X.env.locals h' → s'.heap.UpToSlots h' → CompFails (model X.prog X.w) X.A X.xe ce (.ref a) { s' with heap := h' } := fun h' hh up' => by
    refine ⟨m, Heap.UpToSlots.ns (up.trans up') hns, fun h2 m2 hn2 sb => ?_⟩
    obtain ⟨hB, hn, hl, oe, vs, T, oT, ts, he, hz, hd, h1, hnT, hTe, hT, hdT, ht3⟩ := hh
    have hnsC : h'.Ns ce.locals m := Heap.UpToSlots.ns (up.trans up') hns
    obtain ⟨oC, esC, epC, hoC, hdC, _⟩ := hnsC
    have aC : a ≠ ce.locals := fun z => by
      rw [z, hoC] at he
      cases he
      rw [hdC] at hd
      cases hd
    have TC : T ≠ ce.locals := fun z => by
      rw [z, hoC] at hT
      cases hT
      rw [hdC] at hdT
      cases hdT
    have he2 : h2.get? a = some oe := (sb.2 a aC).trans he
    have hT2 : h2.get? T = some oT := (sb.2 T TC).trans hT
    have bB : ∀ b o, (PySem.W.hideAll B [ce.locals]).get? b = some o → b ≠ ce.locals ∧ B.get? b = some o := fun b o e => ⟨fun z => Option.some_ne_none _ (e.symm.trans (PySem.W.hideAll_none [ce.locals] (List.mem_singleton.mpr z))), PySem.W.of_hideAll _ e⟩
    have bI : ∀ b o, (PySem.W.hideAll sI.heap [ce.locals]).get? b = some o → b ≠ ce.locals ∧ sI.heap.get? b = some o := fun b o e => ⟨fun z => Option.some_ne_none _ (e.symm.trans (PySem.W.hideAll_none [ce.locals] (List.mem_singleton.mpr z))), PySem.W.of_hideAll _ e⟩
    have nB : ∀ b, B.get? b = none → (PySem.W.hideAll B [ce.locals]).get? b = none := fun b hb => by
      cases q : (PySem.W.hideAll B [ce.locals]).get? b with
      | none => rfl
      | some o =>
        rw [(bB b o q).2] at hb
        cases hb
    have J2 : Inv X pins σ HI { sI with heap := PySem.W.hideAll sI.heap [ce.locals], toks := sI.toks } := J1.turned (fun b o hb e => PySem.W.hideAll_get _ e (by simpa using hb)) f0 f1 f3' f4 f5
    have up2 : (PySem.W.hideAll sI.heap [ce.locals]).UpToSlots h2 := fun b o e hnf => by
      obtain ⟨hb, e⟩ := bI b o e
      obtain ⟨sl, q⟩ := (up.trans up') b o e hnf
      exact ⟨sl, (sb.2 b hb).trans q⟩
    have held : HandSPX.HeldZ (PySem.W.hideAll B [ce.locals]) (X.env :: X.outer) a (Zc cls d) X.env.locals h2 := by
      refine ⟨fun b o e => ?_, nB a hn, ?_, oe, vs, T, oT, ts, he2, hz, hd, h1, nB T hnT, hTe, hT2, hdT, ht3⟩
      · obtain ⟨hb, e⟩ := bB b o e
        exact (sb.2 b hb).trans (hB b o e)
      · have k1 := J2.stack
        rw [hs] at k1
        refine funFrames_none (k1.of_keeps fun b o e hnf => ?_) fun b hb => nB b (hl.mem hb).1
        obtain ⟨sl, q⟩ := up2 b o e hnf
        exact ⟨_, q, rfl⟩
    unfold PySem.passOn
    refine wpAny_bind (wpAny_field he2 hd h1 ?_)
    rw [if_neg (by simp)]
    try refine wpAny_bind (wpAny_pure ?_)
    rw [hF, hf]
    refine wpAny_bind (HandSPX.setFlight_onZ (s := { s' with heap := h2 }) held fun h3 hh3 up3 => ?_)
    refine wpAny_throw (tk _ _ ⟨a, PySem.W.hideAll B [ce.locals], { sI with heap := PySem.W.hideAll sI.heap [ce.locals], toks := sI.toks }, pins, σ, HI, cls, d, rfl, J2, fun b o e hb => ?_, up2.trans up3, .inr (.inr (by rw [hs]; exact hh3)), na, os, ag, w⟩)
    obtain ⟨hc, e⟩ := bI b o e
    exact PySem.W.hideAll_get _ (nb b o e hb) (by simpa using hc)
  show wpAny (model X.prog X.w) X.A (noteFrame (.ref a) ce) _ _ s'
  rw [note_fr hF]
  have fin' : ∀ h', HandSPX.HeldZ B (X.env :: X.outer) a (Zc cls d) X.env.locals h' → s'.heap.UpToSlots h' → compEnds (model X.prog X.w) X.A X.xe use Qf D ce (.error (.ref a)) { s' with heap := h' } := fun h' z1 z2 => by
    cases use <;> exact fin h' z1 z2
  rw [hs] at sky
  rcases sky with ⟨hB, hn, hl, oe, vs, he, hz, hd, h1⟩ | ⟨hB, hn, hl, ht⟩ | ⟨hB, hn, hl, ht⟩
  · exact HandSPX.look_newZ Zc.steady hfr hl hf he hB hn hd h1 hz fin'
  · exact look_any Zc.steady hfr hf hB hn hl ht (by simp [rawInt]) fin'
  · exact look_any Zc.steady hfr hf hB hn hl ht (rawInt_ne f1) fin'
omit [TabT] in
/-- [elt for target in iter if ..], elt may raise -/
def tLcE (Wx : WX) (wi : TI) (g : TG) (tt : TT) (te : WX → TE) (vs : List Nat) : TE := fun σ H Q => wi σ H fun J H1 => ∀ D, H1 D = none → ∃ W : Nat → Nat → Hp → Prop, (∃ m, W 0 m (upd H1 D (.lst []))) ∧ ∀ i m H, W i m H →
  (J.stop i H ∧ Q (.ref D) H) ∨ (J.go i H ∧ ∃ Nx : Hp → Prop, (∀ H', Nx H' → ∃ m', m' < m ∧ W (i + 1) m' H') ∧ ∀ x H', J.yld i H x H' → g x (wipe σ vs) H' fun σ2 H2 => wipe σ2 vs = wipe σ vs ∧ tt σ2 H2 fun b H3 =>
    if b = true then te (fun cls d _ H => Wx cls d σ H) σ2 H3 fun y H4 => ∃ acc, H4 D = some (.lst acc) ∧ acc.length < sizeLine ∧ Nx (upd H4 D (.lst (acc ++ [y]))) else Nx H3)
end
end Pu
namespace Pu
open PySem PySem.Spec PyProof.Rows L2
variable [TabT]
def keepV : Sl → Sl
  | .v d => .v d
  | _ => .unk
def compLE (is : List Nat) (tg : Tg) (te : M D) : List D → List D → M (List D)
  | [], acc, r => .ok acc r
  | x :: xs, acc, r => match tg x (wipeE r is) with
    | none => .no
    | some r1 => match te r1 with
      | .ok y r3 => if acc.length < 16777216 then compLE is tg te xs (acc ++ [y]) r3 else .no
      | .ex e r3 => .ex e r3
      | .no => .no
def oCompE (src : M (List D)) (is : List Nat) (tg : Tg) (te : M D) : M RV := src.bind fun xs r => if noOwn r is = true then (match compLE is tg te xs [] r with
  | .ok ys q => .ok (.o (.l ys)) (backE r (wipeE q is) is)
  | .ex e _ => .ex e (r.map keepV)
  | .no => .no) else .no
section
variable {K : PySem.W.Frag} {pa : Nat → Addr} {H0 F0 F H F' H' : Hp} {st st' : L2.St} {r r' : En}
omit [TabT] in
theorem keepV_get {j : Nat} {s : Sl} (h : (r.map keepV)[j]? = some s) : s = .unk ∨ ∃ d, s = .v d ∧ r[j]? = some (.v d) := by
  rw [List.getElem?_map] at h
  obtain ⟨x, hx, rfl⟩ := Option.map_eq_some_iff.mp h
  cases x with
  | v d => exact .inr ⟨d, rfl, hx⟩
  | _ => exact .inl rfl
/-- data alone is kept -/
theorem Ok.keepV (k : Ok K pa H0 F0 F H st r) (e : Ex F F') (k2 : Ok K pa H0 F0 F' H' st' r') : Ok K pa H0 F0 F' H' st (r.map keepV) where
  hH := k2.hH
  fF := k2.fF
  fH := k2.fH
  sep := k2.sep
  tb := k2.tb
  len := by rw [List.length_map]; exact k.len
  sl := fun j s h n => by
    rcases keepV_get h with rfl | ⟨d, rfl, hr⟩
    · exact absurd rfl n
    · obtain ⟨v, z1, z2⟩ := k.sl j _ hr (fun z => nomatch z)
      exact ⟨v, z1, dp_mono e z2⟩
  dis := fun i j s q2 c c' a ne g1 g2 o1 o2 => by
    rcases keepV_get g1 with rfl | ⟨d, rfl, _⟩ <;> exact nomatch o1
  inn := fun i s c a b g1 o1 => by
    rcases keepV_get g1 with rfl | ⟨d, rfl, _⟩ <;> exact nomatch o1
end
section
variable {X : Cx} {c : Cc}
/-- the block's reading from the mirror -/
theorem lc_okE {src : M (List D)} {is js : List Nat} {t : Tg} {te : M D} {st : L2.St} {H : Hp} {Q : VK} (hjs : ∀ j ∈ js, j ∈ is) (h : tO c (oCompE src is t te) st H Q) :
    tLcE c.W (iM c src) (gM c.K js t) (tT c.nox yes) (fun W => tM { c with W := W } te) is st H Q := by
  obtain ⟨pa, H0, F0, F, r, ok, po⟩ := h
  refine ⟨pa, H0, F0, F, r, ok, (Po.bind po).mono (fun _ _ x => x) fun xs r1 q F1 H1 J k1 e1 y Dd nD => ?_⟩
  by_cases hn : noOwn r1 is = true
  case neg =>
    rw [if_neg hn] at q
    exact q.elim
  rw [if_pos hn] at q
  generalize hR : compLE is t te xs [] r1 = R at q
  have n0 : H0 Dd = none := k1.hH.nn nD
  have nF1 : F1 Dd = none := k1.fH.nn nD
  have nF0 : F0 Dd = none := k1.fF.nn nF1
  have kw := (k1.wiped is)
  refine ⟨fun i m H => i + m = xs.length ∧ ∃ F' q acc vs, Ok c.K pa H0 F0 F' H (wipe st is) (wipeE q is) ∧ Ex F1 F' ∧ H Dd = some (.lst vs) ∧ RpAll c.K F' vs acc ∧ F' Dd = none ∧ Nob H (wipe st is) (wipeE q is) Dd ∧ compLE is t te (xs.drop i) acc q = R,
    ⟨xs.length, by omega, F1, r1, [], [], kw.aside n0 nF1 (kw.nobody nD) (tabs_new kw.tb nD), Ex.refl F1, upd_same, .nil, nF1, (kw.nobody nD).upd, hR⟩, fun i m H hW => ?_⟩
  obtain ⟨hm, F', q', acc, vs, k, e, hD, hv, nF, nO, hc⟩ := hW
  by_cases hl : i < xs.length
  · have hx : xs[i]? = some xs[i] := List.getElem?_eq_getElem hl
    rw [drop_cons hx] at hc
    unfold compLE at hc
    cases ht : t xs[i] (wipeE q' is) with
    | none =>
      rw [ht] at hc
      subst hc
      exact q.elim
    | some r2 =>
      rw [ht] at hc
      have hc : (match te r2 with
        | .ok y r3 => if acc.length < 16777216 then compLE is t te (xs.drop (i + 1)) (acc ++ [y]) r3 else .no
        | .ex e r3 => .ex e r3
        | .no => .no) = R := hc
      refine .inr ⟨y.go i H hl (e.trans k.fH), fun H2 => ∃ F' q acc vs, Ok c.K pa H0 F0 F' H2 (wipe st is) (wipeE q is) ∧ Ex F1 F' ∧ H2 Dd = some (.lst vs) ∧ RpAll c.K F' vs acc ∧ F' Dd = none ∧ Nob H2 (wipe st is) (wipeE q is) Dd ∧ compLE is t te (xs.drop (i + 1)) acc q = R,
        fun H2 z => ⟨m - 1, by omega, by omega, z⟩, fun x H2 hy => ?_⟩
      have kf : Ok c.K pa (upd H0 Dd (.lst vs)) F0 F' H (wipe st is) (wipeE q' is) := k.frame ⟨fun a o z nt => by
          by_cases ha : a = Dd
          · subst ha
            rw [upd_same] at z
            rw [hD]
            exact z
          · rw [upd_ne ha] at z
            exact k.hH.at_ a o z nt, fun a ps z => by
          by_cases ha : a = Dd
          · subst ha
            rw [upd_same] at z
            cases z
          · rw [upd_ne ha] at z
            exact k.hH.tb a ps z⟩ (fun a z1 z2 => by
          by_cases ha : a = Dd
          · subst ha
            exact absurd nF z2
          · rw [upd_ne ha] at z1
            exact k.sep a z1 z2) (fun j s ct a hj hct hst => by
          obtain ⟨na, ni⟩ := nO j s ct a hj hct hst
          rw [upd_ne na]
          obtain ⟨a', g1, g2, g3, g4⟩ := k.ownd hj hct
          rw [hst] at g1
          cases g1
          exact ⟨g3, fun b hb => by
            have nb : b ≠ Dd := fun z => ni (z ▸ hb)
            rw [upd_ne nb]
            exact (k.inn j s ct a b hj hct hst hb).2.1⟩)
      obtain ⟨F2, k2, e2, dp2⟩ := y.step kf e hx hy
      have unframe : ∀ {F3 H3 : Hp} {st3 : L2.St} {r3 : En}, Ok c.K pa (upd H0 Dd (.lst vs)) F0 F3 H3 st3 r3 → Ok c.K pa H0 F0 F3 H3 st3 r3 ∧ H3 Dd = some (.lst vs) ∧ F3 Dd = none ∧ Nob H3 st3 r3 Dd := fun {F3 H3 st3 r3} k3 => by
        have h0 : Ex H0 (upd H0 Dd (.lst vs)) := Ex.new n0
        refine ⟨k3.frame (h0.trans k3.hH) (fun a z1 z2 => k3.sep a (by
          cases hz : H0 a with
          | none => exact absurd hz z1
          | some o => exact (h0.some hz).elim fun _ q => ne_none q) z2) (fun j s ct a hj hct hst => ?_), k3.hH.at_ Dd _ upd_same (fun ps z => nomatch z), none_of_not fun z => k3.sep Dd (ne_none upd_same) z nF0, fun j s ct a hj hct hst => ⟨?_, ?_⟩⟩
        · obtain ⟨a', g1, g2, g3, g4⟩ := k3.ownd hj hct
          rw [hst] at g1
          cases g1
          exact ⟨h0.nn g3, fun b hb => h0.nn (k3.inn j s ct a b hj hct hst hb).2.1⟩
        · obtain ⟨a', g1, g2, g3, g4⟩ := k3.ownd hj hct
          rw [hst] at g1
          cases g1
          intro z
          subst z
          rw [upd_same] at g3
          cases g3
        · intro z
          have g3 := (k3.inn j s ct a Dd hj hct hst z).2.1
          rw [upd_same] at g3
          cases g3
      refine ⟨pa, _, F0, F2, _, xs[i], r2, k2, dp2, ht, fun st3 k3 ag => ?_⟩
      have hw : wipe st3 is = wipe st is := wipe_eq (by rw [ag.1, wipe_length]) fun j hj => ag.2 j fun z => hj (hjs j z)
      refine ⟨hw, pa, _, F0, F2, r2, k3, ?_⟩
      intro F4 H4 k4 e4
      show tM { c with W := _ } te st3 H4 _
      refine ⟨pa, _, F0, F4, r2, k4, ?_⟩
      cases hte : te r2 with
      | no =>
        rw [hte] at hc
        subst hc
        exact q.elim
      | ex ee r3 =>
        rw [hte] at hc
        subst hc
        intro F5 H5 st5 cls dd k5 e5 xo
        have e15 : Ex F1 F5 := ((e.trans e2).trans e4).trans e5
        exact q F5 H5 st cls dd (k1.keepV e15 (unframe k5).1) (e1.trans e15) xo
      | ok yv r3 =>
        rw [hte] at hc
        by_cases h3 : acc.length < 16777216
        case neg =>
          have hc : (if acc.length < 16777216 then compLE is t te (xs.drop (i + 1)) (acc ++ [yv]) r3 else .no) = R := hc
          rw [if_neg h3] at hc
          subst hc
          exact q.elim
        have hc : (if acc.length < 16777216 then compLE is t te (xs.drop (i + 1)) (acc ++ [yv]) r3 else .no) = R := hc
        rw [if_pos h3] at hc
        intro F5 H5 v k5 e5 dp5
        obtain ⟨k6, hD6, nF6, nO6⟩ := unframe k5
        refine ⟨vs, hD6, by rw [dpa_len hv, sizeLine_eq]; exact h3, F5, r3, acc ++ [yv], vs ++ [v], ?_, ((e.trans e2).trans e4).trans e5, upd_same, dpa_app (dpa_mono ((e2.trans e4).trans e5) hv) (.cons dp5 .nil), nF6, ?_, hc⟩
        · have k7 := (k6.aside n0 nF6 nO6 (o := .lst (vs ++ [v])) (tabs_lst k6.tb hD6)).wiped is
          rw [hw] at k7
          exact k7
        · rw [← hw]
          exact (nO6.wiped is).upd
  · have ei : i = xs.length := by omega
    subst ei
    rw [List.drop_length] at hc
    have hc : Re.ok acc q' = R := hc
    subst hc
    have kb := k1.back hn e k
    refine .inl ⟨y.stop H (e.trans k.fH), q F' H _ kb (e1.trans e) ⟨Dd, rfl, nF, n0, ⟨vs, hD, hv⟩, .l fun j s ct a hj hct hst => ?_⟩⟩
    rw [backE_get] at hj
    by_cases hji : j ∈ is
    · rw [if_pos hji] at hj
      split at hj
      · cases hj
        have hz := List.all_eq_true.mp hn j hji
        rw [List.getD_eq_getElem?_getD] at hct
        cases hr : r1[j]? with
        | none =>
          rw [hr] at hz
          cases hz
        | some x =>
          rw [hr] at hz hct
          have hz : x.own.isNone = true := hz
          have hct : x.own = some ct := hct
          rw [hct] at hz
          cases hz
      · cases hj
    · rw [if_neg hji] at hj
      exact nO j s ct a hj hct (by rw [wipe_get, if_neg hji]; exact hst)
end
/-! the plain side -/
section
variable {X : Exn → En → Prop}
@[simp] theorem po_compE {kk : RV → En → Prop} (src : M (List D)) (is : List Nat) (tg : Tg) (te : M D) (r : En) : Wp X (oCompE src is tg te r) kk = Wp X (src r) fun xs r => noOwn r is = true ∧ Wp (fun e _ => X e (r.map keepV)) (compLE is tg te xs [] r) fun ys q => kk (.o (.l ys)) (backE r (wipeE q is) is) := by
  simp only [wp_eq]
  show Po X ((src r).bind _) kk = _
  cases src r with
  | no => rfl
  | ex e q => rfl
  | ok xs r =>
    show Po X (if noOwn r is = true then _ else _) kk = (noOwn r is = true ∧ _)
    by_cases h : noOwn r is = true
    · rw [if_pos h]
      cases compLE is tg te xs [] r with
      | ok ys q => exact propext ⟨fun z => ⟨h, z⟩, fun z => z.2⟩
      | ex e q => exact propext ⟨fun z => ⟨h, z⟩, fun z => z.2⟩
      | no => exact propext ⟨fun z => z.elim, fun z => z.2.elim⟩
    · rw [if_neg h]
      exact propext ⟨fun z => z.elim, fun z => absurd z.1 h⟩
/-- each member in turn: it is told, or the whole raises what it raises -/
theorem po_compEM {γ : Type} {kl : List D → En → Prop} {is : List Nat} {tg : Tg} {te : M D} {f : γ → D} (J : List D → En → Prop) : ∀ (xs : List γ) (acc : List D) (r : En), J acc r → acc.length + xs.length ≤ 16777216 →
    (∀ done x rest, xs = done ++ x :: rest → ∀ acc2 r, acc2.length = acc.length + done.length → J acc2 r → ∃ r1, tg (f x) (wipeE r is) = some r1 ∧ Wp X (te r1) fun y r3 => J (acc2 ++ [y]) r3) → (∀ acc2 r, acc2.length = acc.length + xs.length → J acc2 r → kl acc2 r) → Wp X (compLE is tg te (xs.map f) acc r) kl
  | [], acc, r, hJ, _, _, he => by
    rw [wp_eq]
    exact he acc r rfl hJ
  | x :: xs, acc, r, hJ, hl, hs, he => by
    obtain ⟨r1, h1, h2⟩ := hs [] x xs rfl acc r rfl hJ
    rw [wp_eq] at h2 ⊢
    rw [List.map_cons]
    unfold compLE
    rw [h1]
    show Po X (match te r1 with
        | .ok y r3 => if acc.length < 16777216 then compLE is tg te (xs.map f) (acc ++ [y]) r3 else .no
        | .ex e r3 => .ex e r3
        | .no => .no) kl
    cases hte : te r1 with
    | no =>
      rw [hte] at h2
      exact h2
    | ex e r3 =>
      rw [hte] at h2
      exact h2
    | ok y r3 =>
      rw [hte] at h2
      show Po X (if acc.length < 16777216 then _ else _) kl
      rw [List.length_cons] at hl
      rw [if_pos (by omega), ← wp_eq]
      refine po_compEM J xs (acc ++ [y]) r3 h2 (by rw [List.length_append, List.length_singleton]; omega) (fun done z rest e acc2 r hl2 hj => ?_) fun acc2 r hl2 hj => he acc2 r (by rw [hl2, List.length_append, List.length_singleton, List.length_cons]; omega) hj
      exact hs (x :: done) z rest (by rw [e]; rfl) acc2 r (by rw [hl2, List.length_append, List.length_singleton, List.length_cons]; omega) hj
end
end Pu
namespace Pu
open PySem PySem.Spec PyProof.Rows L2
/-! ### a lambda with one parameter -/
structure LamS1 (sc scope : Scope) (p : Str) : Prop where
  kind : scope.kind = .function
  co : scope.isCoroutine = false
  gen : scope.isGenerator = false
  nocell : ∀ y ∈ scope.names, y.2 ≠ .cell
  own : ∀ y ∈ scope.names, y.2 = .local → y.1 = p
  par : scope.names.lookup p = some .local
  free : ∀ y ∈ scope.names, y.2 = .free → sc.names.lookup y.1 = some .cell ∨ sc.names.lookup y.1 = some .free
def lamSB1 (sc scope : Scope) (p : Str) : Bool :=
  decide (scope.kind = .function) && !scope.isCoroutine && !scope.isGenerator && decide (scope.names.lookup p = some .local) && scope.names.all fun y => !decide (y.2 = .cell) && (!decide (y.2 = .local) || decide (y.1 = p)) && (!decide (y.2 = .free) || decide (sc.names.lookup y.1 = some .cell) || decide (sc.names.lookup y.1 = some .free))
theorem lamS1_by {sc scope : Scope} {p : Str} (h : lamSB1 sc scope p = true) : LamS1 sc scope p := by
  unfold lamSB1 at h
  simp only [Bool.and_eq_true, Bool.or_eq_true, Bool.not_eq_true', decide_eq_true_eq, decide_eq_false_iff_not, List.all_eq_true] at h
  obtain ⟨⟨⟨⟨h1, h2⟩, h3⟩, h0⟩, h4⟩ := h
  refine ⟨h1, h2, h3, fun y hy => (h4 y hy).1.1, fun y hy e => ?_, h0, fun y hy e => ?_⟩
  · rcases (h4 y hy).1.2 with z | z
    · exact absurd e z
    · exact z
  · rcases (h4 y hy).2 with (z | z) | z
    · exact absurd e z
    · exact .inl z
    · exact .inr z
theorem LamS1.has {X : Cx} {scope : Scope} {p : Str} (L : LamS1 X.env.scope scope p) (ok : X.Ok) : ∀ y ∈ scope.names, y.2 = .free → ∃ c, X.env.cells.lookup y.1 = some c := fun y hy e => by
  rcases L.free y hy e with k | k
  · exact ok.has _ (.inl k)
  · exact ok.has _ (.inr k)
open LamX
/-- the context of its body -/
def lamCx1 (X : Cx) (A : Around) (outer : List Env) (s : Shared) (H : Hp) (E : XK) (scope : Scope) (f c' : Addr) (p : Str) : Cx :=
  { lamCx X A outer s H E scope f c' with N := X.N ++ [p] }
section
variable {X : Cx} {pins : List (Addr × Obj)} {σ : L2.St} {H HZ : Hp} {s s1 : Shared}
theorem lam_start3 {A : Around} {outer : List Env} {E : XK} {scope : Scope} {f c' : Addr} {h₁ : Heap} {tk : Nat} {p : Str} {v0 : V} {u0 : Value} (I : Inv X pins σ H s) (L : LamS1 X.env.scope scope p) (hp : p ∉ X.N) (r0 : RelV v0 u0) (e0 : Env0 X.prog X.w X.K X.mg X.base A outer s1 HZ) (hd : A.handled = none)
    (un : Un (frs X.stack) [] H HZ s.heap s1.heap) (hns : h₁.Ns s1.heap.objs.size fun y => ([(p, u0)] : List (Str × Value)).reverse.lookup y) (kp : ∀ b o, s1.heap.get? b = some o → h₁.get? b = some o) :
    Inv (lamCx1 X A outer s1 HZ E scope f c' p) [] (σ ++ [some v0]) HZ { s1 with heap := h₁, toks := tk } := by
  have hfree := L.has I.ok
  have cm : ∀ {y c}, (cloFrom X.env.cells scope.names []).lookup y = some c → X.env.cells.lookup y = some c := fun {y c} e => by
    rcases cloFrom_mem (PySem.mem_of_lookup e) with hm | ⟨h1, h2⟩
    · cases hm
    · obtain ⟨c1, hc⟩ := hfree _ h1 rfl
      have hc : X.env.cells.lookup y = some c1 := hc
      have e2 : c = c1 := by
        rw [h2, hc] <;> rfl
      rw [e2]
      exact hc
  have look : ∀ {y}, scope.names.lookup y = some .free → ∃ c, (cloFrom X.env.cells scope.names []).lookup y = some c := fun {y} hl => by
    have hy : (y, NameKind.free) ∈ scope.names := PySem.mem_of_lookup hl
    exact mem_lookup (cloFrom_has (cells := X.env.cells) (acc := []) hy)
  have cellK : ∀ {c : Addr} {v : Option Value}, H c = none → s.heap.IsCell c v → h₁.IsCell c v := fun {c v} n ⟨o, ho, hd⟩ => by
    obtain ⟨sl, q⟩ := un.any ho n (by simp)
    exact ⟨_, kp _ _ q, hd⟩
  have noA : ∀ b : Addr, b ∉ (lamCx1 X A outer s1 HZ E scope f c' p).ex := fun b z => absurd (show b ∈ ([] : List Addr) from z) (by simp)
  have hσ : σ.length = X.N.length := I.len
  refine ⟨⟨e0.mod, L.kind, rfl, rfl, Nat.le_refl _, fun y z c e1 e2 => I.ok.inj y z c (cm e1) (cm e2), fun y hy => ?_, fun y c z _ => ?_, fun _ => hd, Around.frames_deeper e0.frames, .inr ⟨rfl, rfl⟩, fun b z => absurd z (noA b), e0.bs, e0.bsz, fun b _ _ => noA b,
      fun b z => absurd z (noA b), e0.funs, e0.frf⟩,
    rfl, e0.bare, Un.kept kp, ⟨_, hns, fun i y v e1 e2 e3 => ?_⟩, fun y c e => ?_, e0.hok.fresh (Nat.le_refl _), fun y c e => ?_, fun q hq => absurd (show q ∈ ([] : List (Addr × Obj)) ++ [] from hq) (by simp), e0.hok.kept kp, ?_⟩
  · have hy : scope.names.lookup y = some .cell ∨ scope.names.lookup y = some .free := hy
    rcases hy with hy | hy
    · exact absurd rfl (L.nocell _ (PySem.mem_of_lookup hy))
    · exact look hy
  · have z : false = true := z
    cases z
  · replace e1 : (X.N ++ [p])[i]? = some y := e1
    replace e3 : Vis scope y := e3
    by_cases hi : i < X.N.length
    · rw [List.getElem?_append_left hi] at e1
      rw [List.getElem?_append_left (by rw [hσ]; exact hi)] at e2
      rcases e3 with k | k | k
      · have := L.own _ (PySem.mem_of_lookup k) rfl
        have : y = p := this
        subst this
        exact absurd (show y ∈ X.N from List.mem_of_getElem? e1) hp
      · exact absurd rfl (L.nocell _ (PySem.mem_of_lookup k))
      · obtain ⟨m, hn, hl⟩ := I.loc
        have hvis : Vis X.env.scope y := (L.free _ (PySem.mem_of_lookup k) rfl).elim (fun k => .inr (.inl k)) (fun k => .inr (.inr k))
        obtain ⟨w', r, q⟩ := hl i y v e1 e2 hvis
        obtain ⟨c2, h2⟩ := look k
        refine ⟨w', r, .inr ⟨.inr k, c2, h2, ?_⟩⟩
        have c1 := cm h2
        rcases q with ⟨k', _⟩ | ⟨_, c3, e', z⟩
        · have k' : X.env.scope.names.lookup y = some .local := k'
          rcases L.free _ (PySem.mem_of_lookup k) rfl with k2 | k2 <;> rw [show X.env.scope.names.lookup y = _ from k2] at k' <;> cases k'
        · rw [c1] at e'
          cases e'
          exact cellK (I.freeC y _ c1) z
    · rw [List.getElem?_append_right (by omega)] at e1
      rw [List.getElem?_append_right (by omega)] at e2
      obtain ⟨j, hj⟩ : ∃ j, i - X.N.length = j := ⟨_, rfl⟩
      rw [hσ] at e2
      rw [hj] at e1 e2
      cases j with
      | succ j => simp at e1
      | zero =>
        simp only [List.getElem?_cons_zero, Option.some.injEq] at e1 e2
        subst e1
        subst e2
        refine ⟨u0, r0, .inl ⟨L.par, ?_⟩⟩
        simp [List.lookup]
  · obtain ⟨w', z⟩ := I.cell y c (cm e)
    exact ⟨w', cellK (I.freeC y c (cm e)) z⟩
  · obtain ⟨v, o, ho, hd⟩ := I.cell y c (cm e)
    exact un.free c o ho (I.freeC y c (cm e)) (by simp)
  · show (σ ++ [some v0]).length = (X.N ++ [p]).length
    simp [hσ]
theorem codeAmong_app {p' : Pos} {cv : Value} : ∀ (l more : List Value), codeAmong p' l = some cv → codeAmong p' (l ++ more) = some cv
  | .int line _ :: .int col _ :: c :: rest, more, h => by
    simp only [codeAmong, List.cons_append] at h ⊢
    split at h
    · rename_i hc
      rw [if_pos hc]
      exact h
    · rename_i hc
      rw [if_neg hc]
      exact codeAmong_app rest more h
  | [], _, h => by simp [codeAmong] at h
  | [_], _, h => by simp [codeAmong] at h
  | [_, _], _, h => by simp [codeAmong] at h
theorem lam_make4 {T : List (Addr × Str)} {c P : Addr} {params : Arguments} {body : Expr} {scope : Scope} {pos : Pos} {E : Value → Shared → Prop} {Q : Value → Shared → Prop} (I : Inv X pins σ H s) (TB : TabB X.base X.mg c P) (hcode : X.env.code = .ref c)
    (hm : (P, X.env.qual ++ "<lambda>") ∈ T) (hu : ∀ p ∈ T, p.1 = P → p.2 = X.env.qual ++ "<lambda>") (hT : Tabs T H) (hdef : defaultsOf params X.env = ([], [])) (hfree : ∀ y ∈ scope.names, y.2 = .free → ∃ c, X.env.cells.lookup y.1 = some c)
    (h : ∀ (f c' : Addr) (pm ctv : Value) (H1 : Hp) (s' : Shared), Inv X pins σ H1 s' → Ex H H1 → Tabs T H1 →
      s'.heap.get? f = some (PySem.W.kla_obj "<lambda>" (X.env.qual ++ "<lambda>") params body scope (cloFrom X.env.cells scope.names []) pm c' ctv) → H1 f = none → f ∉ frs X.stack → H1 c' = some (CodeO c' (X.env.qual ++ "<lambda>")) → (∃ ps : Array Value, H1 P = some (.tbl ps) ∧ codeAmong pos ps.toList = some (.ref c')) → Q (.ref f) s') :
    wpAny (model X.prog X.w) X.A (eval (.Lambda params body scope pos) X.env) Q E s := by
  obtain ⟨ps, hP, ht, ha⟩ := hT _ hm
  refine PySem.W.kla_eval hdef ?_
  have bP : s.heap.BuiltinsAt X.mg P := TB.bm.keeps I.bk
  have hP' : s.heap.get? P = some { cls := .none, data := .fields ps } := I.hok P _ hP
  have nofr : ∀ f, s.heap.objs.size ≤ f → f ∉ frs X.stack := fun f hf z => by
    rcases List.mem_cons.mp (I.stkSub _ z) with e | e
    · have h1 := I.lt
      rw [← e] at h1
      exact Nat.lt_irrefl _ (Nat.lt_of_lt_of_le h1 hf)
    · exact I.nofs hf e
  cases hc : codeAmong pos ps.toList with
  | none =>
    refine PySem.W.kla_makeFunction (mg := X.mg) (c := c) (P := P) (ps := ps) (closure_ok hfree) I.ok.glob (I.mod.glob.keeps I.bk) hcode (TB.code.keeps I.bk) hP' ht hc TB.gP bP fun c' ctv h' tk hx hge hlt hrec htb => ?_
    obtain ⟨c2, oc, vs, t, e2, hoc, hd, hv⟩ := hrec
    cases e2
    have hsz : s.heap.objs.size ≤ h'.objs.size := Nat.le_trans hge (Nat.le_of_lt hlt)
    have nC : H c' = none := I.hok.fresh hge
    have I1 := inv_table (t' := tk) (more := #[rawInt pos.line, rawInt pos.col, .ref c']) (h' := h'.push (PySem.W.kla_obj "<lambda>" (X.env.qual ++ "<lambda>") params body scope (cloFrom X.env.cells scope.names []) ((X.mg "__name__").getD .none) c' ctv)) I hP
      (fun b o hb e => Heap.get?_push_of_some _ (hx b o hb e)) (Heap.get?_push_of_some _ htb) hge ⟨oc, vs, t, Heap.get?_push_of_some _ hoc, hd, hv⟩
    have hE : ExtN H (upd (upd H P (.tbl (ps ++ #[rawInt pos.line, rawInt pos.col, .ref c']))) c' (CodeO c' (X.env.qual ++ "<lambda>"))) := fun b o e n => by
      rw [upd_ne (ne_of_none e nC), upd_ne (fun z => n ps (Option.some.inj (e.symm.trans (by rw [z]; exact hP))))]
      exact e
    have eL : (ps ++ #[rawInt pos.line, rawInt pos.col, .ref c']).toList = ps.toList ++ [rawInt pos.line, rawInt pos.col, .ref c'] := by simp
    have hG : Ex H (upd (upd H P (.tbl (ps ++ #[rawInt pos.line, rawInt pos.col, .ref c']))) c' (CodeO c' (X.env.qual ++ "<lambda>"))) := ⟨hE, fun b qs e => by
      rw [upd_ne (ne_of_none e nC)]
      by_cases hb : b = P
      · rw [hb, hP] at e
        cases e
        exact ⟨_, by rw [hb, upd_same]⟩
      · exact ⟨#[], by rw [upd_ne hb, Array.append_empty]; exact e⟩⟩
    refine h h'.objs.size c' ((X.mg "__name__").getD .none) ctv _ _ I1 hG (fun p hp => ?_) (Heap.get?_push_size _ rfl) ?_ (nofr _ hsz) upd_same ⟨_, by rw [upd_ne (ne_of_none hP nC), upd_same], by rw [eL]; exact codeAmong_snoc _ ht hc⟩
    · by_cases hb : p.1 = P
      · rw [hu p hp hb, hb]
        refine ⟨_, by rw [upd_ne (ne_of_none hP nC), upd_same], by rw [eL]; exact PySem.TriplesOk_snoc _ _ _ _ ht, fun p' cv hcv => ?_⟩
        rw [eL] at hcv
        rcases among_app _ ht hcv with z | z
        · obtain ⟨c0, e1, e2⟩ := ha p' cv z
          exact ⟨c0, e1, hE _ _ e2 codeO_ne⟩
        · exact ⟨c', z, upd_same⟩
      · obtain ⟨ps', a1, a2, a3⟩ := hT p hp
        refine ⟨ps', by rw [upd_ne (ne_of_none a1 nC), upd_ne hb]; exact a1, a2, fun p' cv hcv => ?_⟩
        obtain ⟨c0, e1, e2⟩ := a3 p' cv hcv
        exact ⟨c0, e1, hE _ _ e2 codeO_ne⟩
    · have n1 : h'.objs.size ≠ c' := Nat.ne_of_gt hlt
      have n2 : h'.objs.size ≠ P := Nat.ne_of_gt (Nat.lt_of_lt_of_le (Heap.lt_size hP') hsz)
      rw [upd_ne n1, upd_ne n2]
      exact I.hok.fresh hsz
  | some cv =>
    obtain ⟨c', e', hco⟩ := ha pos cv hc
    subst e'
    have e := hc
    refine PySem.W.kla_makeFunctionHit (mg := X.mg) (c := c) (P := P) (ps := ps) (closure_ok hfree) I.ok.glob (I.mod.glob.keeps I.bk) hcode (TB.code.keeps I.bk) hP' ht hc bP fun ctv h' tk hx hsz => ?_
    have I1 : Inv X pins σ H { s with heap := h'.push (PySem.W.kla_obj "<lambda>" (X.env.qual ++ "<lambda>") params body scope (cloFrom X.env.cells scope.names []) ((X.mg "__name__").getD .none) c' ctv), toks := tk } := I.kept fun b o e => Heap.get?_push_of_some _ (hx b o e)
    exact h h'.objs.size c' ((X.mg "__name__").getD .none) ctv H _ I1 (Ex.refl H) hT (Heap.get?_push_size _ rfl) (I.hok.fresh hsz) (nofr _ hsz) hco ⟨ps, hP, e⟩
/-- x(one), in the block of the def that got the lambda -/
theorem pe_actB {Ng : List Str} {qg : Str} {sg : Scope} {g f c' P : Addr} {cdg pm ctv : Value} {params : Arguments} {body : Expr} {scope scB : Scope} {k i j : Nat} {a b p : Str} {pn : List (Addr × Obj)} {xe : Value → Shared → Prop} {W : WX} {Eg : XK} {tb : XK → TE} {p1 p2 p3 lpos : Pos} {ps : Array Value} {T : List (Addr × Str)}
    {s3 : Shared} {H3 : Hp} {ce : Env} {fp : List Addr} {pins3 : List (Addr × Obj)} {σ3 : L2.St}
    (I : Inv X pins σ H s) (L : LamS1 X.env.scope scope p) (hp : p ∉ X.N) (hf : s.heap.get? f = some (PySem.W.kla_obj "<lambda>" (X.env.qual ++ "<lambda>") params body scope (cloFrom X.env.cells scope.names []) pm c' ctv)) (hfn : H f = none) (hfr : f ∉ frs X.stack)
    (hP : H P = some (.tbl ps)) (hcA : codeAmong lpos ps.toList = some (.ref c')) (hm : (P, X.env.qual ++ "<lambda>") ∈ T)
    (hbind : ∀ u, bindArgs (PySem.W.kla_fn "<lambda>" (X.env.qual ++ "<lambda>") params body scope (cloFrom X.env.cells scope.names []) pm (.ref c') ctv) ⟨[u], []⟩ = pure [(p, u)])
    (I3 : Inv (cxOf (L2.CX X.prog X.w) X.prog X.w X.K X.mg X.base Ng qg sg g cdg X.A X.stack s H Eg) pins3 σ3 H3 s3) (f3 : ∀ b ∈ fp, FpOk (cxOf (L2.CX X.prog X.w) X.prog X.w X.K X.mg X.base Ng qg sg g cdg X.A X.stack s H Eg) pins3 H3 b ∧ b < s3.heap.objs.size)
    (tk : Takes (((cxOf (L2.CX X.prog X.w) X.prog X.w X.K X.mg X.base Ng qg sg g cdg X.A X.stack s H Eg).blk s3 H3 scB ce fp).tr pn xe) W) (hr : Rm (k + 1) (X.A.deeper (envOfC qg sg s.heap.objs.size g cdg)))
    (hbody : ∀ (E : XK) (A : Around) (outer : List Env) (s : Shared) (H : Hp), Rm k (A.deeper (lamEnv X scope s.heap.objs.size f c')) → PE (lamCx1 X A outer s H E scope f c' p) body (tb E))
    (hN : Ng[i]? = some a) (hv : Vis ce.scope a) (hNj : Ng[j]? = some b) (hvj : Vis ce.scope b) (hd : (a == ("__debug__" : Str)) = false := by decide) (hcd : (a == ("__classdict__" : Str)) = false := by decide) (hdj : (b == ("__debug__" : Str)) = false := by decide) (hcdj : (b == ("__classdict__" : Str)) = false := by decide)
    (he : starEach [.Name b p3] ce = (false, eval (.Name b p3) ce) :: starEach [] ce := by rfl) :
    PE (((cxOf (L2.CX X.prog X.w) X.prog X.w X.K X.mg X.base Ng qg sg g cdg X.A X.stack s H Eg).blk s3 H3 scB ce fp).tr pn xe) (.Call (.Name a p1) [.Name b p3] [] p2)
      (fun σZ HZ Q => σZ[i]? = some (some (.ref f)) ∧ ∃ v, σZ[j]? = some (some v) ∧ Tabs T HZ ∧ ((∀ b xs, H b = some (.tup xs) → HZ b = some (.tup xs)) → tb (WE W σZ) (σ ++ [some v]) HZ Q)) := by
  refine ⟨fun pinsZ sZ σZ HZ Q IZ h => ?_⟩
  obtain ⟨hs, v0, hsj, htab, ht⟩ := h
  have unZ : ∀ {pinsZ : List (Addr × Obj)} {σZ : L2.St} {HZ : Hp} {sZ : Shared}, Inv (((cxOf (L2.CX X.prog X.w) X.prog X.w X.K X.mg X.base Ng qg sg g cdg X.A X.stack s H Eg).blk s3 H3 scB ce fp).tr pn xe) pinsZ σZ HZ sZ → Un (frs X.stack) [] H HZ s.heap sZ.heap := fun {pinsZ σZ HZ sZ} IZ =>
    (show Inv (cxOf (L2.CX X.prog X.w) X.prog X.w X.K X.mg X.base Ng qg sg g cdg X.A X.stack s H Eg) pins3 σ3 HZ sZ from I3.call' (ch := fp) IZ.os IZ.base IZ.hok IZ.bare fun b hb => ⟨(f3 b hb).1.2.2.2.1, (f3 b hb).1.2.1, (f3 b hb).1.2.2.2.2.1, (f3 b hb).1.2.2.2.2.2⟩).base
  refine wpAny_Call_Name_kw (thn ((pe_var (X := (((cxOf (L2.CX X.prog X.w) X.prog X.w X.K X.mg X.base Ng qg sg g cdg X.A X.stack s H Eg).blk s3 H3 scB ce fp).tr pn xe)) (pos := p1) (i := i) hN hv hd hcd).run pinsZ sZ σZ HZ (fun v H1 => v = .ref f ∧ H1 = HZ) IZ ⟨.ref f, hs, rfl, rfl⟩) fun u s1 ⟨v, H1, I1, r1, q1⟩ => ?_)
  obtain ⟨ev, eH⟩ := q1
  subst ev
  rw [eH] at I1
  obtain rfl : u = Value.ref f := r1
  have of1 : s1.heap.get? f = some (PySem.W.kla_obj "<lambda>" (X.env.qual ++ "<lambda>") params body scope (cloFrom X.env.cells scope.names []) pm c' ctv) := (unZ I1).keep f _ hf hfn hfr (fun z => nomatch (show f ∈ ([] : List Addr) from z))
  refine PySem.W.callWith_F ⟨_, _, _, _, of1⟩ ?_ he (by rfl)
  show wpAny _ _ (spliced (backTo p2 (starEach [.Name b p3] ce))) _ _ _
  rw [he]
  refine Calls.spliced_cons (thn ((pe_var (X := (((cxOf (L2.CX X.prog X.w) X.prog X.w X.K X.mg X.base Ng qg sg g cdg X.A X.stack s H Eg).blk s3 H3 scB ce fp).tr pn xe)) (pos := p3) (i := j) hNj hvj hdj hcdj).run pinsZ s1 σZ HZ (fun v H1 => v = v0 ∧ H1 = HZ) I1 ⟨v0, hsj, rfl, rfl⟩) fun u2 s2 ⟨v, H2, I2, r2, q2⟩ => ?_)
  obtain ⟨ev, eH⟩ := q2
  subst ev
  rw [eH] at I2
  have un := unZ I2
  have of2 : s2.heap.get? f = some (PySem.W.kla_obj "<lambda>" (X.env.qual ++ "<lambda>") params body scope (cloFrom X.env.cells scope.names []) pm c' ctv) := un.keep f _ hf hfn hfr (fun z => nomatch (show f ∈ ([] : List Addr) from z))
  refine Calls.spliced_nil ⟨⟨_, _, _, _, of2⟩, ?_⟩
  obtain ⟨psZ, g1, g2, g3⟩ := htab _ hm
  obtain ⟨more, g4⟩ := un.tbls _ _ hP
  have hc : HZ c' = some (CodeO c' (X.env.qual ++ "<lambda>")) := by
    have g1 : HZ P = some (.tbl psZ) := g1
    rw [g4] at g1
    cases g1
    obtain ⟨c0, e1, e2⟩ := g3 lpos (.ref c') (by
      rw [Array.toList_append]
      exact codeAmong_app _ _ hcA)
    cases e1
    exact e2
  have ht := ht un.tups
  obtain ⟨⟨oc, vs, t, hoc, hdc, hvc⟩, _, _⟩ := I2.hok c' _ hc
  have rc : codeAny (model X.prog X.w) (X.A.deeper (envOfC qg sg s.heap.objs.size g cdg)) (.call (.ref f) ⟨[u2], []⟩) (CR (L2.CX X.prog X.w) (envOfC qg sg s.heap.objs.size g cdg :: X.stack) X.prog X.w HZ s2 Q (WE W σZ)) s2 := by
    refine PySem.W.kla_callFunE hr.room.depth of2 rfl L.co L.gen rfl ⟨c', oc, vs, t, rfl, hoc, hdc, hvc⟩ ?_
    rw [hbind]
    refine wpAny_pure (wpAny_newFunctionEnv (fun y hy => L.nocell y hy) (fun y hy => by
      rw [List.mem_singleton.mp hy]
      exact L.par) (fun h₁ hns hsb => ⟨I2.nolimit.fresh _ hsb, ?_⟩) L.kind)
    show codeAny _ _ (.expr body (lamEnv X scope s2.heap.objs.size f c')) _ _
    have kp : ∀ b o, s2.heap.get? b = some o → h₁.get? b = some o := fun b o e => hsb.extBut b o (Nat.ne_of_lt (Heap.lt_size e)) (Heap.get?_push_of_some _ e)
    have J : Inv (lamCx1 X (X.A.deeper (envOfC qg sg s.heap.objs.size g cdg)) (envOfC qg sg s.heap.objs.size g cdg :: X.stack) s2 HZ (WE W σZ) scope f c' p) [] (σ ++ [some v]) HZ { s2 with heap := h₁, toks := s2.toks + ([(p, u2)] : List (Str × Value)).length } :=
      lam_start3 I L hp r2 I2.env0 hr.room.hd un hns kp
    refine PySem.W.kla_codeExpr (wpAny_mono ((hbody _ _ _ s2 HZ (hr.deeper _ ⟨L.gen, L.co, rfl, rfl⟩)).run [] _ _ HZ Q J ht) (fun v s' hq => ?_) fun e s' hq => hq)
    obtain ⟨w', H', J', rv, q⟩ := hq
    exact ⟨w', H', J'.os, J'.bare, J'.base, J'.hok, rv, q⟩
  have hx := passAt tk σZ
  refine wpAny_call (codeAny_mono rc fun r s' hq => ?_)
  cases r with
  | error e => exact hx pinsZ HZ s2 e s' I2 hq
  | ok fl =>
    cases fl with
    | ret u => exact I2.after hq
    | next => exact False.elim hq
    | brk => exact False.elim hq
    | cont => exact False.elim hq
end
def BlkAt (X : Cx) (s : Shared) (H : Hp) (fp : List Addr) : Prop := ∃ (pins : List (Addr × Obj)) (σ : L2.St), Inv X pins σ H s ∧ ∀ b ∈ fp, FpOk X pins H b ∧ b < s.heap.objs.size
section
variable {X : Cx}
theorem pe_lcE2 {Wx : WX} {Pp : L2.St → Prop} {elt tg iter : Expr} {ifs : List Expr} {scope : Scope} {own : List (Str × Nat)} {pos : Pos} {wi : TI} {g : TG} {tt : TT} {te : WX → TE}
    (hst : X.stack = X.env :: X.outer) (hf : X.env.frame = some X.env.locals) (tk : Takes X Wx) (hc : X.calm = true) (hN : X.N.Nodup) (hi : PI X tg iter wi) (ok : BlkOk X.N X.env.scope scope own)
    (hg : ∀ (s : Shared) (H : Hp) (C : Addr) (cl : List (Str × Addr)) (fp : List Addr), PG (X.blk s H scope (compEnvC scope cl C X.env) fp) tg g) (ht : ∀ (s : Shared) (H : Hp) (C : Addr) (cl : List (Str × Addr)) (fp : List Addr), PTs (X.blk s H scope (compEnvC scope cl C X.env) fp) ifs tt)
    (he : ∀ (s : Shared) (H : Hp) (C : Addr) (cl : List (Str × Addr)) (fp : List Addr) (W : WX) (pn : List (Addr × Obj)) (xe : Value → Shared → Prop), BlkAt X s H fp → Takes ((X.blk s H scope (compEnvC scope cl C X.env) fp).tr pn xe) W → PE ((X.blk s H scope (compEnvC scope cl C X.env) fp).tr pn xe) elt (fun σ H Q => Pp σ ∧ te W σ H Q))
    (hPp : ∀ σ σ', wipe σ' (own.map (·.2)) = wipe σ (own.map (·.2)) → Pp σ → Pp σ')
    (hs : ∀ x, foldedSetIterable iter X.env x = pure x := by intro _; rfl) :
    PE X (.ListComp elt [⟨tg, iter, ifs, 0⟩] scope pos) (fun σ H Q => Pp σ ∧ tLcE Wx wi g tt te (own.map (·.2)) σ H Q) := by
  refine ⟨fun pins s σ H Q I h0 => ?_⟩
  obtain ⟨hp0, h⟩ := h0
  rw [eval_ListComp]
  have hfree : ∀ y ∈ scope.names, y.2 = .free → ∃ c, X.env.cells.lookup y.1 = some c := fun y hy e => (ok.free y hy e).elim (fun k => I.ok.has _ (.inl k)) (fun k => I.ok.has _ (.inr k))
  refine comprehension_at (use := none) rfl hs (closure_ok hfree) ok.kind (fun y hy e => by rw [ok.uniq y hy, e])
    (thn (hi.run pins s σ H _ I h) fun xv s1 hx => thn hx fun itv s2 ⟨it, fp, tn, J, H2, e, I2, T, st2, f2, q⟩ => ?_)
  subst e
  refine wpAny_newObj_type (newEnv_comp ?_) (by show 0 ≤ sizeLine; decide)
  generalize hD : s2.heap.objs.size = D
  have hDn : H2 D = none := I2.hok.fresh (Nat.le_of_eq hD)
  obtain ⟨W, ⟨m0, w0⟩, turn⟩ := q D hDn
  generalize hs3 : ({ s2 with heap := s2.heap.push { cls := .type "list", data := .seq ([] : List Value).toArray } } : Shared) = s3
  have h3 : s3.heap = s2.heap.push { cls := .type "list", data := .seq ([] : List Value).toArray } := by rw [← hs3]
  have I3 : Inv X pins σ (upd H2 D (.lst [])) s3 := by
    rw [← hs3]
    refine I2.laid (t' := s2.toks) (fun b o e => Heap.get?_push_of_some _ e) (Nat.le_of_eq hD) ⟨Nat.zero_le _, [], 0, .nil, ?_⟩
    rw [← hD]
    exact Heap.get?_push_size _ rfl
  have f3 : ∀ b ∈ fp, FpOk X pins (upd H2 D (.lst [])) b ∧ b < s3.heap.objs.size := fun b hb => by
    obtain ⟨o, e, _⟩ := T.obj _ _ st2 b hb
    have hlt : b < s2.heap.objs.size := Heap.lt_size e
    refine ⟨⟨?_, (f2 b hb).2⟩, by rw [h3, Heap.size_push]; exact Nat.lt_succ_of_lt hlt⟩
    rw [upd_ne (by rw [← hD]; exact Nat.ne_of_lt hlt)]
    exact (f2 b hb).1
  have st3 : tn 0 s3.heap := T.keep _ _ _ st2 fun b _ o e => by rw [h3]; exact Heap.get?_push_of_some _ e
  have I4 := block_start I3 ok hN f3
  generalize hcl : cellsFrom (s3.heap.objs.size + 1) scope.names (cloFrom X.env.cells scope.names []) = cl at I4
  have pg := hg s3 (upd H2 D (.lst [])) s3.heap.objs.size cl fp
  have pt := ht s3 (upd H2 D (.lst [])) s3.heap.objs.size cl fp
  have pe := he s3 (upd H2 D (.lst [])) s3.heap.objs.size cl fp
  show codeAny _ _ (.compStart (.ListComp elt [⟨tg, iter, ifs, 0⟩] scope pos) 0 (.ref it) (.ref D) (compEnvC scope cl s3.heap.objs.size X.env)) (compEnds (model X.prog X.w) X.A X.xe none _ (.ref D) (compEnvC scope cl s3.heap.objs.size X.env)) { s3 with heap := pushCells (s3.heap.push { cls := .type "dict", data := .dict #[] }) scope.names }
  have nfp : ∀ b ∈ fp, (upd H2 D (.lst [])) b = none := fun b hb => (f3 b hb).1.1
  generalize hce : compEnvC scope cl s3.heap.objs.size X.env = ce at I4 pg pt pe ⊢
  have cL : ce.locals = s3.heap.objs.size := by subst hce; rfl
  generalize hH3 : upd H2 D (.lst []) = H3 at I3 I4 pg pt pe w0 nfp f3
  generalize hs4 : ({ s3 with heap := pushCells (s3.heap.push { cls := .type "dict", data := .dict #[] }) scope.names } : Shared) = s4 at I4 ⊢
  have st4 : tn 0 s4.heap := T.keep _ _ _ st3 fun b _ o e => by rw [← hs4]; exact pushCells_keeps _ _ _ _ (Heap.get?_push_of_some _ e)
  have stat : ∀ {σ' : L2.St} {H' : Hp} {s' : Shared}, Inv (X.blk s3 H3 scope ce fp) [] σ' H' s' → (∀ b ∈ fp, H' b = none) → ∀ b ∈ fp, FpOk (X.blk s3 H3 scope ce fp) [] H' b := fun {σ' H' s'} I' hn b hb =>
    ⟨hn b hb, (I'.ok.exf b hb).1, I'.ok.exfs b hb, .inl hb, fun x c e => (I'.ok.exf b hb).2 x c e, fun p hp => absurd (show p ∈ ([] : List (Addr × Obj)) ++ [] from hp) (by simp)⟩
  refine (fun loop => codeAny_compStart_list loop (T.self X.A 0 _ _ _ st4 loop)) ?_
  refine compLoop_any (fun n s' => ∃ i H', Inv (X.blk s3 H3 scope ce fp) [] (wipe σ (own.map (·.2))) H' s' ∧ tn i s'.heap ∧ (∀ b ∈ fp, H' b = none) ∧ W i n H') ?_ m0 ⟨0, H3, I4, st4, nfp, w0⟩
  rintro n s5 ⟨i, H5, I5, st5, n5, w5⟩
  rcases turn i n H5 w5 with ⟨stop, qq⟩ | ⟨go, Nx, hNx, step⟩
  · refine thnF (T.done (X.blk s3 H3 scope ce fp) rfl rfl rfl hc i [] s5 _ H5 (fun _ _ => False) I5 (stat I5 n5) st5 stop) fun r s6 ⟨hr, I6⟩ => ?_
    subst hr
    have I7 : Inv X pins σ H5 s6 := I3.call' (ch := fp) I6.os I6.base I6.hok I6.bare fun b hb => ⟨(f3 b hb).1.2.2.2.1, (f3 b hb).1.2.1, (f3 b hb).1.2.2.2.2.1, (f3 b hb).1.2.2.2.2.2⟩
    have nC : H5 ce.locals = none := I6.free
    obtain ⟨m, hn, _⟩ := I6.loc
    obtain ⟨g0, g1, g2, g3, g4, g5⟩ : FpOk X pins H5 ce.locals := I3.fpOk (Nat.le_of_eq cL.symm) nC
    exact ⟨m, hn, fun h'' sb => ⟨.ref D, H5, I7.turned (t' := s6.toks) (fun b o hb e => (sb.2 b hb).trans e) g0 g1 g3 g4 g5, rfl, qq⟩⟩
  · refine thnF (T.item (X.blk s3 H3 scope ce fp) rfl rfl rfl hc i [] s5 _ H5 (fun _ _ => False) I5 (stat I5 n5) st5 go) fun r s6 ⟨u, hr, h6⟩ => ?_
    subst hr
    refine thnF h6 fun _ s7 ⟨x, H7, I7, r7, y7, st7, n7⟩ => ?_
    have I7' := I7.pinned (stat I7 n7) (T.obj _ _ st7)
    refine thnF (pg.run _ s7 _ H7 x u _ I7' r7 (step x H7 y7)) fun _ s8 ⟨σ8, H8, I8, hw8, q8⟩ => ?_
    refine thnF (pt.run _ s8 σ8 H8 _ I8 q8) fun b s9 ⟨H9, I9, q9⟩ => ?_
    have fin : ∀ {s' : Shared} {H' : Hp}, Inv (X.blk s3 H3 scope ce fp) ([] ++ pinsAt fp s7.heap) σ8 H' s' → Nx H' → ∃ m, m < n ∧ ∃ i H', Inv (X.blk s3 H3 scope ce fp) [] (wipe σ (own.map (·.2))) H' s' ∧ tn i s'.heap ∧ (∀ b ∈ fp, H' b = none) ∧ W i m H' := fun {s' H'} I' nx => by
      obtain ⟨m', hm, w'⟩ := hNx H' nx
      have pin' : ∀ b ∈ fp, ∀ o, s7.heap.get? b = some o → s'.heap.get? b = some o ∧ H' b = none := fun b hb o e =>
        let z := I'.pin (b, o) (List.mem_append_right _ (List.mem_append_right _ (mem_pinsAt hb e)))
        ⟨z.1, z.2.1⟩
      refine ⟨m', hm, i + 1, H', (I'.unpinned (pins := [])).weak (by rw [← hw8, wipe_length]) (fun j v e => ?_), T.keep _ _ _ st7 fun b hb o e => (pin' b hb o e).1, fun b hb => ?_, w'⟩
      · rw [← hw8] at e
        exact (wipe_some e).1
      · obtain ⟨o, e, _⟩ := T.obj _ _ st7 b hb
        exact (pin' b hb o e).2
    cases b with
    | false =>
      simp only [Bool.false_eq_true, if_false] at q9 ⊢
      exact fin I9 q9
    | true =>
      simp only [if_true] at q9 ⊢
      have okB : (X.blk s3 H3 scope ce fp).Ok := I9.ok
      refine wpAny_mono ((pe _ _ (XE ((X.blk s3 H3 scope ce fp).tr ((X.blk s3 H3 scope ce fp).pn ++ ([] ++ pinsAt fp s7.heap)) (fun _ _ => False)) (fun cls d _ H => Wx cls d σ H)) ⟨_, _, I3, f3⟩ (fun _ _ x => ?_)).run [] s9 σ8 H9 _ (I9.toTry _) ⟨hPp _ _ hw8 hp0, q9⟩) (fun z s10 ⟨yv, H10, I10, r10, acc, hD10, hz10, nx⟩ => ?_) fun u s' x => blk_ex hst hf tk I3 hce.symm f3 okB x
      · obtain ⟨a, B, sI, pinsI, σI, HI, cls, d, e, JI, r⟩ := x
        exact ⟨a, B, sI, [], σI, HI, cls, d, e, (JI.ofTry (X := X.blk s3 H3 scope ce fp) okB).toTry _, r⟩
      · exact app_ok (X := X.blk s3 H3 scope ce fp) (I10.ofTry okB) hD10 hz10 r10 fun s11 I11 => fin I11 nx
end
def tP (Pp : L2.St → Prop) (t : TE) : TE := fun σ H Q => Pp σ ∧ t σ H Q
section
variable [TabT] {X : Cx} {c : Cc} {Pp : L2.St → Prop}
theorem o_lcP {elt tg iter : Expr} {scope : Scope} {own : List (Str × Nat)} {pos : Pos} {src : M (List D)} {js : List Nat} {t : Tg} {te : M D} (hi : PI X tg iter (iM c src)) (ok : BlkOk X.N X.env.scope scope own)
    (hg : ∀ (s : Shared) (H : Hp) (C : Addr) (cl : List (Str × Addr)) (fp : List Addr), PG (X.blk s H scope (compEnvC scope cl C X.env) fp) tg (gM c.K js t)) (ht : ∀ (s : Shared) (H : Hp) (C : Addr) (cl : List (Str × Addr)) (fp : List Addr), PTs (X.blk s H scope (compEnvC scope cl C X.env) fp) [] (tT c.nox yes))
    (he : ∀ (s : Shared) (H : Hp) (C : Addr) (cl : List (Str × Addr)) (fp : List Addr) (W : WX) (pn : List (Addr × Obj)) (xe : Value → Shared → Prop), BlkAt X s H fp → Takes ((X.blk s H scope (compEnvC scope cl C X.env) fp).tr pn xe) W → PE ((X.blk s H scope (compEnvC scope cl C X.env) fp).tr pn xe) elt (tP Pp (tM { c with W := W } te)))
    (hPp : ∀ σ σ', wipe σ' (own.map (·.2)) = wipe σ (own.map (·.2)) → Pp σ → Pp σ')
    (tk : Takes X c.W) (hN : X.N.Nodup) (hst : X.stack = X.env :: X.outer := by rfl) (hf : X.env.frame = some X.env.locals := by rfl) (hjs : ∀ j ∈ js, j ∈ own.map (·.2) := by decide) (hc : X.calm = true := by rfl) (hs : ∀ x, foldedSetIterable iter X.env x = pure x := by intro _; rfl) :
    PE X (.ListComp elt [⟨tg, iter, [], 0⟩] scope pos) (tP Pp (tO c (oCompE src (own.map (·.2)) t te))) :=
  pe_cq (pe_lcE2 hst hf tk hc hN hi ok hg ht he hPp hs) fun st H Q h => ⟨h.1, lc_okE hjs h.2⟩
theorem e_valP {e : Expr} {m : M RV} (h : PE X e (tP Pp (tO c m))) : PE X e (tP Pp (tM c (frzM m))) :=
  pe_cq h fun st H Q ⟨hp, pa, H0, F0, F, r, ok, po⟩ => ⟨hp, seqO ok po fun rv r1 F1 H1 v k1 e1 dp q => by
    cases rv with
    | v d => exact q F1 H1 v k1 e1 dp
    | o ct =>
      cases ct with
      | l ds =>
        obtain ⟨a, rfl, z1, z2, ⟨vs, z3, z4⟩, z5⟩ := dp
        have k2 := k1.frz z3 z2 z5.1 z1
        exact q _ H1 _ k2 (e1.trans (Ex.new z1)) (.lst (.inl (.inl upd_same)) (dpa_mono (Ex.new z1) z4))
      | t kvs => exact q.elim
      | d kvs => exact q.elim
      | n t =>
        obtain ⟨d, hd, q⟩ := opt_po' q
        obtain ⟨a, rfl, z⟩ := dp
        obtain ⟨F2, k2, eF, rp⟩ := k1.frzRv z hd
        exact q F2 H1 _ k2 (e1.trans eF) rp⟩
theorem a_oneP {e : Expr} {m : M D} (h : PE X e (tP Pp (tM c m))) (hs : starEach [e] X.env = (false, eval e X.env) :: starEach [] X.env := by rfl) : PA X [e] (fun σ H Q => Pp σ ∧ tA c (aCons m aNil) σ H Q) :=
  pa_cq (pa_cons h (a_nil (c := c)) hs) fun st H Q ⟨hp, pa, H0, F0, F, r, ok, po⟩ => ⟨hp, seqM ok po fun d r1 F1 H1 v k1 e1 dp q => seqA k1 q fun ds r2 F2 H2 vs k2 e2 dps q2 => q2 F2 H2 _ k2 (e1.trans e2) (.cons (dp_mono e2 dp) dps)⟩
theorem e_callBP {id : String} {g : List D → Option D} {x : Str} {e : Expr} {es : List Expr} {p pos : Pos} {ms : M (List D)} (hc : CallR X (.builtin id) (rDA c.K g)) (hm : X.mg x = none) (ha : PA X (e :: es) (fun σ H Q => Pp σ ∧ tA c ms σ H Q)) (hg : Gl X x := by rfl) (hv : bootBuiltins x = some (.builtin id) := by decide +kernel) (hn : x ≠ "__name__" := by decide) (hdb : (x == ("__debug__" : Str)) = false := by decide)
    (he : starEach (e :: es) X.env = (false, eval e X.env) :: starEach es X.env := by rfl) (hpl : (backTo pos (starEach es X.env)).any (·.1) = false := by rfl) : PE X (.Call (.Name x p) (e :: es) [] pos) (tP Pp (tM c (nry g ms))) :=
  pe_cq (pe_callB hc hg hm hv ha hn hdb he hpl) fun _ _ _ ⟨hp, pa, H0, F0, F, r, ok, po⟩ => ⟨hp, seqA ok po fun ds r1 F1 H1 vs k1 e1 dps q => by
    obtain ⟨z, hz, q3⟩ := opt_po q
    exact ⟨F1, ds, z, k1.fH, dps, hz, op_end (r' := r1) k1 fun F' H' v ok ex dp => q3 F' H' v ok (e1.trans ex) dp⟩⟩
theorem e_andP {a b : Expr} {rest : List Expr} {m n : M D} {pos : Pos} (h : PE X a (tM c m)) (h2 : PE X (.BoolOp .And (b :: rest) pos) (tP Pp (tM c n))) : PE X (.BoolOp .And (a :: b :: rest) pos) (tP Pp (tM c (eAnd m n))) :=
  pe_cq (pe_and h h2) fun st H Q ⟨hp, pa, H0, F0, F, r, ok, po⟩ => seqB ok po fun b r1 F1 H1 k1 e1 q => ⟨b, rfl, by
    cases b with
    | true => exact ⟨hp, againM k1 e1 q⟩
    | false => exact q F1 H1 _ k1 e1 (.bl _)⟩
theorem e_oneP {op} {e : Expr} {m : M D} {pos : Pos} (h : PE X e (tP Pp (tM c m))) : PE X (.BoolOp op [e] pos) (tP Pp (tM c m)) := pe_one h
theorem o_valP {e : Expr} {m : M D} (h : PE X e (tP Pp (tM c m))) : PE X e (tP Pp (tO c (m.bind fun d => M.ret (.v d)))) :=
  pe_cq h fun st H Q ⟨hp, pa, H0, F0, F, r, ok, po⟩ => ⟨hp, seqM ok po fun d r1 F1 H1 v k1 e1 dp q => q F1 H1 v k1 e1 dp⟩
theorem s_retP {e : Expr} {m : M RV} {pos : Pos} (h : PE X e (tP Pp (tO c m))) : PS X (.Return (some e) pos) (fun Dd st H => Pp st ∧ sM c (sRet m) Dd st H) :=
  ps_cq (ps_ret h) fun Dd st H ⟨hp, pa, H0, F0, F, r, ok, po⟩ => ⟨hp, seqO ok po fun d r1 F1 H1 v k1 e1 dp q => q F1 H1 st v k1 e1 dp⟩
end
/-! ### the mirror -/
/-- what the lambda sees of its maker: data without lists -/
def hideT : Sl → Sl
  | .v d => if nlD d = true then .v d else .unk
  | _ => .unk
/-- x(one): j is the slot of one -/
def actM (th : M D) (rm : En) (j : Nat) : M D := fun r => match r[j]? with
  | some (.v one) => (match th (rm ++ [.v one]) with
    | .ok d _ => if flatD d = true then .ok d r else .no
    | _ => .no)
  | _ => .no
/-- x(e1, e2, lambda one: ..) -/
def areM (b : M D → M Fl) (nn j : Nat) (th : M D) (m1 m2 : M D) : M D := m1.bind fun d1 => m2.bind fun d2 => fun r => match b (actM th (r.map hideT) j) ([.v d1, .v d2] ++ List.replicate (nn - 2) .unk) with
  | .ok (.rt (.v d)) _ => if flatD d = true then .ok d r else .no
  | _ => .no
section
variable [TabT]
/-- data alone, over all that is -/
theorem okData {K : PySem.W.Frag} {F H : Hp} {st : L2.St} {r : En} (fh : Ex F H) (hl : st.length = r.length) (h : ∀ (j : Nat) (s : Sl), r[j]? = some s → s ≠ .unk → ∃ d v, s = .v d ∧ st[j]? = some (some v) ∧ Rp K F v d) (tb : LamX.Tabs (TabT.T K) H) : Ok K (fun _ => 0) H F F H st r where
  hH := Ex.refl H
  fF := Ex.refl F
  fH := fh
  sep := fun _ _ h => h
  len := hl
  sl := fun j s h1 ne => by
    obtain ⟨d, v, rfl, h2, h3⟩ := h j s h1 ne
    exact ⟨v, h2, h3⟩
  tb := tb
  dis := fun j1 j2 s q c c' a ne h1 h2 o1 => by
    cases s with
    | unk => cases o1
    | v d => cases o1
    | o c =>
      obtain ⟨d, v, e, _⟩ := h _ _ h1 (fun z => nomatch z)
      cases e
    | io c =>
      obtain ⟨d, v, e, _⟩ := h _ _ h1 (fun z => nomatch z)
      cases e
    | pin => cases o1
  inn := fun j1 s c a b h1 o1 => by
    cases s with
    | unk => cases o1
    | v d => cases o1
    | o c =>
      obtain ⟨d, v, e, _⟩ := h _ _ h1 (fun z => nomatch z)
      cases e
    | io c =>
      obtain ⟨d, v, e, _⟩ := h _ _ h1 (fun z => nomatch z)
      cases e
    | pin => cases o1
section
variable {X : Cx} {pins : List (Addr × Obj)} {σ : L2.St} {H HZ : Hp} {s s1 : Shared}
/-- what the maker's names hold, as the lambda sees it -/
def SeesT (K : PySem.W.Frag) (H : Hp) (σ : L2.St) (rm : En) : Prop := σ.length = rm.length ∧ ∀ (j : Nat) (s : Sl), rm[j]? = some s → s ≠ .unk → ∃ d v, s = .v d ∧ nlD d = true ∧ σ[j]? = some (some v) ∧ Rp K H v d
theorem sees_of {K : PySem.W.Frag} {pa : Nat → Addr} {H0 F0 F H : Hp} {st : L2.St} {r : En} (k : Ok K pa H0 F0 F H st r) : SeesT K H st (r.map hideT) := ⟨by rw [List.length_map]; exact k.len, fun j s h n => by
  rw [List.getElem?_map] at h
  cases hr : r[j]? with
  | none =>
    rw [hr] at h
    cases h
  | some q =>
    rw [hr] at h
    have h : hideT q = s := Option.some.inj h
    subst h
    cases q with
    | v d =>
      by_cases hn : nlD d = true
      · obtain ⟨v, g1, g2⟩ := k.sl j _ hr (fun z => nomatch z)
        exact ⟨d, v, if_pos hn, hn, g1, dp_mono k.fH g2⟩
      · exact absurd (if_neg hn) n
    | unk => exact absurd rfl n
    | pin => exact absurd rfl n
    | o c => exact absurd rfl n
    | io c => exact absurd rfl n⟩
theorem e_actM {Ng : List Str} {qg : Str} {sg : Scope} {g f c' P : Addr} {cdg pm ctv : Value} {params : Arguments} {body : Expr} {scope scB : Scope} {k i j : Nat} {a b p : Str} {pn : List (Addr × Obj)} {xe : Value → Shared → Prop} {W : WX} {Eg : XK} {th : M D} {p1 p2 p3 lpos : Pos} {ps : Array Value}
    {s3 : Shared} {H3 : Hp} {ce : Env} {fp : List Addr} {rm : En}
    (I : Inv X pins σ H s) (L : LamS1 X.env.scope scope p) (hp : p ∉ X.N) (hf : s.heap.get? f = some (PySem.W.kla_obj "<lambda>" (X.env.qual ++ "<lambda>") params body scope (cloFrom X.env.cells scope.names []) pm c' ctv)) (hfn : H f = none) (hfr : f ∉ frs X.stack)
    (hP : H P = some (.tbl ps)) (hcA : codeAmong lpos ps.toList = some (.ref c')) (hm : (P, X.env.qual ++ "<lambda>") ∈ TabT.T X.K)
    (hbind : ∀ u, bindArgs (PySem.W.kla_fn "<lambda>" (X.env.qual ++ "<lambda>") params body scope (cloFrom X.env.cells scope.names []) pm (.ref c') ctv) ⟨[u], []⟩ = pure [(p, u)]) (sees : SeesT X.K H σ rm)
    (bk : BlkAt (cxOf (L2.CX X.prog X.w) X.prog X.w X.K X.mg X.base Ng qg sg g cdg X.A X.stack s H Eg) s3 H3 fp)
    (tk : Takes (((cxOf (L2.CX X.prog X.w) X.prog X.w X.K X.mg X.base Ng qg sg g cdg X.A X.stack s H Eg).blk s3 H3 scB ce fp).tr pn xe) W) (hr : Rm (k + 1) (X.A.deeper (envOfC qg sg s.heap.objs.size g cdg)))
    (hbody : ∀ (E : XK) (A : Around) (outer : List Env) (s : Shared) (H : Hp), Rm k (A.deeper (lamEnv X scope s.heap.objs.size f c')) → PE (lamCx1 X A outer s H E scope f c' p) body (tM ⟨X.K, X.mg, fun cls d _ H => E cls d H⟩ th))
    (hN : Ng[i]? = some a) (hv : Vis ce.scope a) (hNj : Ng[j]? = some b) (hvj : Vis ce.scope b) (hd : (a == ("__debug__" : Str)) = false := by decide) (hcd : (a == ("__classdict__" : Str)) = false := by decide) (hdj : (b == ("__debug__" : Str)) = false := by decide) (hcdj : (b == ("__classdict__" : Str)) = false := by decide)
    (he : starEach [.Name b p3] ce = (false, eval (.Name b p3) ce) :: starEach [] ce := by rfl) {mgZ : Str → Option Value} :
    PE (((cxOf (L2.CX X.prog X.w) X.prog X.w X.K X.mg X.base Ng qg sg g cdg X.A X.stack s H Eg).blk s3 H3 scB ce fp).tr pn xe) (.Call (.Name a p1) [.Name b p3] [] p2)
      (tP (fun σZ => σZ[i]? = some (some (.ref f))) (tM ⟨X.K, mgZ, W⟩ (actM th rm j))) := by
  obtain ⟨pins3, σ3, I3, f3⟩ := bk
  refine pe_cq (pe_actB (T := TabT.T X.K) (tb := fun E => tM ⟨X.K, X.mg, fun cls d _ H => E cls d H⟩ th) I L hp hf hfn hfr hP hcA hm hbind I3 f3 tk hr hbody hN hv hNj hvj hd hcd hdj hcdj he) fun st HZ Q ⟨hp, pa, H0, F0, F, r, ok, po⟩ => ?_
  unfold actM at po
  split at po
  case h_2 => exact po.elim
  rename_i one hj
  obtain ⟨v, g1, g2⟩ := ok.sl j _ hj (fun z => nomatch z)
  refine ⟨hp, v, g1, ok.tb, fun tups => ?_⟩
  have g2 : Rp X.K F v one := g2
  refine ⟨fun _ => 0, HZ, HZ, HZ, rm ++ [.v one], okData (Ex.refl HZ) (by simp [sees.1]) (fun i s h n => ?_) ok.tb, ?_⟩
  · by_cases hi : i < rm.length
    · rw [List.getElem?_append_left hi] at h
      obtain ⟨d, v2, rfl, h1, h2, h3⟩ := sees.2 i s h n
      exact ⟨d, v2, rfl, by rw [List.getElem?_append_left (by rw [sees.1]; exact hi)]; exact h2, rp_nl tups h3 h1⟩
    · have hl : i < (rm ++ [Sl.v one]).length := (List.getElem?_eq_some_iff.mp h).1
      have : i = rm.length := by simp at hl; omega
      subst this
      rw [List.getElem?_append_right (Nat.le_refl _)] at h
      simp at h
      refine ⟨one, v, h.symm, by rw [List.getElem?_append_right (by rw [sees.1]; exact Nat.le_refl _), sees.1]; simp, dp_mono ok.fH g2⟩
  · cases ht : th (rm ++ [.v one]) with
    | no =>
      rw [ht] at po
      exact po.elim
    | ex e r1 =>
      rw [ht] at po
      exact po.elim
    | ok d r1 =>
      rw [ht] at po
      dsimp only at po
      split at po
      case isFalse => exact po.elim
      rename_i hfl
      intro F' H' v' k1 e1 dp
      obtain ⟨k3, e3⟩ := ok.since k1
      exact po _ H' v' k3 e3 (rp_flat dp hfl)
end
/-- what the def x does with the lambda: N its names, a2 the lambda's, b1 the member's (slot j) -/
def AreG (P : Program) (w : World) (K : PySem.W.Frag) (mg : Str → Option Value) (base : Heap) (kk : Nat) (x : Str) (N : List Str) (sg : Scope) (g : Addr) (bg : List Stmt) (a2 b1 : Str) (b : M D → M Fl) : Prop :=
  ∀ (cdv : Value) (A : Around) (ou : List Env) (s : Shared) (H : Hp) (f : Addr) (act : M D), Rm kk (A.deeper (envOfC x sg s.heap.objs.size g cdv)) →
    (∀ (s3 : Shared) (H3 : Hp) (ce : Env) (fp : List Addr) (scB : Scope) (W : WX) (pn : List (Addr × Obj)) (xe : Value → Shared → Prop) (p1 p2 p3 : Pos), BlkAt (cxOf (L2.CX P w) P w K mg base N x sg g cdv A ou s H E00) s3 H3 fp →
      Takes (((cxOf (L2.CX P w) P w K mg base N x sg g cdv A ou s H E00).blk s3 H3 scB ce fp).tr pn xe) W → Vis ce.scope a2 → Vis ce.scope b1 →
      PE (((cxOf (L2.CX P w) P w K mg base N x sg g cdv A ou s H E00).blk s3 H3 scB ce fp).tr pn xe) (.Call (.Name a2 p1) [.Name b1 p3] [] p2) (tP (fun σZ => σZ[2]? = some (some (.ref f))) (tM ⟨K, mg, W⟩ act))) →
    PSs (cxOf (L2.CX P w) P w K mg base N x sg g cdv A ou s H E00) bg (fun Dd st H => st[2]? = some (some (.ref f)) ∧ sM (ccOf K mg E00) (b act) Dd st H)
structure AreFn (P : Program) (w : World) (K : PySem.W.Frag) (mg : Str → Option Value) (base : Heap) (kk : Nat) (x : Str) (nn j : Nat) (b : M D → M Fl) : Prop where
  ex : ∃ (g : Addr) (fd : FuncData) (N : List Str) (sg : Scope) (pg : Arguments) (bg : List Stmt) (a0 a1 a2 b1 : Str), mg x = some (.ref g) ∧ PySem.W.keepIn K (.ref g) = true ∧ FunD K x x pg bg sg [] [] g fd ∧ Binds K fd [a0, a1, a2] [] ∧ FnScope N [a0, a1, a2] sg ∧ N.length = nn ∧ 3 ≤ nn ∧ N[2]? = some a2 ∧ N[j]? = some b1 ∧
    (a2 == ("__debug__" : Str)) = false ∧ (a2 == ("__classdict__" : Str)) = false ∧ (b1 == ("__debug__" : Str)) = false ∧ (b1 == ("__classdict__" : Str)) = false ∧ AreG P w K mg base kk x N sg g bg a2 b1 b
theorem e_are {X : Cx} {c : Cc} {x pp : Str} {kk nn j : Nat} {b : M D → M Fl} {th m1 m2 : M D} {c0 P : Addr} {e1 e2 : Expr} {params : Arguments} {body : Expr} {scope : Scope} {p lpos pos : Pos} (G : AreFn X.prog X.w X.K X.mg X.base (kk + 1) x nn j b) (hr : Rm (kk + 2) X.A) (TB : TabB X.base X.mg c0 P) (hcode : X.env.code = .ref c0)
    (hm : (P, X.env.qual ++ "<lambda>") ∈ TabT.T X.K) (hu : ∀ p ∈ TabT.T X.K, p.1 = P → p.2 = X.env.qual ++ "<lambda>") (L : LamS1 X.env.scope scope pp) (hp : pp ∉ X.N) (hdef : defaultsOf params X.env = ([], []))
    (hbind : ∀ (q : Str) (cl : List (Str × Addr)) (pm cv ctv u : Value), bindArgs (PySem.W.kla_fn "<lambda>" q params body scope cl pm cv ctv) ⟨[u], []⟩ = pure [(pp, u)])
    (h1 : PE X e1 (tM c m1)) (h2 : PE X e2 (tM c m2))
    (hbody : ∀ (E : XK) (A : Around) (outer : List Env) (s : Shared) (H : Hp) (f c' : Addr), Rm kk (A.deeper (lamEnv X scope s.heap.objs.size f c')) → PE (lamCx1 X A outer s H E scope f c' pp) body (tM ⟨X.K, X.mg, fun cls d _ H => E cls d H⟩ th))
    (hs1 : starEach [e1, e2, .Lambda params body scope lpos] X.env = (false, eval e1 X.env) :: starEach [e2, .Lambda params body scope lpos] X.env := by rfl) (hs2 : starEach [e2, .Lambda params body scope lpos] X.env = (false, eval e2 X.env) :: starEach [.Lambda params body scope lpos] X.env := by rfl)
    (hpl : (backTo pos (starEach [e2, .Lambda params body scope lpos] X.env)).any (·.1) = false := by rfl)
    (hK : c.K = X.K := by rfl) (hM : c.mg = X.mg := by rfl) (hg : Gl X x := by rfl) (hdb : (x == ("__debug__" : Str)) = false := by decide) :
    PE X (.Call (.Name x p) [e1, e2, .Lambda params body scope lpos] [] pos) (tM c (areM b nn j th m1 m2)) := by
  refine ⟨fun pins s σ H Q I h => ?_⟩
  obtain ⟨pa, H0, F0, F, r, ok, po⟩ := h
  obtain ⟨cK, cM, cW⟩ := c
  cases hK
  cases hM
  obtain ⟨g, fd, N, sg, pg, bg, a0, a1, a2, b1, hmg, hk, FD, hb, S, hNl, hn3, hN2, hNj, hd1, hd2, hd3, hd4, GG⟩ := G.ex
  obtain ⟨oc, od, dV, kV, doc, pm, an, cdv, ct, osl, rfl, lk, hcd, _, _⟩ := FD.ex
  refine wpAny_Call_Name_kw (ld_glob I hg hmg ?_ hdb)
  refine PySem.W.callWith_K (h₀ := X.base) I.ok.mod.kin hk ?_ hs1 hpl
  rw [hs1]
  show wpAny _ _ (spliced ((false, eval e1 X.env) :: backTo pos (starEach [e2, .Lambda params body scope lpos] X.env))) _ _ s
  refine Calls.spliced_cons (thn (h1.run pins s σ H (fun v1 H1 => ∃ F1 r1 d1, Ok X.K pa H0 F0 F1 H1 σ r1 ∧ Ex F F1 ∧ Rp X.K F1 v1 d1 ∧ Po (XW ⟨X.K, X.mg, cW⟩ pa H0 F0 F1) _ _) I (seqM ok po fun d r1 F1 H1 v k1 ex1 dp q => ⟨F1, r1, d, k1, ex1, dp, q⟩)) fun u1 s1 ⟨v1, H1, I1, rv1, F1, r1, d1, ok1, ex1, dp1, po1⟩ => ?_)
  rw [hs2]
  show wpAny _ _ (spliced ((false, eval e2 X.env) :: backTo pos (starEach [.Lambda params body scope lpos] X.env))) _ _ s1
  refine Calls.spliced_cons (thn (h2.run pins s1 σ H1 (fun v2 H2 => ∃ F2 r2 d2, Ok X.K pa H0 F0 F2 H2 σ r2 ∧ Ex F1 F2 ∧ Rp X.K F2 v2 d2 ∧ Po (XW ⟨X.K, X.mg, cW⟩ pa H0 F0 F2) _ _) I1 (seqM ok1 po1 fun d r2 F2 H2 v k2 ex2 dp q => ⟨F2, r2, d, k2, ex2, dp, q⟩)) fun u2 s2 ⟨v2, H2, I2, rv2, F2, r2, d2, ok2, ex2, dp2, po2⟩ => ?_)
  show wpAny _ _ (spliced ((false, eval (.Lambda params body scope lpos) X.env) :: backTo pos (starEach [] X.env))) _ _ s2
  refine Calls.spliced_cons (lam_make4 I2 TB hcode hm hu ok2.tb hdef (L.has I2.ok) fun f c' pm' ctv H3 s3 I3 eN T3 hf hfn hfr hco ⟨ps, hP, hcA⟩ => ?_)
  refine Calls.spliced_nil ⟨I3.kIn, ?_⟩
  have ok3 : Ok X.K pa H0 F0 F2 H3 σ r2 := ok2.grow eN (Ex.refl F2) (ok2.fH.trans eN) (fun _ h _ => h) T3
  have dp1' := dp_mono ex2 dp1
  have sees := sees_of ok3
  have rc : codeAny (model X.prog X.w) X.A (.call (.ref g) ⟨[u1, u2, .ref f], []⟩) (CR (L2.CX X.prog X.w) X.stack X.prog X.w H3 s3 Q E00) s3 := by
    refine LamX.run_ofS (N := N) (ps := [a0, a1, a2]) (us := [u1, u2, .ref f]) (vs := [v1, v2, .ref f]) lk hcd S hr.room I3.env0 (hb s3 [u1, u2, .ref f] I3.kIn rfl) (.cons rv1 (.cons rv2 (.cons rfl .nil))) rfl fun hr' => ?_
    have hr2 : Rm (kk + 1) (X.A.deeper (envOfC x sg s3.heap.objs.size g cdv)) := hr.deeper _ ⟨S.gen, S.co, rfl, rfl⟩
    refine ⟨_, GG cdv X.A X.stack s3 H3 f (actM th (r2.map hideT) j) hr2 (fun s4 H4 ce fp scB W pn xe p1 p2 p3 bk tk g1 g2 => e_actM I3 L hp hf hfn hfr hP hcA hm (hbind _ _ _ _ _) sees bk tk hr2 (fun E A ou s H hr4 => hbody E A ou s H f c' hr4) hN2 g1 hNj g2 hd1 hd2 hd3 hd4), rfl, fun _ => 0, H3, F2, F2, [.v d1, .v d2] ++ List.replicate (nn - 2) .unk, okData ok3.fH ?_ (fun i q h n => ?_) ok3.tb, ?_⟩
    · unfold L2.start
      simp
      omega
    · match i, h with
      | 0, h =>
        cases h
        exact ⟨d1, v1, rfl, rfl, dp1'⟩
      | 1, h =>
        cases h
        exact ⟨d2, v2, rfl, rfl, dp2⟩
      | i + 2, h =>
        have h : (List.replicate (nn - 2) Sl.unk)[i]? = some q := h
        rw [List.getElem?_replicate] at h
        split at h
        · cases h
          exact absurd rfl n
        · cases h
    · cases hb2 : b (actM th (r2.map hideT) j) ([.v d1, .v d2] ++ List.replicate (nn - 2) .unk) with
      | no =>
        rw [hb2] at po2
        exact po2.elim
      | ex e q =>
        rw [hb2] at po2
        exact po2.elim
      | ok fl q =>
        rw [hb2] at po2
        cases fl with
        | nx => exact po2.elim
        | bk => exact po2.elim
        | ct => exact po2.elim
        | rt rv =>
          cases rv with
          | o ct => exact po2.elim
          | v d =>
            dsimp only at po2
            split at po2
            case isFalse => exact po2.elim
            rename_i hfl
            intro F' H' st' v k e hv
            obtain ⟨k3, e3⟩ := ok3.since k
            exact po2 _ H' v k3 (ex1.trans (ex2.trans e3)) (rp_flat hv hfl)
  refine wpAny_call (codeAny_mono rc fun r2 s2 hq => ?_)
  cases r2 with
  | error e => exact (no_cxE hq).elim
  | ok fl =>
    cases fl with
    | ret u => exact I3.after hq
    | next => exact False.elim hq
    | brk => exact False.elim hq
    | cont => exact False.elim hq
theorem e_are2 {X : Cx} {c : Cc} {x y pp : Str} {kk nn j : Nat} {b : M D → M Fl} {th m1 m2 : M D} {f0 : Addr} {e1 e2 : Expr} {params : Arguments} {body : Expr} {scope : Scope} {p lpos pos : Pos} (G : AreFn X.prog X.w X.K X.mg X.base (kk + 1) x nn j b) (hr : Rm (kk + 2) X.A) (LA : LamAt X.K X.mg X.base y f0) (hc : CodeAt X.K f0 X.env.code)
    (L : LamS1 X.env.scope scope pp) (h1 : PE X e1 (tM c m1)) (h2 : PE X e2 (tM c m2))
    (hbody : ∀ (E : XK) (A : Around) (outer : List Env) (s : Shared) (H : Hp) (f c' : Addr), Rm kk (A.deeper (lamEnv X scope s.heap.objs.size f c')) → PE (lamCx1 X A outer s H E scope f c' pp) body (tM ⟨X.K, X.mg, fun cls d _ H => E cls d H⟩ th))
    (hp : pp ∉ X.N := by decide) (hq : X.env.qual ++ "<lambda>" = lamQ y := by rfl) (hdef : defaultsOf params X.env = ([], []) := by rfl)
    (hbind : ∀ (q : Str) (cl : List (Str × Addr)) (pm cv ctv u : Value), bindArgs (PySem.W.kla_fn "<lambda>" q params body scope cl pm cv ctv) ⟨[u], []⟩ = pure [(pp, u)] := by exact fun _ _ _ _ _ _ => rfl)
    (hs1 : starEach [e1, e2, .Lambda params body scope lpos] X.env = (false, eval e1 X.env) :: starEach [e2, .Lambda params body scope lpos] X.env := by rfl) (hs2 : starEach [e2, .Lambda params body scope lpos] X.env = (false, eval e2 X.env) :: starEach [.Lambda params body scope lpos] X.env := by rfl)
    (hpl : (backTo pos (starEach [e2, .Lambda params body scope lpos] X.env)).any (·.1) = false := by rfl)
    (hK : c.K = X.K := by rfl) (hM : c.mg = X.mg := by rfl) (hg : Gl X x := by rfl) (hdb : (x == ("__debug__" : Str)) = false := by decide) :
    PE X (.Call (.Name x p) [e1, e2, .Lambda params body scope lpos] [] pos) (tM c (areM b nn j th m1 m2)) := by
  obtain ⟨c0, P, g1, TB, hf, hm, hu⟩ := LA.ex
  subst hf
  exact e_are G hr TB (tabP_code g1 hc) (by rw [hq]; exact hm) (by rw [hq]; exact hu) L hp hdef hbind h1 h2 hbody hs1 hs2 hpl hK hM hg hdb
end
theorem wipe_keep [TabT] {σ σ' : L2.St} {i : Nat} {vs : List Nat} {x : V} (hi : i ∉ vs) (e : wipe σ' vs = wipe σ vs) (h : σ[i]? = some (some x)) : σ'[i]? = some (some x) := by
  have e1 : (wipe σ' vs)[i]? = (wipe σ vs)[i]? := by rw [e]
  rw [wipe_get, wipe_get, if_neg hi, if_neg hi] at e1
  rw [e1]
  exact h
/-! ### told plainly -/
section
variable [TabT] {X : Exn → En → Prop}
theorem po_actM {k : D → En → Prop} {th : M D} {rm r : En} {j : Nat} {one : D} (hj : r[j]? = some (.v one)) (h : Wp (fun _ _ => False) (th (rm ++ [.v one])) fun d _ => flatD d = true ∧ k d r) : Wp X (actM th rm j r) k := by
  unfold actM
  rw [hj]
  dsimp only
  cases e : th (rm ++ [.v one]) with
  | no =>
    rw [e] at h
    simp at h
  | ex x r1 =>
    rw [e] at h
    simp at h
  | ok d r1 =>
    rw [e, po_ok] at h
    dsimp only
    rw [if_pos h.1, po_ok]
    exact h.2
theorem po_areM {k : D → En → Prop} {b : M D → M Fl} {nn j : Nat} {th m1 m2 : M D} {r : En} (h : Wp X (m1 r) fun d1 r1 => Wp X (m2 r1) fun d2 r2 => Wp (fun _ _ => False) (b (actM th (r2.map hideT) j) ([.v d1, .v d2] ++ List.replicate (nn - 2) .unk)) fun fl _ => ∃ d, fl = .rt (.v d) ∧ flatD d = true ∧ k d r2) : Wp X (areM b nn j th m1 m2 r) k := by
  unfold areM
  show Wp X ((m1 r).bind _) k
  rw [po_bind]
  refine po_mono h fun d1 r1 h => ?_
  show Wp X ((m2 r1).bind _) k
  rw [po_bind]
  refine po_mono h fun d2 r2 h => ?_
  cases e : b (actM th (r2.map hideT) j) ([.v d1, .v d2] ++ List.replicate (nn - 2) .unk) with
  | no =>
    rw [e] at h
    simp at h
  | ex x r1 =>
    rw [e] at h
    simp at h
  | ok fl r1 =>
    rw [e, po_ok] at h
    obtain ⟨d, rfl, h1, h2⟩ := h
    dsimp only
    rw [if_pos h1, po_ok]
    exact h2
end
end Pu
namespace K22
open PySem PySem.Spec PyProof.Rows L2 Pu
abbrev ln : List Str := ["is_shaped"]
instance : TabT := ⟨tabsN ln⟩
def topS (i : Nat) : Stmt := PySem.Challenge.pw_commonhouse_k22_each_condition_of_a_pape.main.body.getD i (.Pass ⟨0, 0, 0, 0⟩)
abbrev FnP (K : PySem.W.Frag) (x : Str) (st : Stmt) (f : Addr) (fd : FuncData) : Prop := FunD K x x (defArgs st) (defBody st) (defScope st) [] [] f fd
abbrev xn : List Str := ["NoPaper"]
abbrev xy : List Str := ["Endless", "NoFit", "NoName", "NoRow", "NoTable", "NoText", "NoThing", "TooGreat", "NoPaper"]
abbrev fxt : List (Str × Str) := [("NoPaper", "word"), ("NoPaper", "number")]
def xb (K : PySem.W.Frag) : Bool := xtB xn xy K && (heB K && (ftB fxt K && oeB K "NoPaper" ["word", "number"]))
structure Bz (K : PySem.W.Frag) (w : World) (mg : Str → Option Value) : Prop where
  b_isinstance : mg "isinstance" = none
  b_int : mg "int" = none
  b_bool : mg "bool" = none
  b_zip : mg "zip" = none
  b_range : mg "range" = none
  b_tuple : mg "tuple" = none
  b_enumerate : mg "enumerate" = none
  b_len : mg "len" = none
  b_abs : mg "abs" = none
  b_all : mg "all" = none
  b_ValueError : mg "ValueError" = none
  b_min : mg "min" = none
  b_max : mg "max" = none
  g_MOST_ROUNDS : ∃ t, mg "MOST_ROUNDS" = some (.int 6 t)
  xt : XTab K mg xn xy
  hei : HeI K mg
  oe_NoPaper : OeI K mg "NoPaper" ["word", "number"]
  ft : FTab K fxt
section
variable {P : Program} {w : World} {K : PySem.W.Frag} {mg : Str → Option Value} {base : Heap}
abbrev s_init_NoPaper : Stmt := clsS (topS 5) 0
theorem sc_init_NoPaper : FnScope ["self", "word", "number"] ["self", "word", "number"] (defScope s_init_NoPaper) := ⟨rfl, rfl, rfl, by decide +kernel, rfl, by decide +kernel, by decide +kernel⟩
theorem ok_init_NoPaper {f : Addr} {fd : FuncData} (Fu : FunD K "__init__" "NoPaper.__init__" (defArgs s_init_NoPaper) (defBody s_init_NoPaper) (defScope s_init_NoPaper) [] [] f fd) (B : Bz K w mg) : FnOk P w K mg base CXn 1 f fd ["self", "word", "number"] (spI (He.ga K "NoPaper") ["word", "number"]) :=
  FunD.ok Fu sc_init_NoPaper (fun vs H Q E h => spI_len h) fun cdv A outer s H vs Q E hr h => ⟨_, pss_cons (ps_expr (pe_heinit B.hei (pa_cons (pe_var (i := 0) rfl (.inl rfl)) (pa_cons pe_str pa_nil)))) (pss_cons (ps_ost (pe_var (i := 0) rfl (.inl rfl)) (pe_var (i := 1) rfl (.inl rfl))) (pss_one (ps_ost (pe_var (i := 0) rfl (.inl rfl)) (pe_var (i := 2) rfl (.inl rfl))))), spI_2 B.oe_NoPaper h⟩
abbrev s_is_whole : Stmt := topS 12
abbrev N_is_whole : List Str := ["thing"]
theorem sc_is_whole : FnScope N_is_whole ["thing"] (defScope s_is_whole) := ⟨rfl, rfl, rfl, by decide +kernel, rfl, by decide +kernel, by decide +kernel⟩
noncomputable def b_is_whole : M Fl := (sRet ((eAnd (una (isiD "int") (getS 0)) (eNot (una (isiD "bool") (getS 0)))).bind fun d => M.ret (.v d)))
noncomputable def m_is_whole : List Sl → Re RV := fnOf 1 b_is_whole
theorem ok_is_whole {f : Addr} {fd : FuncData} (Fu : FnP K "is_whole" s_is_whole f fd) (B : Bz K w mg) (NS : SeerK P base) : FnG P w K mg base 1 f fd ["thing"] (spG K mg 1 m_is_whole) :=
  mk_fn Fu sc_is_whole fun cdv A outer s H E hr =>
  (ss_one (s_ret (o_val (e_and (e_isi (T := "int") (e_var 0) B.b_isinstance B.b_int) (e_one (e_not (e_isi (T := "bool") (e_var 0) B.b_isinstance B.b_bool)))))))
abbrev s_mixed : Stmt := topS 19
abbrev N_mixed : List Str := ["wide", "numbers", "rows", "found", "number", "row", "at"]
theorem sc_mixed : FnScope N_mixed ["wide", "numbers", "rows"] (defScope s_mixed) := ⟨rfl, rfl, rfl, by decide +kernel, rfl, by decide +kernel, by decide +kernel⟩
noncomputable def b_mixed : M Fl := (sSeq (sSet 3 (bin mulD (frzM (oLst (aCons (M.ret (.int 0)) aNil))) (getS 0)))
  (sSeq (sFor (iBy zipOf (aCons (getS 1) (aCons (getS 2) aNil))) (gT (gCn (gN 4) (gCn (gN 5) gNl)))
  (sSet 3 (frzM (oComp (iBy rng1 (aCons (getS 0) aNil)) [6] (gN 6) yes (bin addD (bin ixD (getS 3) (getS 6)) (bin mulD (getS 4) (bin ixD (getS 5) (getS 6))))))))
  (sRet ((nry (one tupD) (aCons (getS 3) aNil)).bind fun d => M.ret (.v d)))))
noncomputable def m_mixed : List Sl → Re RV := fnOf 7 b_mixed
theorem ok_mixed {f : Addr} {fd : FuncData} (Fu : FnP K "mixed" s_mixed f fd) (B : Bz K w mg) (NS : SeerK P base) : FnG P w K mg base 1 f fd ["wide", "numbers", "rows"] (spG K mg 3 m_mixed) :=
  mk_fn Fu sc_mixed fun cdv A outer s H E hr =>
  (ss_cons (s_set (i := 3) (e_op mul_data (e_val (o_lst (a_cons e_int a_nil))) (e_var 0)) sc_mixed.nd)
  (ss_cons (s_for (i_zip (a_cons (e_var 1) (a_cons (e_var 2) a_nil)) B.b_zip) (g_tup (g_cons (g_name 4 sc_mixed.nd) (g_cons (g_name 5 sc_mixed.nd) g_nil)) (gCn_len (gCn_len gNl_len)))
  (ss_one (s_set (i := 3) (e_val (o_lc (own := [("at", 6)]) (i_rng1 (a_cons (e_var 0) a_nil) B.b_range) (blkOk_by (show blkC N_mixed (defScope s_mixed) _ [("at", 6)] = true from by decide +kernel)) (fun _ _ _ _ _ => (g_name 6 sc_mixed.nd)) (fun _ _ _ _ _ => ts_nil) (fun _ _ _ _ _ => (e_op add_data (e_ix ix_data (e_var 3) (e_var 6)) (e_op mul_data (e_var 4) (e_ix ix_data (e_var 5) (e_var 6))))) sc_mixed.nd)) sc_mixed.nd)) (passes_of rfl))
  (ss_one (s_ret (o_val (e_callT tup_data B.b_tuple (a_cons (e_var 3) a_nil)))))))
abbrev s_unit_row : Stmt := topS 20
abbrev N_unit_row : List Str := ["n", "at", "k"]
theorem sc_unit_row : FnScope N_unit_row ["n", "at"] (defScope s_unit_row) := ⟨rfl, rfl, rfl, by decide +kernel, rfl, by decide +kernel, by decide +kernel⟩
noncomputable def b_unit_row : M Fl := (sRet ((nry (one tupD) (aCons (frzM (oComp (iBy rng1 (aCons (getS 0) aNil)) [2] (gN 2) yes (nry (one intD) (aCons (bin eqD (getS 2) (getS 1)) aNil)))) aNil)).bind fun d => M.ret (.v d)))
noncomputable def m_unit_row : List Sl → Re RV := fnOf 3 b_unit_row
theorem ok_unit_row {f : Addr} {fd : FuncData} (Fu : FnP K "unit_row" s_unit_row f fd) (B : Bz K w mg) (NS : SeerK P base) : FnG P w K mg base 1 f fd ["n", "at"] (spG K mg 2 m_unit_row) :=
  mk_fn Fu sc_unit_row fun cdv A outer s H E hr =>
  (ss_one (s_ret (o_val (e_callT tup_data B.b_tuple (a_cons (e_val (o_lc (own := [("k", 2)]) (i_rng1 (a_cons (e_var 0) a_nil) B.b_range) (blkOk_by (show blkC N_unit_row (defScope s_unit_row) _ [("k", 2)] = true from by decide +kernel)) (fun _ _ _ _ _ => (g_name 2 sc_unit_row.nd)) (fun _ _ _ _ _ => ts_nil) (fun _ _ _ _ _ => (e_callT int_data B.b_int (a_cons (e_cmp (eq_data hr.units) (e_var 2) (e_var 1)) a_nil))) sc_unit_row.nd)) a_nil)))))
abbrev s_no_form : Stmt := topS 26
abbrev N_no_form : List Str := ["form", "i", "around"]
theorem sc_no_form : FnScope N_no_form ["form"] (defScope s_no_form) := ⟨rfl, rfl, rfl, by decide +kernel, rfl, by decide +kernel, by decide +kernel⟩
noncomputable def b_no_form : M Fl := (sSeq (sFor (iBy enOf (aCons (getS 0) aNil)) (gT (gCn (gN 1) (gCn (gN 2) gNl)))
  (sIf (tOrM (tBool (bin ltD (getS 2) (M.ret (.int 2)))) (tAndM (tBool (bin ltD (bin addD (getS 1) (M.ret (.int 1))) (nry (one lenD) (aCons (getS 0) aNil)))) (tBool (bin neD (bin modD (bin ixD (getS 0) (bin addD (getS 1) (M.ret (.int 1)))) (getS 2)) (M.ret (.int 0))))))
  (sRet ((getS 1).bind fun d => M.ret (.v d)))
  sNil))
  (sRet ((M.ret .none).bind fun d => M.ret (.v d))))
noncomputable def m_no_form : List Sl → Re RV := fnOf 3 b_no_form
theorem ok_no_form {f : Addr} {fd : FuncData} (Fu : FnP K "no_form" s_no_form f fd) (B : Bz K w mg) (NS : SeerK P base) : FnG P w K mg base 1 f fd ["form"] (spG K mg 1 m_no_form) :=
  mk_fn Fu sc_no_form fun cdv A outer s H E hr =>
  (ss_cons (s_for (i_enum (a_cons (e_var 0) a_nil) B.b_enumerate) (g_tup (g_cons (g_name 1 sc_no_form.nd) (g_cons (g_name 2 sc_no_form.nd) g_nil)) (gCn_len (gCn_len gNl_len)))
  (ss_one (s_if (PW.pt (w_or (t_cmp lt_data (e_var 2) e_int) (w_or1 (PW.pt (w_and (t_cmp lt_data (e_op add_data (e_var 1) e_int) (e_callB len_data B.b_len (a_cons (e_var 0) a_nil))) (w_and1 (t_cmp (ne_data hr.units) (e_op mod_data (e_ix ix_data (e_var 0) (e_op add_data (e_var 1) e_int)) (e_var 2)) e_int)))))))
  (ss_one (s_ret (o_val (e_var 1))))
  ss_nil)) (passes_of rfl))
  (ss_one (s_ret (o_val e_non))))
abbrev s__law_pen : Stmt := topS 33
abbrev N__law_pen : List Str := ["_law_script", "_law_k", "_law_cell"]
theorem sc__law_pen : FnScope N__law_pen ["_law_script", "_law_k"] (defScope s__law_pen) := ⟨rfl, rfl, rfl, by decide +kernel, rfl, by decide +kernel, by decide +kernel⟩
noncomputable def b__law_pen : M Fl := (sSeq (sSet 2 (bin addD (bin mulD (M.ret (.int 6203)) (getS 1)) (M.ret (.int 17))))
  (sSeq (sIf (tBool (bin ltD (getS 1) (nry (one lenD) (aCons (getS 0) aNil))))
  (sSet 2 (bin ixD (getS 0) (getS 1)))
  (sIf (tBool (bin gtD (nry (one lenD) (aCons (getS 0) aNil)) (M.ret (.int 0))))
  (sSet 2 (bin addD (bin modD (bin ixD (getS 0) (bin modD (getS 1) (nry (one lenD) (aCons (getS 0) aNil)))) (bin powD (M.ret (.int 10)) (M.ret (.int 15)))) (bin mulD (M.ret (.int 40487)) (getS 1))))
  sNil))
  (sSeq (sIf (tBool (bin geD (nry (one absD) (aCons (getS 2) aNil)) (bin powD (M.ret (.int 10)) (M.ret (.int 18)))))
  (sRet (oLst (aCons (bin subD (nry (one absD) (aCons (getS 2) aNil)) (bin powD (M.ret (.int 10)) (M.ret (.int 18)))) (aCons (bin modD (getS 2) (M.ret (.int 2147483587))) (aCons (M.ret (.int 0)) aNil)))))
  sNil)
  (sRet (oLst (aCons (M.ret (.int 0)) (aCons (bin addD (bin modD (getS 2) (M.ret (.int 2147483587))) (bin mulD (M.ret (.int 12289)) (getS 1))) (aCons (M.ret (.int 0)) aNil))))))))
noncomputable def m__law_pen : List Sl → Re RV := fnOf 3 b__law_pen
theorem ok__law_pen {f : Addr} {fd : FuncData} (Fu : FnP K "_law_pen" s__law_pen f fd) (B : Bz K w mg) (NS : SeerK P base) : FnG P w K mg base 1 f fd ["_law_script", "_law_k"] (spG K mg 2 m__law_pen) :=
  mk_fn Fu sc__law_pen fun cdv A outer s H E hr =>
  (ss_cons (s_set (i := 2) (e_op add_data (e_op mul_data e_int (e_var 1)) e_int) sc__law_pen.nd)
  (ss_cons (s_if (t_cmp lt_data (e_var 1) (e_callB len_data B.b_len (a_cons (e_var 0) a_nil)))
  (ss_one (s_set (i := 2) (e_ix ix_data (e_var 0) (e_var 1)) sc__law_pen.nd))
  (ss_one (s_if (t_cmp gt_data (e_callB len_data B.b_len (a_cons (e_var 0) a_nil)) e_int)
  (ss_one (s_set (i := 2) (e_op add_data (e_op mod_data (e_ix ix_data (e_var 0) (e_op mod_data (e_var 1) (e_callB len_data B.b_len (a_cons (e_var 0) a_nil)))) (e_op pow_data e_int e_int)) (e_op mul_data e_int (e_var 1))) sc__law_pen.nd))
  ss_nil)))
  (ss_cons (s_if (t_cmp ge_data (e_callB abs_data B.b_abs (a_cons (e_var 2) a_nil)) (e_op pow_data e_int e_int))
  (ss_one (s_ret (o_lst (a_cons (e_op sub_data (e_callB abs_data B.b_abs (a_cons (e_var 2) a_nil)) (e_op pow_data e_int e_int)) (a_cons (e_op mod_data (e_var 2) e_int) (a_cons e_int a_nil))))))
  ss_nil)
  (ss_one (s_ret (o_lst (a_cons e_int (a_cons (e_op add_data (e_op mod_data (e_var 2) e_int) (e_op mul_data e_int (e_var 1))) (a_cons e_int a_nil)))))))))
abbrev s__law_draw : Stmt := topS 34
abbrev N__law_draw : List Str := ["_law_pen_here", "_law_many", "_law_found", "_law_number"]
theorem sc__law_draw : FnScope N__law_draw ["_law_pen_here", "_law_many"] (defScope s__law_draw) := ⟨rfl, rfl, rfl, by decide +kernel, rfl, by decide +kernel, by decide +kernel⟩
noncomputable def b__law_draw : M Fl := (sSeq (sPut' 0 (M.ret (.int 2)) (bin addD (eIxS 0 (M.ret (.int 2))) (M.ret (.int 1))))
  (sSeq (sIf (tBool (bin gtD (eIxS 0 (M.ret (.int 0))) (M.ret (.int 0))))
  (sSeq (sSet 2 (bin modD (eIxS 0 (M.ret (.int 0))) (getS 1)))
  (sSeq (sPut' 0 (M.ret (.int 0)) (bin fdivLD (eIxS 0 (M.ret (.int 0))) (getS 1)))
  (sRet ((getS 2).bind fun d => M.ret (.v d)))))
  sNil)
  (sSeq (sSet 3 (bin modD (bin mulD (bin addD (bin addD (eIxS 0 (M.ret (.int 1))) (bin mulD (M.ret (.int 50021)) (eIxS 0 (M.ret (.int 2))))) (M.ret (.int 19))) (M.ret (.int 48271))) (M.ret (.int 2147483647))))
  (sSeq (sSet 3 (bin modD (bin addD (bin mulD (getS 3) (getS 3)) (bin mulD (M.ret (.int 69621)) (eIxS 0 (M.ret (.int 2))))) (M.ret (.int 2147483629))))
  (sRet ((bin modD (bin fdivLD (bin modD (bin mulD (getS 3) (bin addD (bin modD (getS 3) (M.ret (.int 65521))) (M.ret (.int 5)))) (M.ret (.int 2147483587))) (M.ret (.int 64))) (getS 1)).bind fun d => M.ret (.v d)))))))
noncomputable def m__law_draw : List Sl → Re RV := fnOf 4 b__law_draw
theorem ok__law_draw {f : Addr} {fd : FuncData} (Fu : FnP K "_law_draw" s__law_draw f fd) (B : Bz K w mg) (NS : SeerK P base) : FnG P w K mg base 1 f fd ["_law_pen_here", "_law_many"] (spG K mg 2 m__law_draw) :=
  mk_fn Fu sc__law_draw fun cdv A outer s H E hr =>
  (ss_cons (s_put 0 e_int (e_op add_data (e_ixS 0 e_int hr.u1) e_int) hr.u1)
  (ss_cons (s_if (t_cmp gt_data (e_ixS 0 e_int hr.u1) e_int)
  (ss_cons (s_set (i := 2) (e_op mod_data (e_ixS 0 e_int hr.u1) (e_var 1)) sc__law_draw.nd)
  (ss_cons (s_put 0 e_int (e_op (fdivL_data hr NS) (e_ixS 0 e_int hr.u1) (e_var 1)) hr.u1)
  (ss_one (s_ret (o_val (e_var 2))))))
  ss_nil)
  (ss_cons (s_set (i := 3) (e_op mod_data (e_op mul_data (e_op add_data (e_op add_data (e_ixS 0 e_int hr.u1) (e_op mul_data e_int (e_ixS 0 e_int hr.u1))) e_int) e_int) e_int) sc__law_draw.nd)
  (ss_cons (s_set (i := 3) (e_op mod_data (e_op add_data (e_op mul_data (e_var 3) (e_var 3)) (e_op mul_data e_int (e_ixS 0 e_int hr.u1))) e_int) sc__law_draw.nd)
  (ss_one (s_ret (o_val (e_op mod_data (e_op (fdivL_data hr NS) (e_op mod_data (e_op mul_data (e_var 3) (e_op add_data (e_op mod_data (e_var 3) e_int) e_int)) e_int) e_int) (e_var 1)))))))))
abbrev s__law_forms : Stmt := topS 36
abbrev N__law_forms : List Str := ["_law_n", "_law_m", "_law_two", "_law_one", "_law_behind", "_law_ahead"]
theorem sc__law_forms : FnScope N__law_forms ["_law_n", "_law_m"] (defScope s__law_forms) := ⟨rfl, rfl, rfl, by decide +kernel, rfl, by decide +kernel, by decide +kernel⟩
noncomputable def b__law_forms : M Fl := (sSeq (sSet 2 (eTup (aCons (eTup (aCons (M.ret (.int 1)) (aCons (eTup (aCons (eTup (aCons (bin addD (bin mulD (getS 0) (getS 0)) (getS 0)) aNil)) aNil)) aNil))) (aCons (eTup (aCons (eTup (aCons (getS 0) (aCons (bin addD (getS 0) (M.ret (.int 1))) aNil))) (aCons (eTup (aCons (eTup (aCons (M.ret (.int 1)) (aCons (M.ret (.int 1)) aNil))) aNil)) (aCons (eTup (aCons (eTup (aCons (bin addD (getS 0) (M.ret (.int 1))) aNil)) (aCons (eTup (aCons (bin mulD (getS 0) (getS 0)) aNil)) aNil))) (aCons (eTup (aCons (eTup (aCons (bin subD (M.ret (.int 0)) (M.ret (.int 1))) aNil)) aNil)) (aCons (eTup (aCons (eTup (aCons (M.ret (.int 1)) aNil)) (aCons (eTup (aCons (getS 0) aNil)) aNil))) aNil)))))) aNil))))
  (sSeq (sSet 3 (eTup (aCons (eTup (aCons (M.ret (.int 0)) (aCons (eTup aNil) aNil))) (aCons (eTup (aCons (eTup (aCons (M.ret (.int 1)) aNil)) (aCons (eTup aNil) (aCons (eTup (aCons (eTup aNil) aNil)) (aCons (eTup aNil) (aCons (eTup (aCons (eTup aNil) aNil)) aNil)))))) aNil))))
  (sSeq (sSet 4 (eTup (aCons (eTup (aCons (M.ret (.int 1)) (aCons (eTup (aCons (eTup (aCons (getS 0) aNil)) aNil)) aNil))) (aCons (eTup (aCons (eTup (aCons (getS 0) (aCons (M.ret (.int 1)) aNil))) (aCons (eTup (aCons (eTup (aCons (M.ret (.int 1)) (aCons (M.ret (.int 0)) aNil))) aNil)) (aCons (eTup (aCons (eTup (aCons (M.ret (.int 1)) aNil)) (aCons (eTup (aCons (M.ret (.int 0)) aNil)) aNil))) (aCons (eTup (aCons (eTup (aCons (M.ret (.int 0)) aNil)) aNil)) (aCons (eTup (aCons (eTup (aCons (M.ret (.int 1)) aNil)) (aCons (eTup (aCons (M.ret (.int 0)) aNil)) aNil))) aNil)))))) aNil))))
  (sSeq (sSet 5 (eTup (aCons (eTup (aCons (M.ret (.int 1)) (aCons (eTup (aCons (eTup (aCons (getS 0) aNil)) aNil)) aNil))) (aCons (eTup (aCons (eTup (aCons (M.ret (.int 1)) (aCons (getS 0) aNil))) (aCons (eTup (aCons (eTup (aCons (M.ret (.int 0)) (aCons (M.ret (.int 1)) aNil))) aNil)) (aCons (eTup (aCons (eTup (aCons (M.ret (.int 0)) aNil)) (aCons (eTup (aCons (M.ret (.int 1)) aNil)) aNil))) (aCons (eTup (aCons (eTup (aCons (M.ret (.int 0)) aNil)) aNil)) (aCons (eTup (aCons (eTup (aCons (M.ret (.int 0)) aNil)) (aCons (eTup (aCons (M.ret (.int 1)) aNil)) aNil))) aNil)))))) aNil))))
  (sRet (oLst (aCons (getS 2) (aCons (getS 3) (aCons (getS 4) (aCons (getS 5) aNil))))))))))
noncomputable def m__law_forms : List Sl → Re RV := fnOf 6 b__law_forms
theorem ok__law_forms {f : Addr} {fd : FuncData} (Fu : FnP K "_law_forms" s__law_forms f fd) (B : Bz K w mg) (NS : SeerK P base) : FnG P w K mg base 1 f fd ["_law_n", "_law_m"] (spG K mg 2 m__law_forms) :=
  mk_fn Fu sc__law_forms fun cdv A outer s H E hr =>
  (ss_cons (s_set (i := 2) (e_tup (a_cons (e_tup (a_cons e_int (a_cons (e_tup (a_cons (e_tup (a_cons (e_op add_data (e_op mul_data (e_var 0) (e_var 0)) (e_var 0)) a_nil)) a_nil)) a_nil))) (a_cons (e_tup (a_cons (e_tup (a_cons (e_var 0) (a_cons (e_op add_data (e_var 0) e_int) a_nil))) (a_cons (e_tup (a_cons (e_tup (a_cons e_int (a_cons e_int a_nil))) a_nil)) (a_cons (e_tup (a_cons (e_tup (a_cons (e_op add_data (e_var 0) e_int) a_nil)) (a_cons (e_tup (a_cons (e_op mul_data (e_var 0) (e_var 0)) a_nil)) a_nil))) (a_cons (e_tup (a_cons (e_tup (a_cons (e_op sub_data e_int e_int) a_nil)) a_nil)) (a_cons (e_tup (a_cons (e_tup (a_cons e_int a_nil)) (a_cons (e_tup (a_cons (e_var 0) a_nil)) a_nil))) a_nil)))))) a_nil))) sc__law_forms.nd)
  (ss_cons (s_set (i := 3) (e_tup (a_cons (e_tup (a_cons e_int (a_cons (e_tup a_nil) a_nil))) (a_cons (e_tup (a_cons (e_tup (a_cons e_int a_nil)) (a_cons (e_tup a_nil) (a_cons (e_tup (a_cons (e_tup a_nil) a_nil)) (a_cons (e_tup a_nil) (a_cons (e_tup (a_cons (e_tup a_nil) a_nil)) a_nil)))))) a_nil))) sc__law_forms.nd)
  (ss_cons (s_set (i := 4) (e_tup (a_cons (e_tup (a_cons e_int (a_cons (e_tup (a_cons (e_tup (a_cons (e_var 0) a_nil)) a_nil)) a_nil))) (a_cons (e_tup (a_cons (e_tup (a_cons (e_var 0) (a_cons e_int a_nil))) (a_cons (e_tup (a_cons (e_tup (a_cons e_int (a_cons e_int a_nil))) a_nil)) (a_cons (e_tup (a_cons (e_tup (a_cons e_int a_nil)) (a_cons (e_tup (a_cons e_int a_nil)) a_nil))) (a_cons (e_tup (a_cons (e_tup (a_cons e_int a_nil)) a_nil)) (a_cons (e_tup (a_cons (e_tup (a_cons e_int a_nil)) (a_cons (e_tup (a_cons e_int a_nil)) a_nil))) a_nil)))))) a_nil))) sc__law_forms.nd)
  (ss_cons (s_set (i := 5) (e_tup (a_cons (e_tup (a_cons e_int (a_cons (e_tup (a_cons (e_tup (a_cons (e_var 0) a_nil)) a_nil)) a_nil))) (a_cons (e_tup (a_cons (e_tup (a_cons e_int (a_cons (e_var 0) a_nil))) (a_cons (e_tup (a_cons (e_tup (a_cons e_int (a_cons e_int a_nil))) a_nil)) (a_cons (e_tup (a_cons (e_tup (a_cons e_int a_nil)) (a_cons (e_tup (a_cons e_int a_nil)) a_nil))) (a_cons (e_tup (a_cons (e_tup (a_cons e_int a_nil)) a_nil)) (a_cons (e_tup (a_cons (e_tup (a_cons e_int a_nil)) (a_cons (e_tup (a_cons e_int a_nil)) a_nil))) a_nil)))))) a_nil))) sc__law_forms.nd)
  (ss_one (s_ret (o_lst (a_cons (e_var 2) (a_cons (e_var 3) (a_cons (e_var 4) (a_cons (e_var 5) a_nil)))))))))))
abbrev s__law_alone : Stmt := topS 37
abbrev N__law_alone : List Str := ["_law_n", "_law_m", "_law_house", "_law_wide", "_law_found"]
theorem sc__law_alone : FnScope N__law_alone ["_law_n", "_law_m"] (defScope s__law_alone) := ⟨rfl, rfl, rfl, by decide +kernel, rfl, by decide +kernel, by decide +kernel⟩
noncomputable def b__law_alone : M Fl := (sSeq (sSet 2 (eTup (aCons (M.ret (.int 1)) (aCons (eTup (aCons (eTup (aCons (getS 0) aNil)) aNil)) aNil))))
  (sSeq (sSet 3 (eTup (aCons (M.ret (.int 1)) (aCons (eTup (aCons (eTup (aCons (bin mulD (getS 0) (getS 1)) aNil)) aNil)) aNil))))
  (sSeq (sSetO 4 (oLst (aCons (eTup (aCons (getS 2) (aCons (eTup (aCons (eTup (aCons (getS 0) aNil)) (aCons (eTup (aCons (eTup (aCons (M.ret (.int 1)) aNil)) aNil)) (aCons (eTup (aCons (eTup (aCons (M.ret (.int 1)) aNil)) aNil)) (aCons (eTup (aCons (eTup (aCons (M.ret (.int 0)) aNil)) aNil)) (aCons (eTup (aCons (eTup (aCons (M.ret (.int 1)) aNil)) aNil)) aNil)))))) (aCons (M.ret .none) aNil)))) aNil)))
  (sSeq (sAppend 4 (eTup (aCons (getS 3) (aCons (eTup (aCons (eTup (aCons (bin mulD (getS 0) (getS 1)) aNil)) (aCons (eTup (aCons (eTup (aCons (M.ret (.int 1)) aNil)) aNil)) (aCons (eTup (aCons (eTup (aCons (bin addD (M.ret (.int 1)) (bin mulD (getS 0) (getS 1))) aNil)) aNil)) (aCons (eTup (aCons (eTup (aCons (bin subD (M.ret (.int 0)) (M.ret (.int 1))) aNil)) aNil)) (aCons (eTup (aCons (eTup (aCons (bin addD (M.ret (.int 1)) (bin mulD (getS 0) (getS 1))) aNil)) aNil)) aNil)))))) (aCons (M.ret .none) aNil)))))
  (sSeq (sAppend 4 (eTup (aCons (eTup (aCons (M.ret (.int 1)) (aCons (eTup (aCons (eTup (aCons (M.ret (.int 1)) aNil)) aNil)) aNil))) (aCons (eTup (aCons (eTup aNil) (aCons (eTup (aCons (eTup aNil) aNil)) (aCons (eTup aNil) (aCons (eTup (aCons (eTup (aCons (M.ret (.int 1)) aNil)) aNil)) (aCons (eTup aNil) aNil)))))) (aCons (M.ret .none) aNil)))))
  (sSeq (sAppend 4 (eTup (aCons (getS 2) (aCons (eTup (aCons (eTup (aCons (bin mulD (getS 0) (getS 1)) aNil)) (aCons (eTup (aCons (eTup (aCons (M.ret (.int 1)) aNil)) aNil)) (aCons (eTup (aCons (eTup (aCons (M.ret (.int 1)) aNil)) aNil)) (aCons (eTup (aCons (eTup (aCons (M.ret (.int 0)) aNil)) aNil)) (aCons (eTup (aCons (eTup (aCons (getS 1) aNil)) aNil)) aNil)))))) (aCons (M.ret (.str "rule")) aNil)))))
  (sSeq (sAppend 4 (eTup (aCons (eTup (aCons (M.ret (.int 1)) (aCons (eTup (aCons (eTup (aCons (M.ret (.int 1)) aNil)) aNil)) aNil))) (aCons (eTup (aCons (eTup (aCons (getS 0) aNil)) (aCons (eTup (aCons (eTup (aCons (M.ret (.int 0)) aNil)) aNil)) (aCons (eTup (aCons (eTup (aCons (M.ret (.int 0)) aNil)) aNil)) (aCons (eTup (aCons (eTup (aCons (M.ret (.int 1)) aNil)) aNil)) (aCons (eTup (aCons (eTup (aCons (M.ret (.int 0)) aNil)) aNil)) aNil)))))) (aCons (M.ret (.str "round")) aNil)))))
  (sSeq (sAppend 4 (eTup (aCons (getS 2) (aCons (eTup (aCons (eTup aNil) (aCons (eTup (aCons (eTup aNil) aNil)) (aCons (eTup aNil) (aCons (eTup (aCons (eTup (aCons (M.ret (.int 1)) aNil)) aNil)) (aCons (eTup aNil) aNil)))))) (aCons (M.ret (.str "maker")) aNil)))))
  (sSeq (sAppend 4 (eTup (aCons (getS 2) (aCons (eTup (aCons (eTup (aCons (getS 0) aNil)) (aCons (eTup (aCons (eTup (aCons (M.ret (.int 1)) aNil)) aNil)) (aCons (eTup (aCons (eTup (aCons (M.ret (.int 1)) aNil)) aNil)) (aCons (eTup (aCons (eTup (aCons (M.ret (.int 1)) aNil)) aNil)) (aCons (eTup (aCons (eTup (aCons (M.ret (.int 1)) aNil)) aNil)) aNil)))))) (aCons (M.ret (.str "maker")) aNil)))))
  (sSeq (sAppend 4 (eTup (aCons (getS 3) (aCons (eTup (aCons (eTup (aCons (getS 0) aNil)) (aCons (eTup (aCons (eTup (aCons (M.ret (.int 1)) aNil)) aNil)) (aCons (eTup (aCons (eTup (aCons (M.ret (.int 1)) aNil)) aNil)) (aCons (eTup (aCons (eTup (aCons (M.ret (.int 0)) aNil)) aNil)) (aCons (eTup (aCons (eTup (aCons (M.ret (.int 1)) aNil)) aNil)) aNil)))))) (aCons (M.ret (.str "turn")) aNil)))))
  (sSeq (sAppend 4 (eTup (aCons (getS 2) (aCons (eTup (aCons (eTup (aCons (getS 0) aNil)) (aCons (eTup (aCons (eTup (aCons (M.ret (.int 1)) aNil)) aNil)) (aCons (eTup (aCons (eTup (aCons (M.ret (.int 1)) aNil)) aNil)) (aCons (eTup (aCons (eTup (aCons (M.ret (.int 0)) aNil)) aNil)) (aCons (eTup (aCons (eTup (aCons (getS 1) aNil)) aNil)) aNil)))))) (aCons (M.ret (.str "turn")) aNil)))))
  (sRet (takeS 4)))))))))))))
noncomputable def m__law_alone : List Sl → Re RV := fnOf 5 b__law_alone
theorem ok__law_alone {f : Addr} {fd : FuncData} (Fu : FnP K "_law_alone" s__law_alone f fd) (B : Bz K w mg) (NS : SeerK P base) : FnG P w K mg base 1 f fd ["_law_n", "_law_m"] (spG K mg 2 m__law_alone) :=
  mk_fn Fu sc__law_alone fun cdv A outer s H E hr =>
  (ss_cons (s_set (i := 2) (e_tup (a_cons e_int (a_cons (e_tup (a_cons (e_tup (a_cons (e_var 0) a_nil)) a_nil)) a_nil))) sc__law_alone.nd)
  (ss_cons (s_set (i := 3) (e_tup (a_cons e_int (a_cons (e_tup (a_cons (e_tup (a_cons (e_op mul_data (e_var 0) (e_var 1)) a_nil)) a_nil)) a_nil))) sc__law_alone.nd)
  (ss_cons (s_setO (i := 4) (o_lst (a_cons (e_tup (a_cons (e_var 2) (a_cons (e_tup (a_cons (e_tup (a_cons (e_var 0) a_nil)) (a_cons (e_tup (a_cons (e_tup (a_cons e_int a_nil)) a_nil)) (a_cons (e_tup (a_cons (e_tup (a_cons e_int a_nil)) a_nil)) (a_cons (e_tup (a_cons (e_tup (a_cons e_int a_nil)) a_nil)) (a_cons (e_tup (a_cons (e_tup (a_cons e_int a_nil)) a_nil)) a_nil)))))) (a_cons e_non a_nil)))) a_nil)) sc__law_alone.nd)
  (ss_cons (s_append 4 (e_tup (a_cons (e_var 3) (a_cons (e_tup (a_cons (e_tup (a_cons (e_op mul_data (e_var 0) (e_var 1)) a_nil)) (a_cons (e_tup (a_cons (e_tup (a_cons e_int a_nil)) a_nil)) (a_cons (e_tup (a_cons (e_tup (a_cons (e_op add_data e_int (e_op mul_data (e_var 0) (e_var 1))) a_nil)) a_nil)) (a_cons (e_tup (a_cons (e_tup (a_cons (e_op sub_data e_int e_int) a_nil)) a_nil)) (a_cons (e_tup (a_cons (e_tup (a_cons (e_op add_data e_int (e_op mul_data (e_var 0) (e_var 1))) a_nil)) a_nil)) a_nil)))))) (a_cons e_non a_nil)))))
  (ss_cons (s_append 4 (e_tup (a_cons (e_tup (a_cons e_int (a_cons (e_tup (a_cons (e_tup (a_cons e_int a_nil)) a_nil)) a_nil))) (a_cons (e_tup (a_cons (e_tup a_nil) (a_cons (e_tup (a_cons (e_tup a_nil) a_nil)) (a_cons (e_tup a_nil) (a_cons (e_tup (a_cons (e_tup (a_cons e_int a_nil)) a_nil)) (a_cons (e_tup a_nil) a_nil)))))) (a_cons e_non a_nil)))))
  (ss_cons (s_append 4 (e_tup (a_cons (e_var 2) (a_cons (e_tup (a_cons (e_tup (a_cons (e_op mul_data (e_var 0) (e_var 1)) a_nil)) (a_cons (e_tup (a_cons (e_tup (a_cons e_int a_nil)) a_nil)) (a_cons (e_tup (a_cons (e_tup (a_cons e_int a_nil)) a_nil)) (a_cons (e_tup (a_cons (e_tup (a_cons e_int a_nil)) a_nil)) (a_cons (e_tup (a_cons (e_tup (a_cons (e_var 1) a_nil)) a_nil)) a_nil)))))) (a_cons e_str a_nil)))))
  (ss_cons (s_append 4 (e_tup (a_cons (e_tup (a_cons e_int (a_cons (e_tup (a_cons (e_tup (a_cons e_int a_nil)) a_nil)) a_nil))) (a_cons (e_tup (a_cons (e_tup (a_cons (e_var 0) a_nil)) (a_cons (e_tup (a_cons (e_tup (a_cons e_int a_nil)) a_nil)) (a_cons (e_tup (a_cons (e_tup (a_cons e_int a_nil)) a_nil)) (a_cons (e_tup (a_cons (e_tup (a_cons e_int a_nil)) a_nil)) (a_cons (e_tup (a_cons (e_tup (a_cons e_int a_nil)) a_nil)) a_nil)))))) (a_cons e_str a_nil)))))
  (ss_cons (s_append 4 (e_tup (a_cons (e_var 2) (a_cons (e_tup (a_cons (e_tup a_nil) (a_cons (e_tup (a_cons (e_tup a_nil) a_nil)) (a_cons (e_tup a_nil) (a_cons (e_tup (a_cons (e_tup (a_cons e_int a_nil)) a_nil)) (a_cons (e_tup a_nil) a_nil)))))) (a_cons e_str a_nil)))))
  (ss_cons (s_append 4 (e_tup (a_cons (e_var 2) (a_cons (e_tup (a_cons (e_tup (a_cons (e_var 0) a_nil)) (a_cons (e_tup (a_cons (e_tup (a_cons e_int a_nil)) a_nil)) (a_cons (e_tup (a_cons (e_tup (a_cons e_int a_nil)) a_nil)) (a_cons (e_tup (a_cons (e_tup (a_cons e_int a_nil)) a_nil)) (a_cons (e_tup (a_cons (e_tup (a_cons e_int a_nil)) a_nil)) a_nil)))))) (a_cons e_str a_nil)))))
  (ss_cons (s_append 4 (e_tup (a_cons (e_var 3) (a_cons (e_tup (a_cons (e_tup (a_cons (e_var 0) a_nil)) (a_cons (e_tup (a_cons (e_tup (a_cons e_int a_nil)) a_nil)) (a_cons (e_tup (a_cons (e_tup (a_cons e_int a_nil)) a_nil)) (a_cons (e_tup (a_cons (e_tup (a_cons e_int a_nil)) a_nil)) (a_cons (e_tup (a_cons (e_tup (a_cons e_int a_nil)) a_nil)) a_nil)))))) (a_cons e_str a_nil)))))
  (ss_cons (s_append 4 (e_tup (a_cons (e_var 2) (a_cons (e_tup (a_cons (e_tup (a_cons (e_var 0) a_nil)) (a_cons (e_tup (a_cons (e_tup (a_cons e_int a_nil)) a_nil)) (a_cons (e_tup (a_cons (e_tup (a_cons e_int a_nil)) a_nil)) (a_cons (e_tup (a_cons (e_tup (a_cons e_int a_nil)) a_nil)) (a_cons (e_tup (a_cons (e_tup (a_cons (e_var 1) a_nil)) a_nil)) a_nil)))))) (a_cons e_str a_nil)))))
  (ss_one (s_ret (o_take 4))))))))))))))
abbrev s__law_beside : Stmt := topS 38
abbrev N__law_beside : List Str := ["_law_one", "_law_other", "_law_first_here", "_law_second", "_law_found", "_law_row"]
theorem sc__law_beside : FnScope N__law_beside ["_law_one", "_law_other", "_law_first_here", "_law_second"] (defScope s__law_beside) := ⟨rfl, rfl, rfl, by decide +kernel, rfl, by decide +kernel, by decide +kernel⟩
noncomputable def b__law_beside : M Fl := (sSeq (sSet 4 (frzM (oComp (iSeq (getS 0)) [5] (gN 5) yes (bin addD (getS 5) (bin mulD (eTup (aCons (M.ret (.int 0)) aNil)) (getS 3))))))
  (sRet ((nry (one tupD) (aCons (bin addD (getS 4) (frzM (oComp (iSeq (getS 1)) [5] (gN 5) yes (bin addD (bin mulD (eTup (aCons (M.ret (.int 0)) aNil)) (getS 2)) (getS 5))))) aNil)).bind fun d => M.ret (.v d))))
noncomputable def m__law_beside : List Sl → Re RV := fnOf 6 b__law_beside
theorem ok__law_beside {f : Addr} {fd : FuncData} (Fu : FnP K "_law_beside" s__law_beside f fd) (B : Bz K w mg) (NS : SeerK P base) : FnG P w K mg base 1 f fd ["_law_one", "_law_other", "_law_first_here", "_law_second"] (spG K mg 4 m__law_beside) :=
  mk_fn Fu sc__law_beside fun cdv A outer s H E hr =>
  (ss_cons (s_setLcV (i := 4) (own := [("_law_row", 5)]) (i_seq (e_var 0)) (blkOk_by (show blkC N__law_beside (defScope s__law_beside) _ [("_law_row", 5)] = true from by decide +kernel)) (fun _ _ _ _ _ => (g_name 5 sc__law_beside.nd)) (fun _ _ _ _ _ => ts_nil) (fun _ _ _ _ _ => (e_op add_data (e_var 5) (e_op mul_data (e_tup (a_cons e_int a_nil)) (e_var 3)))) sc__law_beside.nd)
  (ss_one (s_ret (o_val (e_callT tup_data B.b_tuple (a_cons (e_op add_data (e_var 4) (e_val (o_lc (own := [("_law_row", 5)]) (i_seq (e_var 1)) (blkOk_by (show blkC N__law_beside (defScope s__law_beside) _ [("_law_row", 5)] = true from by decide +kernel)) (fun _ _ _ _ _ => (g_name 5 sc__law_beside.nd)) (fun _ _ _ _ _ => ts_nil) (fun _ _ _ _ _ => (e_op add_data (e_op mul_data (e_tup (a_cons e_int a_nil)) (e_var 2)) (e_var 5))) sc__law_beside.nd))) a_nil))))))
abbrev s__law_first : Stmt := topS 40
abbrev N__law_first : List Str := ["_law_one", "_law_other", "_law_more", "_law_word"]
theorem sc__law_first : FnScope N__law_first ["_law_one", "_law_other"] (defScope s__law_first) := ⟨rfl, rfl, rfl, by decide +kernel, rfl, by decide +kernel, by decide +kernel⟩
noncomputable def b__law_first : M Fl := (sSeq (sSetO 2 (oDict [((M.ret (.str "rule")), (nry (one lenD) (aCons (bin ixD (bin ixD (getS 0) (M.ret (.int 0))) (M.ret (.int 1))) aNil))), ((M.ret (.str "round")), (nry (one lenD) (aCons (bin ixD (bin ixD (getS 0) (M.ret (.int 1))) (M.ret (.int 0))) aNil))), ((M.ret (.str "maker")), (bin ixD (bin ixD (getS 0) (M.ret (.int 0))) (M.ret (.int 0)))), ((M.ret (.str "turn")), (nry (one lenD) (aCons (bin ixD (bin ixD (getS 0) (M.ret (.int 1))) (M.ret (.int 0))) aNil)))]))
  (sSeq (sFor (iSeq (eTup (aCons (M.ret (.str "rule")) (aCons (M.ret (.str "round")) (aCons (M.ret (.str "maker")) (aCons (M.ret (.str "turn")) aNil)))))) (gN 3)
  (sSeq (sIf (tBool (bin eqD (bin ixD (getS 0) (M.ret (.int 2))) (getS 3)))
  (sRet ((eTup (aCons (getS 3) (aCons (M.ret (.int 0)) aNil))).bind fun d => M.ret (.v d)))
  sNil)
  (sIf (tBool (bin eqD (bin ixD (getS 1) (M.ret (.int 2))) (getS 3)))
  (sRet ((eTup (aCons (getS 3) (aCons (eIxS 2 (getS 3)) aNil))).bind fun d => M.ret (.v d)))
  sNil)))
  (sRet ((M.ret .none).bind fun d => M.ret (.v d)))))
noncomputable def m__law_first : List Sl → Re RV := fnOf 4 b__law_first
theorem ok__law_first {f : Addr} {fd : FuncData} (Fu : FnP K "_law_first" s__law_first f fd) (B : Bz K w mg) (NS : SeerK P base) : FnG P w K mg base 1 f fd ["_law_one", "_law_other"] (spG K mg 2 m__law_first) :=
  mk_fn Fu sc__law_first fun cdv A outer s H E hr =>
  (ss_cons (s_setO (i := 2) (o_dict (l := [((M.ret (.str "rule")), (nry (one lenD) (aCons (bin ixD (bin ixD (getS 0) (M.ret (.int 0))) (M.ret (.int 1))) aNil))), ((M.ret (.str "round")), (nry (one lenD) (aCons (bin ixD (bin ixD (getS 0) (M.ret (.int 1))) (M.ret (.int 0))) aNil))), ((M.ret (.str "maker")), (bin ixD (bin ixD (getS 0) (M.ret (.int 0))) (M.ret (.int 0)))), ((M.ret (.str "turn")), (nry (one lenD) (aCons (bin ixD (bin ixD (getS 0) (M.ret (.int 1))) (M.ret (.int 0))) aNil)))]) (pps_cons e_str (e_callB len_data B.b_len (a_cons (e_ix ix_data (e_ix ix_data (e_var 0) e_int) e_int) a_nil)) (pps_cons e_str (e_callB len_data B.b_len (a_cons (e_ix ix_data (e_ix ix_data (e_var 0) e_int) e_int) a_nil)) (pps_cons e_str (e_ix ix_data (e_ix ix_data (e_var 0) e_int) e_int) (pps_cons e_str (e_callB len_data B.b_len (a_cons (e_ix ix_data (e_ix ix_data (e_var 0) e_int) e_int) a_nil)) pps_nil))))) sc__law_first.nd)
  (ss_cons (s_for (i_seq (e_tup (a_cons e_str (a_cons e_str (a_cons e_str (a_cons e_str a_nil)))))) (g_name 3 sc__law_first.nd)
  (ss_cons (s_if (t_cmp (eq_data hr.units) (e_ix ix_data (e_var 0) e_int) (e_var 3))
  (ss_one (s_ret (o_val (e_tup (a_cons (e_var 3) (a_cons e_int a_nil))))))
  ss_nil)
  (ss_one (s_if (t_cmp (eq_data hr.units) (e_ix ix_data (e_var 1) e_int) (e_var 3))
  (ss_one (s_ret (o_val (e_tup (a_cons (e_var 3) (a_cons (e_ixS 2 (e_var 3) hr.u1) a_nil))))))
  ss_nil))) (passes_of rfl))
  (ss_one (s_ret (o_val e_non)))))
abbrev s__law_divide : Stmt := topS 41
abbrev N__law_divide : List Str := ["_law_one", "_law_other", "_law_around", "_law_more"]
theorem sc__law_divide : FnScope N__law_divide ["_law_one", "_law_other"] (defScope s__law_divide) := ⟨rfl, rfl, rfl, by decide +kernel, rfl, by decide +kernel, by decide +kernel⟩
noncomputable def b__law_divide : M Fl := (sRet ((bin eqD (frzM (oComp (iSeq (getS 0)) [2] (gN 2) (tBool (bin neD (frzM (oComp (iSeq (getS 1)) [3] (gN 3) (tBool (bin neD (bin modD (getS 3) (getS 2)) (M.ret (.int 0)))) (getS 3))) (frzM (oLst aNil)))) (getS 2))) (frzM (oLst aNil))).bind fun d => M.ret (.v d)))
noncomputable def m__law_divide : List Sl → Re RV := fnOf 4 b__law_divide
theorem ok__law_divide {f : Addr} {fd : FuncData} (Fu : FnP K "_law_divide" s__law_divide f fd) (B : Bz K w mg) (NS : SeerK P base) : FnG P w K mg base 1 f fd ["_law_one", "_law_other"] (spG K mg 2 m__law_divide) :=
  mk_fn Fu sc__law_divide fun cdv A outer s H E hr =>
  (ss_one (s_ret (o_val (e_cmp (eq_data hr.units) (e_val (o_lc (own := [("_law_around", 2)]) (i_seq (e_var 0)) (blkOk_by (show blkC N__law_divide (defScope s__law_divide) _ [("_law_around", 2)] = true from by decide +kernel)) (fun _ _ _ _ _ => (g_name 2 sc__law_divide.nd)) (fun _ _ _ _ _ => (ts_one (t_cmp (ne_data hr.units) (e_val (o_lc (own := [("_law_more", 3)]) (i_seq (e_var 1)) (blkOk_by (by rfl)) (fun _ _ _ _ _ => (g_name 3 sc__law_divide.nd)) (fun _ _ _ _ _ => (ts_one (t_cmp (ne_data hr.units) (e_op mod_data (e_var 3) (e_var 2)) e_int))) (fun _ _ _ _ _ => (e_var 3)) sc__law_divide.nd)) (e_val (o_lst a_nil))))) (fun _ _ _ _ _ => (e_var 2)) sc__law_divide.nd)) (e_val (o_lst a_nil))))))
abbrev s_is_house : Stmt := topS 15
abbrev N_is_house : List Str := ["thing", "one"]
theorem sc_is_house : FnScope N_is_house ["thing"] (defScope s_is_house) := ⟨rfl, rfl, rfl, by decide +kernel, rfl, by decide +kernel, by decide +kernel⟩
noncomputable def b_is_house : M Fl := (sSeq (sIf (tOrM (tNotM (tTru (una (isiD "tuple") (getS 0)))) (tBool (bin gtD (nry (one lenD) (aCons (getS 0) aNil)) (M.ret (.int 6)))))
  (sRet ((M.ret (.bool false)).bind fun d => M.ret (.v d)))
  sNil)
  (sRet ((nry (one allD) (aCons (frzM (oComp (iSeq (getS 0)) [1] (gN 1) yes (eAnd (frzM (cCall m_is_whole (aCons (getS 1) aNil))) (bin geD (getS 1) (M.ret (.int 1)))))) aNil)).bind fun d => M.ret (.v d))))
noncomputable def m_is_house : List Sl → Re RV := fnOf 2 b_is_house
theorem ok_is_house {f : Addr} {fd : FuncData} (Fu : FnP K "is_house" s_is_house f fd) (B : Bz K w mg) (NS : SeerK P base) (G_is_whole : Fn P w K mg base 1 "is_whole" 1 m_is_whole) : FnG P w K mg base 2 f fd ["thing"] (spG K mg 1 m_is_house) :=
  mk_fn Fu sc_is_house fun cdv A outer s H E hr =>
  (ss_cons (s_if (PW.pt (w_or (t_not (t_tru (e_isi (T := "tuple") (e_var 0) B.b_isinstance B.b_tuple))) (w_or1 (t_cmp gt_data (e_callB len_data B.b_len (a_cons (e_var 0) a_nil)) (e_globI' B.g_MOST_ROUNDS)))))
  (ss_one (s_ret (o_val e_bl)))
  ss_nil)
  (ss_one (s_ret (o_val (e_callB all_data B.b_all (a_cons (e_val (o_lc (own := [("one", 1)]) (i_seq (e_var 0)) (blkOk_by (show blkC N_is_house (defScope s_is_house) _ [("one", 1)] = true from by decide +kernel)) (fun _ _ _ _ _ => (g_name 1 sc_is_house.nd)) (fun _ _ _ _ _ => ts_nil) (fun _ _ _ _ _ => (e_and (e_val (o_call G_is_whole (hr.mono (by decide : 1 ≤ 1)) takes0 (a_cons (e_var 1) a_nil) (hnm := (aCons_len aNil_len)))) (e_one (e_cmp ge_data (e_var 1) e_int)))) sc_is_house.nd)) a_nil))))))
abbrev s_is_thing : Stmt := topS 16
abbrev N_is_thing : List Str := ["house", "thing", "at", "one"]
theorem sc_is_thing : FnScope N_is_thing ["house", "thing"] (defScope s_is_thing) := ⟨rfl, rfl, rfl, by decide +kernel, rfl, by decide +kernel, by decide +kernel⟩
noncomputable def b_is_thing : M Fl := (sSeq (sIf (tOrM (tNotM (tTru (una (isiD "tuple") (getS 1)))) (tBool (bin neD (nry (one lenD) (aCons (getS 1) aNil)) (nry (one lenD) (aCons (getS 0) aNil)))))
  (sRet ((M.ret (.bool false)).bind fun d => M.ret (.v d)))
  sNil)
  (sRet ((nry (one allD) (aCons (frzM (oComp (iBy enOf (aCons (getS 1) aNil)) [2, 3] (gT (gCn (gN 2) (gCn (gN 3) gNl))) yes (eAnd (frzM (cCall m_is_whole (aCons (getS 3) aNil))) (eChain leD ltD (M.ret (.int 0)) (getS 3) (bin ixD (getS 0) (getS 2)))))) aNil)).bind fun d => M.ret (.v d))))
noncomputable def m_is_thing : List Sl → Re RV := fnOf 4 b_is_thing
theorem ok_is_thing {f : Addr} {fd : FuncData} (Fu : FnP K "is_thing" s_is_thing f fd) (B : Bz K w mg) (NS : SeerK P base) (G_is_whole : Fn P w K mg base 1 "is_whole" 1 m_is_whole) : FnG P w K mg base 2 f fd ["house", "thing"] (spG K mg 2 m_is_thing) :=
  mk_fn Fu sc_is_thing fun cdv A outer s H E hr =>
  (ss_cons (s_if (PW.pt (w_or (t_not (t_tru (e_isi (T := "tuple") (e_var 1) B.b_isinstance B.b_tuple))) (w_or1 (t_cmp (ne_data hr.units) (e_callB len_data B.b_len (a_cons (e_var 1) a_nil)) (e_callB len_data B.b_len (a_cons (e_var 0) a_nil))))))
  (ss_one (s_ret (o_val e_bl)))
  ss_nil)
  (ss_one (s_ret (o_val (e_callB all_data B.b_all (a_cons (e_val (o_lc (own := [("at", 2), ("one", 3)]) (i_enum (a_cons (e_var 1) a_nil) B.b_enumerate) (blkOk_by (show blkC N_is_thing (defScope s_is_thing) _ [("at", 2), ("one", 3)] = true from by decide +kernel)) (fun _ _ _ _ _ => (g_tup (g_cons (g_name 2 sc_is_thing.nd) (g_cons (g_name 3 sc_is_thing.nd) g_nil)) (gCn_len (gCn_len gNl_len)))) (fun _ _ _ _ _ => ts_nil) (fun _ _ _ _ _ => (e_and (e_val (o_call G_is_whole (hr.mono (by decide : 1 ≤ 1)) takes0 (a_cons (e_var 3) a_nil) (hnm := (aCons_len aNil_len)))) (e_one (e_chain le_data lt_data e_int (e_var 3) (e_ix ix_data (e_var 0) (e_var 2)))))) sc_is_thing.nd)) a_nil))))))
abbrev s_is_row : Stmt := topS 18
abbrev N_is_row : List Str := ["wide", "thing", "number"]
theorem sc_is_row : FnScope N_is_row ["wide", "thing"] (defScope s_is_row) := ⟨rfl, rfl, rfl, by decide +kernel, rfl, by decide +kernel, by decide +kernel⟩
noncomputable def b_is_row : M Fl := (sSeq (sIf (tOrM (tNotM (tTru (una (isiD "tuple") (getS 1)))) (tBool (bin neD (nry (one lenD) (aCons (getS 1) aNil)) (getS 0))))
  (sRet ((M.ret (.bool false)).bind fun d => M.ret (.v d)))
  sNil)
  (sRet ((nry (one allD) (aCons (frzM (oComp (iSeq (getS 1)) [2] (gN 2) yes (frzM (cCall m_is_whole (aCons (getS 2) aNil))))) aNil)).bind fun d => M.ret (.v d))))
noncomputable def m_is_row : List Sl → Re RV := fnOf 3 b_is_row
theorem ok_is_row {f : Addr} {fd : FuncData} (Fu : FnP K "is_row" s_is_row f fd) (B : Bz K w mg) (NS : SeerK P base) (G_is_whole : Fn P w K mg base 1 "is_whole" 1 m_is_whole) : FnG P w K mg base 2 f fd ["wide", "thing"] (spG K mg 2 m_is_row) :=
  mk_fn Fu sc_is_row fun cdv A outer s H E hr =>
  (ss_cons (s_if (PW.pt (w_or (t_not (t_tru (e_isi (T := "tuple") (e_var 1) B.b_isinstance B.b_tuple))) (w_or1 (t_cmp (ne_data hr.units) (e_callB len_data B.b_len (a_cons (e_var 1) a_nil)) (e_var 0)))))
  (ss_one (s_ret (o_val e_bl)))
  ss_nil)
  (ss_one (s_ret (o_val (e_callB all_data B.b_all (a_cons (e_val (o_lc (own := [("number", 2)]) (i_seq (e_var 1)) (blkOk_by (show blkC N_is_row (defScope s_is_row) _ [("number", 2)] = true from by decide +kernel)) (fun _ _ _ _ _ => (g_name 2 sc_is_row.nd)) (fun _ _ _ _ _ => ts_nil) (fun _ _ _ _ _ => (e_val (o_call G_is_whole (hr.mono (by decide : 1 ≤ 1)) takes0 (a_cons (e_var 2) a_nil) (hnm := (aCons_len aNil_len))))) sc_is_row.nd)) a_nil))))))
abbrev s_led_there : Stmt := topS 24
abbrev N_led_there : List Str := ["paper", "word", "form", "there", "found", "number", "around"]
theorem sc_led_there : FnScope N_led_there ["paper", "word"] (defScope s_led_there) := ⟨rfl, rfl, rfl, by decide +kernel, rfl, by decide +kernel, by decide +kernel⟩
noncomputable def b_led_there : M Fl := (sSeq (sAsg (gT (gCn (gN 2) (gCn (gN 3) gNl))) (eSl (getS 0) pNone (pSome (M.ret (.int 2)))))
  (sSeq (sSet 4 (frzM (cCall m_mixed (aCons (nry (one lenD) (aCons (getS 2) aNil)) (aCons (getS 1) (aCons (getS 3) aNil))))))
  (sRet ((nry (one tupD) (aCons (frzM (oComp (iBy zipOf (aCons (getS 4) (aCons (getS 2) aNil))) [5, 6] (gT (gCn (gN 5) (gCn (gN 6) gNl))) yes (bin modD (getS 5) (getS 6)))) aNil)).bind fun d => M.ret (.v d)))))
noncomputable def m_led_there : List Sl → Re RV := fnOf 7 b_led_there
theorem ok_led_there {f : Addr} {fd : FuncData} (Fu : FnP K "led_there" s_led_there f fd) (B : Bz K w mg) (NS : SeerK P base) (G_mixed : Fn P w K mg base 1 "mixed" 3 m_mixed) : FnG P w K mg base 2 f fd ["paper", "word"] (spG K mg 2 m_led_there) :=
  mk_fn Fu sc_led_there fun cdv A outer s H E hr =>
  (ss_cons (s_asg (e_sl (e_var 0) p_none (p_some e_int)) (g_tup (g_cons (g_name 2 sc_led_there.nd) (g_cons (g_name 3 sc_led_there.nd) g_nil)) (gCn_len (gCn_len gNl_len))))
  (ss_cons (s_set (i := 4) (e_val (o_call G_mixed (hr.mono (by decide : 1 ≤ 1)) (takes_of rfl rfl rfl rfl) (a_cons (e_callB len_data B.b_len (a_cons (e_var 2) a_nil)) (a_cons (e_var 1) (a_cons (e_var 3) a_nil))) (hnm := (aCons_len (aCons_len (aCons_len aNil_len)))))) sc_led_there.nd)
  (ss_one (s_ret (o_val (e_callT tup_data B.b_tuple (a_cons (e_val (o_lc (own := [("number", 5), ("around", 6)]) (i_zip (a_cons (e_var 4) (a_cons (e_var 2) a_nil)) B.b_zip) (blkOk_by (show blkC N_led_there (defScope s_led_there) _ [("number", 5), ("around", 6)] = true from by decide +kernel)) (fun _ _ _ _ _ => (g_tup (g_cons (g_name 5 sc_led_there.nd) (g_cons (g_name 6 sc_led_there.nd) g_nil)) (gCn_len (gCn_len gNl_len)))) (fun _ _ _ _ _ => ts_nil) (fun _ _ _ _ _ => (e_op mod_data (e_var 5) (e_var 6))) sc_led_there.nd)) a_nil)))))))
abbrev s_back_word : Stmt := topS 25
abbrev N_back_word : List Str := ["many", "paper", "a"]
theorem sc_back_word : FnScope N_back_word ["many", "paper", "a"] (defScope s_back_word) := ⟨rfl, rfl, rfl, by decide +kernel, rfl, by decide +kernel, by decide +kernel⟩
noncomputable def b_back_word : M Fl := (sRet (cCall m_mixed (aCons (getS 0) (aCons (getS 2) (aCons (bin ixD (getS 1) (M.ret (.int 2))) aNil)))))
noncomputable def m_back_word : List Sl → Re RV := fnOf 3 b_back_word
theorem ok_back_word {f : Addr} {fd : FuncData} (Fu : FnP K "back_word" s_back_word f fd) (B : Bz K w mg) (NS : SeerK P base) (G_mixed : Fn P w K mg base 1 "mixed" 3 m_mixed) : FnG P w K mg base 2 f fd ["many", "paper", "a"] (spG K mg 3 m_back_word) :=
  mk_fn Fu sc_back_word fun cdv A outer s H E hr =>
  (ss_one (s_ret (o_call G_mixed (hr.mono (by decide : 1 ≤ 1)) (takes_of rfl rfl rfl rfl) (a_cons (e_var 0) (a_cons (e_var 2) (a_cons (e_ix ix_data (e_var 1) e_int) a_nil))) (hnm := (aCons_len (aCons_len (aCons_len aNil_len)))))))
abbrev s_no_turn : Stmt := topS 30
abbrev N_no_turn : List Str := ["given", "paper", "many", "rules", "i", "around", "word", "number"]
theorem sc_no_turn : FnScope N_no_turn ["given", "paper"] (defScope s_no_turn) := ⟨rfl, rfl, rfl, by decide +kernel, rfl, by decide +kernel, by decide +kernel⟩
noncomputable def b_no_turn : M Fl := (sSeq (sAsg (gT (gCn (gN 2) (gCn (gN 3) gNl))) (getS 0))
  (sSeq (sFor (iBy enOf (aCons (bin ixD (getS 1) (M.ret (.int 0))) aNil)) (gT (gCn (gN 4) (gCn (gN 5) gNl)))
  (sSeq (sSet 6 (nry (one tupD) (aCons (frzM (oComp (iSeq (bin ixD (bin ixD (getS 1) (M.ret (.int 2))) (getS 4))) [7] (gN 7) yes (bin mulD (getS 5) (getS 7)))) aNil)))
  (sIf (tBool (bin neD (getS 6) (frzM (cCall m_mixed (aCons (getS 2) (aCons (bin ixD (bin ixD (getS 1) (M.ret (.int 4))) (getS 4)) (aCons (getS 3) aNil)))))))
  (sRet ((getS 4).bind fun d => M.ret (.v d)))
  sNil)))
  (sRet ((M.ret .none).bind fun d => M.ret (.v d)))))
noncomputable def m_no_turn : List Sl → Re RV := fnOf 8 b_no_turn
theorem ok_no_turn {f : Addr} {fd : FuncData} (Fu : FnP K "no_turn" s_no_turn f fd) (B : Bz K w mg) (NS : SeerK P base) (G_mixed : Fn P w K mg base 1 "mixed" 3 m_mixed) : FnG P w K mg base 2 f fd ["given", "paper"] (spG K mg 2 m_no_turn) :=
  mk_fn Fu sc_no_turn fun cdv A outer s H E hr =>
  (ss_cons (s_asg (e_var 0) (g_tup (g_cons (g_name 2 sc_no_turn.nd) (g_cons (g_name 3 sc_no_turn.nd) g_nil)) (gCn_len (gCn_len gNl_len))))
  (ss_cons (s_for (i_enum (a_cons (e_ix ix_data (e_var 1) e_int) a_nil) B.b_enumerate) (g_tup (g_cons (g_name 4 sc_no_turn.nd) (g_cons (g_name 5 sc_no_turn.nd) g_nil)) (gCn_len (gCn_len gNl_len)))
  (ss_cons (s_set (i := 6) (e_callT tup_data B.b_tuple (a_cons (e_val (o_lc (own := [("number", 7)]) (i_seq (e_ix ix_data (e_ix ix_data (e_var 1) e_int) (e_var 4))) (blkOk_by (show blkC N_no_turn (defScope s_no_turn) _ [("number", 7)] = true from by decide +kernel)) (fun _ _ _ _ _ => (g_name 7 sc_no_turn.nd)) (fun _ _ _ _ _ => ts_nil) (fun _ _ _ _ _ => (e_op mul_data (e_var 5) (e_var 7))) sc_no_turn.nd)) a_nil)) sc_no_turn.nd)
  (ss_one (s_if (t_cmp (ne_data hr.units) (e_var 6) (e_val (o_call G_mixed (hr.mono (by decide : 1 ≤ 1)) (takes_of rfl rfl rfl rfl) (a_cons (e_var 2) (a_cons (e_ix ix_data (e_ix ix_data (e_var 1) e_int) (e_var 4)) (a_cons (e_var 3) a_nil))) (hnm := (aCons_len (aCons_len (aCons_len aNil_len)))))))
  (ss_one (s_ret (o_val (e_var 4))))
  ss_nil))) (passes_of rfl))
  (ss_one (s_ret (o_val e_non)))))
abbrev s__law_together : Stmt := topS 39
abbrev N__law_together : List Str := ["_law_one", "_law_other", "_law_rules", "_law_given", "_law_wide", "_law_more", "_law_paper", "_law_at"]
theorem sc__law_together : FnScope N__law_together ["_law_one", "_law_other"] (defScope s__law_together) := ⟨rfl, rfl, rfl, by decide +kernel, rfl, by decide +kernel, by decide +kernel⟩
noncomputable def b__law_together : M Fl := (sSeq (sSet 2 (frzM (cCall m__law_beside (aCons (bin ixD (bin ixD (getS 0) (M.ret (.int 0))) (M.ret (.int 1))) (aCons (bin ixD (bin ixD (getS 1) (M.ret (.int 0))) (M.ret (.int 1))) (aCons (bin ixD (bin ixD (getS 0) (M.ret (.int 0))) (M.ret (.int 0))) (aCons (bin ixD (bin ixD (getS 1) (M.ret (.int 0))) (M.ret (.int 0))) aNil)))))))
  (sSeq (sSet 3 (eTup (aCons (bin addD (bin ixD (bin ixD (getS 0) (M.ret (.int 0))) (M.ret (.int 0))) (bin ixD (bin ixD (getS 1) (M.ret (.int 0))) (M.ret (.int 0)))) (aCons (getS 2) aNil))))
  (sSeq (sSet 4 (frzM (oLst (aCons (nry (one lenD) (aCons (bin ixD (bin ixD (getS 0) (M.ret (.int 1))) (M.ret (.int 0))) aNil)) (aCons (bin ixD (bin ixD (getS 0) (M.ret (.int 0))) (M.ret (.int 0))) (aCons (nry (one lenD) (aCons (bin ixD (bin ixD (getS 0) (M.ret (.int 0))) (M.ret (.int 1))) aNil)) (aCons (nry (one lenD) (aCons (bin ixD (bin ixD (getS 0) (M.ret (.int 0))) (M.ret (.int 1))) aNil)) aNil)))))))
  (sSeq (sSet 5 (frzM (oLst (aCons (nry (one lenD) (aCons (bin ixD (bin ixD (getS 1) (M.ret (.int 1))) (M.ret (.int 0))) aNil)) (aCons (bin ixD (bin ixD (getS 1) (M.ret (.int 0))) (M.ret (.int 0))) (aCons (nry (one lenD) (aCons (bin ixD (bin ixD (getS 1) (M.ret (.int 0))) (M.ret (.int 1))) aNil)) (aCons (nry (one lenD) (aCons (bin ixD (bin ixD (getS 1) (M.ret (.int 0))) (M.ret (.int 1))) aNil)) aNil)))))))
  (sSeq (sSetO 6 (oLst (aCons (bin addD (bin ixD (bin ixD (getS 0) (M.ret (.int 1))) (M.ret (.int 0))) (bin ixD (bin ixD (getS 1) (M.ret (.int 1))) (M.ret (.int 0)))) aNil)))
  (sSeq (sFor (iBy rng1 (aCons (M.ret (.int 4)) aNil)) (gN 7)
  (sAppend 6 (frzM (cCall m__law_beside (aCons (bin ixD (bin ixD (getS 0) (M.ret (.int 1))) (bin addD (getS 7) (M.ret (.int 1)))) (aCons (bin ixD (bin ixD (getS 1) (M.ret (.int 1))) (bin addD (getS 7) (M.ret (.int 1)))) (aCons (bin ixD (getS 4) (getS 7)) (aCons (bin ixD (getS 5) (getS 7)) aNil))))))))
  (sRet ((eTup (aCons (getS 3) (aCons (eTupS 6) aNil))).bind fun d => M.ret (.v d)))))))))
noncomputable def m__law_together : List Sl → Re RV := fnOf 8 b__law_together
theorem ok__law_together {f : Addr} {fd : FuncData} (Fu : FnP K "_law_together" s__law_together f fd) (B : Bz K w mg) (NS : SeerK P base) (G__law_beside : Fn P w K mg base 1 "_law_beside" 4 m__law_beside) : FnG P w K mg base 2 f fd ["_law_one", "_law_other"] (spG K mg 2 m__law_together) :=
  mk_fn Fu sc__law_together fun cdv A outer s H E hr =>
  (ss_cons (s_set (i := 2) (e_val (o_call G__law_beside (hr.mono (by decide : 1 ≤ 1)) (takes_of rfl rfl rfl rfl) (a_cons (e_ix ix_data (e_ix ix_data (e_var 0) e_int) e_int) (a_cons (e_ix ix_data (e_ix ix_data (e_var 1) e_int) e_int) (a_cons (e_ix ix_data (e_ix ix_data (e_var 0) e_int) e_int) (a_cons (e_ix ix_data (e_ix ix_data (e_var 1) e_int) e_int) a_nil)))) (hnm := (aCons_len (aCons_len (aCons_len (aCons_len aNil_len))))))) sc__law_together.nd)
  (ss_cons (s_set (i := 3) (e_tup (a_cons (e_op add_data (e_ix ix_data (e_ix ix_data (e_var 0) e_int) e_int) (e_ix ix_data (e_ix ix_data (e_var 1) e_int) e_int)) (a_cons (e_var 2) a_nil))) sc__law_together.nd)
  (ss_cons (s_set (i := 4) (e_val (o_lst (a_cons (e_callB len_data B.b_len (a_cons (e_ix ix_data (e_ix ix_data (e_var 0) e_int) e_int) a_nil)) (a_cons (e_ix ix_data (e_ix ix_data (e_var 0) e_int) e_int) (a_cons (e_callB len_data B.b_len (a_cons (e_ix ix_data (e_ix ix_data (e_var 0) e_int) e_int) a_nil)) (a_cons (e_callB len_data B.b_len (a_cons (e_ix ix_data (e_ix ix_data (e_var 0) e_int) e_int) a_nil)) a_nil)))))) sc__law_together.nd)
  (ss_cons (s_set (i := 5) (e_val (o_lst (a_cons (e_callB len_data B.b_len (a_cons (e_ix ix_data (e_ix ix_data (e_var 1) e_int) e_int) a_nil)) (a_cons (e_ix ix_data (e_ix ix_data (e_var 1) e_int) e_int) (a_cons (e_callB len_data B.b_len (a_cons (e_ix ix_data (e_ix ix_data (e_var 1) e_int) e_int) a_nil)) (a_cons (e_callB len_data B.b_len (a_cons (e_ix ix_data (e_ix ix_data (e_var 1) e_int) e_int) a_nil)) a_nil)))))) sc__law_together.nd)
  (ss_cons (s_setO (i := 6) (o_lst (a_cons (e_op add_data (e_ix ix_data (e_ix ix_data (e_var 0) e_int) e_int) (e_ix ix_data (e_ix ix_data (e_var 1) e_int) e_int)) a_nil)) sc__law_together.nd)
  (ss_cons (s_for (i_rng1 (a_cons e_int a_nil) B.b_range) (g_name 7 sc__law_together.nd)
  (ss_one (s_append 6 (e_val (o_call G__law_beside (hr.mono (by decide : 1 ≤ 1)) (takes_of rfl rfl rfl rfl) (a_cons (e_ix ix_data (e_ix ix_data (e_var 0) e_int) (e_op add_data (e_var 7) e_int)) (a_cons (e_ix ix_data (e_ix ix_data (e_var 1) e_int) (e_op add_data (e_var 7) e_int)) (a_cons (e_ix ix_data (e_var 4) (e_var 7)) (a_cons (e_ix ix_data (e_var 5) (e_var 7)) a_nil)))) (hnm := (aCons_len (aCons_len (aCons_len (aCons_len aNil_len))))))))) (passes_of rfl))
  (ss_one (s_ret (o_val (e_tup (a_cons (e_var 3) (a_cons (e_tupS 6 B.b_tuple) a_nil))))))))))))
abbrev s_no_rule : Stmt := topS 27
abbrev N_no_rule : List Str := ["given", "paper", "k", "rule"]
theorem sc_no_rule : FnScope N_no_rule ["given", "paper"] (defScope s_no_rule) := ⟨rfl, rfl, rfl, by decide +kernel, rfl, by decide +kernel, by decide +kernel⟩
noncomputable def b_no_rule : M Fl := (sSeq (sFor (iBy enOf (aCons (bin ixD (getS 0) (M.ret (.int 1))) aNil)) (gT (gCn (gN 2) (gCn (gN 3) gNl)))
  (sIf (tBool (bin neD (frzM (cCall m_led_there (aCons (getS 1) (aCons (getS 3) aNil)))) (bin mulD (eTup (aCons (M.ret (.int 0)) aNil)) (nry (one lenD) (aCons (bin ixD (getS 1) (M.ret (.int 0))) aNil)))))
  (sRet ((getS 2).bind fun d => M.ret (.v d)))
  sNil))
  (sRet ((M.ret .none).bind fun d => M.ret (.v d))))
noncomputable def m_no_rule : List Sl → Re RV := fnOf 4 b_no_rule
theorem ok_no_rule {f : Addr} {fd : FuncData} (Fu : FnP K "no_rule" s_no_rule f fd) (B : Bz K w mg) (NS : SeerK P base) (G_led_there : Fn P w K mg base 2 "led_there" 2 m_led_there) : FnG P w K mg base 3 f fd ["given", "paper"] (spG K mg 2 m_no_rule) :=
  mk_fn Fu sc_no_rule fun cdv A outer s H E hr =>
  (ss_cons (s_for (i_enum (a_cons (e_ix ix_data (e_var 0) e_int) a_nil) B.b_enumerate) (g_tup (g_cons (g_name 2 sc_no_rule.nd) (g_cons (g_name 3 sc_no_rule.nd) g_nil)) (gCn_len (gCn_len gNl_len)))
  (ss_one (s_if (t_cmp (ne_data hr.units) (e_val (o_call G_led_there (hr.mono (by decide : 2 ≤ 2)) (takes_of rfl rfl rfl rfl) (a_cons (e_var 1) (a_cons (e_var 3) a_nil)) (hnm := (aCons_len (aCons_len aNil_len))))) (e_op mul_data (e_tup (a_cons e_int a_nil)) (e_callB len_data B.b_len (a_cons (e_ix ix_data (e_var 1) e_int) a_nil))))
  (ss_one (s_ret (o_val (e_var 2))))
  ss_nil)) (passes_of rfl))
  (ss_one (s_ret (o_val e_non))))
abbrev s_no_round : Stmt := topS 28
abbrev N_no_round : List Str := ["paper", "i", "word"]
theorem sc_no_round : FnScope N_no_round ["paper"] (defScope s_no_round) := ⟨rfl, rfl, rfl, by decide +kernel, rfl, by decide +kernel, by decide +kernel⟩
noncomputable def b_no_round : M Fl := (sSeq (sFor (iBy enOf (aCons (bin ixD (getS 0) (M.ret (.int 2))) aNil)) (gT (gCn (gN 1) (gCn (gN 2) gNl)))
  (sIf (tBool (bin neD (frzM (cCall m_led_there (aCons (getS 0) (aCons (getS 2) aNil)))) (frzM (cCall m_unit_row (aCons (nry (one lenD) (aCons (bin ixD (getS 0) (M.ret (.int 0))) aNil)) (aCons (getS 1) aNil))))))
  (sRet ((getS 1).bind fun d => M.ret (.v d)))
  sNil))
  (sRet ((M.ret .none).bind fun d => M.ret (.v d))))
noncomputable def m_no_round : List Sl → Re RV := fnOf 3 b_no_round
theorem ok_no_round {f : Addr} {fd : FuncData} (Fu : FnP K "no_round" s_no_round f fd) (B : Bz K w mg) (NS : SeerK P base) (G_led_there : Fn P w K mg base 2 "led_there" 2 m_led_there) (G_unit_row : Fn P w K mg base 1 "unit_row" 2 m_unit_row) : FnG P w K mg base 3 f fd ["paper"] (spG K mg 1 m_no_round) :=
  mk_fn Fu sc_no_round fun cdv A outer s H E hr =>
  (ss_cons (s_for (i_enum (a_cons (e_ix ix_data (e_var 0) e_int) a_nil) B.b_enumerate) (g_tup (g_cons (g_name 1 sc_no_round.nd) (g_cons (g_name 2 sc_no_round.nd) g_nil)) (gCn_len (gCn_len gNl_len)))
  (ss_one (s_if (t_cmp (ne_data hr.units) (e_val (o_call G_led_there (hr.mono (by decide : 2 ≤ 2)) (takes_of rfl rfl rfl rfl) (a_cons (e_var 0) (a_cons (e_var 2) a_nil)) (hnm := (aCons_len (aCons_len aNil_len))))) (e_val (o_call G_unit_row (hr.mono (by decide : 1 ≤ 2)) (takes_of rfl rfl rfl rfl) (a_cons (e_callB len_data B.b_len (a_cons (e_ix ix_data (e_var 0) e_int) a_nil)) (a_cons (e_var 1) a_nil)) (hnm := (aCons_len (aCons_len aNil_len))))))
  (ss_one (s_ret (o_val (e_var 1))))
  ss_nil)) (passes_of rfl))
  (ss_one (s_ret (o_val e_non))))
abbrev s_no_maker : Stmt := topS 29
abbrev N_no_maker : List Str := ["given", "paper", "many", "rules", "j", "back", "rest", "one", "other"]
theorem sc_no_maker : FnScope N_no_maker ["given", "paper"] (defScope s_no_maker) := ⟨rfl, rfl, rfl, by decide +kernel, rfl, by decide +kernel, by decide +kernel⟩
noncomputable def b_no_maker : M Fl := (sSeq (sAsg (gT (gCn (gN 2) (gCn (gN 3) gNl))) (getS 0))
  (sSeq (sFor (iBy rng1 (aCons (getS 2) aNil)) (gN 4)
  (sSeq (sSet 5 (frzM (cCall m_back_word (aCons (getS 2) (aCons (getS 1) (aCons (bin ixD (bin ixD (getS 1) (M.ret (.int 1))) (getS 4)) aNil))))))
  (sSeq (sSet 6 (nry (one tupD) (aCons (frzM (oComp (iBy zipOf (aCons (frzM (cCall m_unit_row (aCons (getS 2) (aCons (getS 4) aNil)))) (aCons (getS 5) aNil))) [7, 8] (gT (gCn (gN 7) (gCn (gN 8) gNl))) yes (bin subD (getS 7) (getS 8)))) aNil)))
  (sIf (tBool (bin neD (getS 6) (frzM (cCall m_mixed (aCons (getS 2) (aCons (bin ixD (bin ixD (getS 1) (M.ret (.int 3))) (getS 4)) (aCons (getS 3) aNil)))))))
  (sRet ((getS 4).bind fun d => M.ret (.v d)))
  sNil))))
  (sRet ((M.ret .none).bind fun d => M.ret (.v d)))))
noncomputable def m_no_maker : List Sl → Re RV := fnOf 9 b_no_maker
theorem ok_no_maker {f : Addr} {fd : FuncData} (Fu : FnP K "no_maker" s_no_maker f fd) (B : Bz K w mg) (NS : SeerK P base) (G_back_word : Fn P w K mg base 2 "back_word" 3 m_back_word) (G_unit_row : Fn P w K mg base 1 "unit_row" 2 m_unit_row) (G_mixed : Fn P w K mg base 1 "mixed" 3 m_mixed) : FnG P w K mg base 3 f fd ["given", "paper"] (spG K mg 2 m_no_maker) :=
  mk_fn Fu sc_no_maker fun cdv A outer s H E hr =>
  (ss_cons (s_asg (e_var 0) (g_tup (g_cons (g_name 2 sc_no_maker.nd) (g_cons (g_name 3 sc_no_maker.nd) g_nil)) (gCn_len (gCn_len gNl_len))))
  (ss_cons (s_for (i_rng1 (a_cons (e_var 2) a_nil) B.b_range) (g_name 4 sc_no_maker.nd)
  (ss_cons (s_set (i := 5) (e_val (o_call G_back_word (hr.mono (by decide : 2 ≤ 2)) (takes_of rfl rfl rfl rfl) (a_cons (e_var 2) (a_cons (e_var 1) (a_cons (e_ix ix_data (e_ix ix_data (e_var 1) e_int) (e_var 4)) a_nil))) (hnm := (aCons_len (aCons_len (aCons_len aNil_len)))))) sc_no_maker.nd)
  (ss_cons (s_set (i := 6) (e_callT tup_data B.b_tuple (a_cons (e_val (o_lc (own := [("one", 7), ("other", 8)]) (i_zip (a_cons (e_val (o_call G_unit_row (hr.mono (by decide : 1 ≤ 2)) (takes_of rfl rfl rfl rfl) (a_cons (e_var 2) (a_cons (e_var 4) a_nil)) (hnm := (aCons_len (aCons_len aNil_len))))) (a_cons (e_var 5) a_nil)) B.b_zip) (blkOk_by (show blkC N_no_maker (defScope s_no_maker) _ [("one", 7), ("other", 8)] = true from by decide +kernel)) (fun _ _ _ _ _ => (g_tup (g_cons (g_name 7 sc_no_maker.nd) (g_cons (g_name 8 sc_no_maker.nd) g_nil)) (gCn_len (gCn_len gNl_len)))) (fun _ _ _ _ _ => ts_nil) (fun _ _ _ _ _ => (e_op sub_data (e_var 7) (e_var 8))) sc_no_maker.nd)) a_nil)) sc_no_maker.nd)
  (ss_one (s_if (t_cmp (ne_data hr.units) (e_var 6) (e_val (o_call G_mixed (hr.mono (by decide : 1 ≤ 2)) (takes_of rfl rfl rfl rfl) (a_cons (e_var 2) (a_cons (e_ix ix_data (e_ix ix_data (e_var 1) e_int) (e_var 4)) (a_cons (e_var 3) a_nil))) (hnm := (aCons_len (aCons_len (aCons_len aNil_len)))))))
  (ss_one (s_ret (o_val (e_var 4))))
  ss_nil)))) (passes_of rfl))
  (ss_one (s_ret (o_val e_non)))))
abbrev s_are_all : Stmt := topS 22
abbrev N_are_all : List Str := ["some", "many", "fits", "one"]
theorem sc_are_all : FnScope N_are_all ["some", "many", "fits"] (defScope s_are_all) := ⟨rfl, rfl, rfl, by decide +kernel, rfl, by decide +kernel, by decide +kernel⟩
noncomputable def b_are_all (act : M D) : M Fl := (sRet ((eAnd (una (isiD "tuple") (getS 0)) (eAnd (bin eqD (nry (one lenD) (aCons (getS 0) aNil)) (getS 1)) (nry (one allD) (aCons (frzM (oCompE (iSeq (getS 0)) [3] (gN 3) act)) aNil)))).bind fun d => M.ret (.v d)))
theorem are_are_all {g : Addr} (B : Bz K w mg) (NS : SeerK P base) : AreG P w K mg base 3 "are_all" N_are_all (defScope s_are_all) g (defBody s_are_all) "fits" "one" b_are_all := fun cdv A outer s H f act hr hact =>
  (pss_one (s_retP (o_valP (e_andP (e_isi (T := "tuple") (e_var 0) B.b_isinstance B.b_tuple) (e_andP (e_cmp (eq_data hr.units) (e_callB len_data B.b_len (a_cons (e_var 0) a_nil)) (e_var 1)) (e_oneP (e_callBP all_data B.b_all (a_oneP (e_valP (o_lcP (own := [("one", 3)]) (i_seq (e_var 0)) (blkOk_by (show blkC N_are_all (defScope s_are_all) _ [("one", 3)] = true from by decide +kernel)) (fun _ _ _ _ _ => (g_name 3 sc_are_all.nd)) (fun _ _ _ _ _ => ts_nil) (fun s_ H_ C_ cl_ fp_ W_ pn_ xe_ bk_ tk_ => hact s_ H_ _ fp_ _ W_ pn_ xe_ _ _ _ bk_ tk_ (by first | exact Or.inl rfl | exact Or.inr (Or.inl rfl) | exact Or.inr (Or.inr rfl)) (by first | exact Or.inl rfl | exact Or.inr (Or.inl rfl) | exact Or.inr (Or.inr rfl))) (fun σ1 σ2 h1 h2 => wipe_keep (by decide) h1 h2) (takes_of rfl rfl rfl rfl) sc_are_all.nd))))))))))
abbrev s_is_shaped : Stmt := topS 23
abbrev N_is_shaped : List Str := ["given", "thing", "many", "rules", "form", "there", "back", "whys", "turns"]
theorem sc_is_shaped : FnScope N_is_shaped ["given", "thing"] (defScope s_is_shaped) := ⟨rfl, rfl, rfl, by decide +kernel, rfl, by decide +kernel, by decide +kernel⟩
noncomputable def b_is_shaped : M Fl := (sSeq (sIf (tOrM (tNotM (tTru (una (isiD "tuple") (getS 1)))) (tOrM (tBool (bin neD (nry (one lenD) (aCons (getS 1) aNil)) (M.ret (.int 5)))) (tNotM (tTru (frzM (cCall m_is_house (aCons (bin ixD (getS 1) (M.ret (.int 0))) aNil)))))))
  (sRet ((M.ret (.bool false)).bind fun d => M.ret (.v d)))
  sNil)
  (sSeq (sAsg (gT (gCn (gN 2) (gCn (gN 3) gNl))) (getS 0))
  (sSeq (sAsg (gT (gCn (gN 4) (gCn (gN 5) (gCn (gN 6) (gCn (gN 7) (gCn (gN 8) gNl)))))) (getS 1))
  (sSeq (sIf (tNotM (tTru (areM b_are_all 4 3 (frzM (cCall m_is_thing (aCons (getS 4) (aCons (getS 9) aNil)))) (getS 5) (getS 2))))
  (sRet ((M.ret (.bool false)).bind fun d => M.ret (.v d)))
  sNil)
  (sSeq (sIf (tNotM (tTru (areM b_are_all 4 3 (frzM (cCall m_is_row (aCons (getS 2) (aCons (getS 9) aNil)))) (getS 6) (nry (one lenD) (aCons (getS 4) aNil)))))
  (sRet ((M.ret (.bool false)).bind fun d => M.ret (.v d)))
  sNil)
  (sSeq (sIf (tNotM (tTru (areM b_are_all 4 3 (frzM (cCall m_is_row (aCons (nry (one lenD) (aCons (getS 3) aNil)) (aCons (getS 9) aNil)))) (getS 7) (getS 2))))
  (sRet ((M.ret (.bool false)).bind fun d => M.ret (.v d)))
  sNil)
  (sRet ((areM b_are_all 4 3 (frzM (cCall m_is_row (aCons (nry (one lenD) (aCons (getS 3) aNil)) (aCons (getS 9) aNil)))) (getS 8) (nry (one lenD) (aCons (getS 4) aNil))).bind fun d => M.ret (.v d)))))))))
noncomputable def m_is_shaped : List Sl → Re RV := fnOf 9 b_is_shaped
theorem ok_is_shaped {f : Addr} {fd : FuncData} (Fu : FnP K "is_shaped" s_is_shaped f fd) (B : Bz K w mg) (NS : SeerK P base) (LA : LamAt K mg base "is_shaped" f) (G_is_house : Fn P w K mg base 2 "is_house" 1 m_is_house) (G_is_thing : Fn P w K mg base 2 "is_thing" 2 m_is_thing) (G_are_all : AreFn P w K mg base 3 "are_all" 4 3 b_are_all) (G_is_row : Fn P w K mg base 2 "is_row" 2 m_is_row) : FnG P w K mg base 5 f fd ["given", "thing"] (spG K mg 2 m_is_shaped) :=
  mk_fnC Fu sc_is_shaped fun cdv hcd A outer s H E hr =>
  (ss_cons (s_if (PW.pt (w_or (t_not (t_tru (e_isi (T := "tuple") (e_var 1) B.b_isinstance B.b_tuple))) (w_or (t_cmp (ne_data hr.units) (e_callB len_data B.b_len (a_cons (e_var 1) a_nil)) e_int) (w_or1 (t_not (t_tru (e_val (o_call G_is_house (hr.mono (by decide : 2 ≤ 4)) (takes_of rfl rfl rfl rfl) (a_cons (e_ix ix_data (e_var 1) e_int) a_nil) (hnm := (aCons_len aNil_len))))))))))
  (ss_one (s_ret (o_val e_bl)))
  ss_nil)
  (ss_cons (s_asg (e_var 0) (g_tup (g_cons (g_name 2 sc_is_shaped.nd) (g_cons (g_name 3 sc_is_shaped.nd) g_nil)) (gCn_len (gCn_len gNl_len))))
  (ss_cons (s_asg (e_var 1) (g_tup (g_cons (g_name 4 sc_is_shaped.nd) (g_cons (g_name 5 sc_is_shaped.nd) (g_cons (g_name 6 sc_is_shaped.nd) (g_cons (g_name 7 sc_is_shaped.nd) (g_cons (g_name 8 sc_is_shaped.nd) g_nil))))) (gCn_len (gCn_len (gCn_len (gCn_len (gCn_len gNl_len)))))))
  (ss_cons (s_if (t_not (t_tru (e_are2 G_are_all (hr.mono (by decide : 4 ≤ 4)) LA hcd (lamS1_by (show lamSB1 (defScope s_is_shaped) _ "one" = true from by decide +kernel)) (e_var 5) (e_var 2) (fun E_ A_ ou_ s_ H_ f_ c_ hr => (e_val (o_call G_is_thing (hr.mono (by decide : 2 ≤ 2)) (takes_of rfl rfl rfl rfl) (a_cons (e_var 4) (a_cons (e_var 9) a_nil)) (hnm := (aCons_len (aCons_len aNil_len)))))) (hp := (show ("one" : Str) ∉ N_is_shaped from by decide +kernel)))))
  (ss_one (s_ret (o_val e_bl)))
  ss_nil)
  (ss_cons (s_if (t_not (t_tru (e_are2 G_are_all (hr.mono (by decide : 4 ≤ 4)) LA hcd (lamS1_by (show lamSB1 (defScope s_is_shaped) _ "one" = true from by decide +kernel)) (e_var 6) (e_callB len_data B.b_len (a_cons (e_var 4) a_nil)) (fun E_ A_ ou_ s_ H_ f_ c_ hr => (e_val (o_call G_is_row (hr.mono (by decide : 2 ≤ 2)) (takes_of rfl rfl rfl rfl) (a_cons (e_var 2) (a_cons (e_var 9) a_nil)) (hnm := (aCons_len (aCons_len aNil_len)))))) (hp := (show ("one" : Str) ∉ N_is_shaped from by decide +kernel)))))
  (ss_one (s_ret (o_val e_bl)))
  ss_nil)
  (ss_cons (s_if (t_not (t_tru (e_are2 G_are_all (hr.mono (by decide : 4 ≤ 4)) LA hcd (lamS1_by (show lamSB1 (defScope s_is_shaped) _ "one" = true from by decide +kernel)) (e_var 7) (e_var 2) (fun E_ A_ ou_ s_ H_ f_ c_ hr => (e_val (o_call G_is_row (hr.mono (by decide : 2 ≤ 2)) (takes_of rfl rfl rfl rfl) (a_cons (e_callB len_data B.b_len (a_cons (e_var 3) a_nil)) (a_cons (e_var 9) a_nil)) (hnm := (aCons_len (aCons_len aNil_len)))))) (hp := (show ("one" : Str) ∉ N_is_shaped from by decide +kernel)))))
  (ss_one (s_ret (o_val e_bl)))
  ss_nil)
  (ss_one (s_ret (o_val (e_are2 G_are_all (hr.mono (by decide : 4 ≤ 4)) LA hcd (lamS1_by (show lamSB1 (defScope s_is_shaped) _ "one" = true from by decide +kernel)) (e_var 8) (e_callB len_data B.b_len (a_cons (e_var 4) a_nil)) (fun E_ A_ ou_ s_ H_ f_ c_ hr => (e_val (o_call G_is_row (hr.mono (by decide : 2 ≤ 2)) (takes_of rfl rfl rfl rfl) (a_cons (e_callB len_data B.b_len (a_cons (e_var 3) a_nil)) (a_cons (e_var 9) a_nil)) (hnm := (aCons_len (aCons_len aNil_len)))))) (hp := (show ("one" : Str) ∉ N_is_shaped from by decide +kernel))))))))))))
abbrev s_lets_paper : Stmt := topS 31
abbrev N_lets_paper : List Str := ["given", "thing", "found"]
theorem sc_lets_paper : FnScope N_lets_paper ["given", "thing"] (defScope s_lets_paper) := ⟨rfl, rfl, rfl, by decide +kernel, rfl, by decide +kernel, by decide +kernel⟩
noncomputable def b_lets_paper : M Fl := (sSeq (sIf (tNotM (tTru (frzM (cCall m_is_shaped (aCons (getS 0) (aCons (getS 1) aNil))))))
  (sRaiseF "NoPaper" ["word", "number"] (aCons (M.ret (.str "shape")) (aCons (M.ret (.int 0)) aNil)))
  sNil)
  (sSeq (sSet 2 (frzM (cCall m_no_form (aCons (bin ixD (getS 1) (M.ret (.int 0))) aNil))))
  (sSeq (sIf (tBool (bin isntD (getS 2) (M.ret .none)))
  (sRaiseF "NoPaper" ["word", "number"] (aCons (M.ret (.str "form")) (aCons (getS 2) aNil)))
  sNil)
  (sSeq (sSet 2 (frzM (cCall m_no_rule (aCons (getS 0) (aCons (getS 1) aNil)))))
  (sSeq (sIf (tBool (bin isntD (getS 2) (M.ret .none)))
  (sRaiseF "NoPaper" ["word", "number"] (aCons (M.ret (.str "rule")) (aCons (getS 2) aNil)))
  sNil)
  (sSeq (sSet 2 (frzM (cCall m_no_round (aCons (getS 1) aNil))))
  (sSeq (sIf (tBool (bin isntD (getS 2) (M.ret .none)))
  (sRaiseF "NoPaper" ["word", "number"] (aCons (M.ret (.str "round")) (aCons (getS 2) aNil)))
  sNil)
  (sSeq (sSet 2 (frzM (cCall m_no_maker (aCons (getS 0) (aCons (getS 1) aNil)))))
  (sSeq (sIf (tBool (bin isntD (getS 2) (M.ret .none)))
  (sRaiseF "NoPaper" ["word", "number"] (aCons (M.ret (.str "maker")) (aCons (getS 2) aNil)))
  sNil)
  (sSeq (sSet 2 (frzM (cCall m_no_turn (aCons (getS 0) (aCons (getS 1) aNil)))))
  (sSeq (sIf (tBool (bin isntD (getS 2) (M.ret .none)))
  (sRaiseF "NoPaper" ["word", "number"] (aCons (M.ret (.str "turn")) (aCons (getS 2) aNil)))
  sNil)
  (sRet ((M.ret (.bool true)).bind fun d => M.ret (.v d))))))))))))))
noncomputable def m_lets_paper : List Sl → Re RV := fnOf 3 b_lets_paper
theorem ok_lets_paper {f : Addr} {fd : FuncData} (Fu : FnP K "lets_paper" s_lets_paper f fd) (B : Bz K w mg) (NS : SeerK P base) (I_NoPaper : IniK P w K mg base "NoPaper" ["word", "number"]) (G_is_shaped : Fn P w K mg base 5 "is_shaped" 2 m_is_shaped) (G_no_form : Fn P w K mg base 1 "no_form" 1 m_no_form) (G_no_rule : Fn P w K mg base 3 "no_rule" 2 m_no_rule) (G_no_round : Fn P w K mg base 3 "no_round" 1 m_no_round) (G_no_maker : Fn P w K mg base 3 "no_maker" 2 m_no_maker) (G_no_turn : Fn P w K mg base 2 "no_turn" 2 m_no_turn) : FnG P w K mg base 6 f fd ["given", "thing"] (spG K mg 2 m_lets_paper) :=
  mk_fn Fu sc_lets_paper fun cdv A outer s H E hr =>
  (ss_cons (s_if (t_not (t_tru (e_val (o_call G_is_shaped (hr.mono (by decide : 5 ≤ 5)) (takes_of rfl rfl rfl rfl) (a_cons (e_var 0) (a_cons (e_var 1) a_nil)) (hnm := (aCons_len (aCons_len aNil_len)))))))
  (ss_one (s_raiseF I_NoPaper (takes_of rfl rfl rfl rfl) (hr.mono (by decide : 2 ≤ 5)).room (a_cons e_str (a_cons e_int a_nil))))
  ss_nil)
  (ss_cons (s_set (i := 2) (e_val (o_call G_no_form (hr.mono (by decide : 1 ≤ 5)) (takes_of rfl rfl rfl rfl) (a_cons (e_ix ix_data (e_var 1) e_int) a_nil) (hnm := (aCons_len aNil_len)))) sc_lets_paper.nd)
  (ss_cons (s_if (t_cmp isnt_data (e_var 2) e_non)
  (ss_one (s_raiseF I_NoPaper (takes_of rfl rfl rfl rfl) (hr.mono (by decide : 2 ≤ 5)).room (a_cons e_str (a_cons (e_var 2) a_nil))))
  ss_nil)
  (ss_cons (s_set (i := 2) (e_val (o_call G_no_rule (hr.mono (by decide : 3 ≤ 5)) (takes_of rfl rfl rfl rfl) (a_cons (e_var 0) (a_cons (e_var 1) a_nil)) (hnm := (aCons_len (aCons_len aNil_len))))) sc_lets_paper.nd)
  (ss_cons (s_if (t_cmp isnt_data (e_var 2) e_non)
  (ss_one (s_raiseF I_NoPaper (takes_of rfl rfl rfl rfl) (hr.mono (by decide : 2 ≤ 5)).room (a_cons e_str (a_cons (e_var 2) a_nil))))
  ss_nil)
  (ss_cons (s_set (i := 2) (e_val (o_call G_no_round (hr.mono (by decide : 3 ≤ 5)) (takes_of rfl rfl rfl rfl) (a_cons (e_var 1) a_nil) (hnm := (aCons_len aNil_len)))) sc_lets_paper.nd)
  (ss_cons (s_if (t_cmp isnt_data (e_var 2) e_non)
  (ss_one (s_raiseF I_NoPaper (takes_of rfl rfl rfl rfl) (hr.mono (by decide : 2 ≤ 5)).room (a_cons e_str (a_cons (e_var 2) a_nil))))
  ss_nil)
  (ss_cons (s_set (i := 2) (e_val (o_call G_no_maker (hr.mono (by decide : 3 ≤ 5)) (takes_of rfl rfl rfl rfl) (a_cons (e_var 0) (a_cons (e_var 1) a_nil)) (hnm := (aCons_len (aCons_len aNil_len))))) sc_lets_paper.nd)
  (ss_cons (s_if (t_cmp isnt_data (e_var 2) e_non)
  (ss_one (s_raiseF I_NoPaper (takes_of rfl rfl rfl rfl) (hr.mono (by decide : 2 ≤ 5)).room (a_cons e_str (a_cons (e_var 2) a_nil))))
  ss_nil)
  (ss_cons (s_set (i := 2) (e_val (o_call G_no_turn (hr.mono (by decide : 2 ≤ 5)) (takes_of rfl rfl rfl rfl) (a_cons (e_var 0) (a_cons (e_var 1) a_nil)) (hnm := (aCons_len (aCons_len aNil_len))))) sc_lets_paper.nd)
  (ss_cons (s_if (t_cmp isnt_data (e_var 2) e_non)
  (ss_one (s_raiseF I_NoPaper (takes_of rfl rfl rfl rfl) (hr.mono (by decide : 2 ≤ 5)).room (a_cons e_str (a_cons (e_var 2) a_nil))))
  ss_nil)
  (ss_one (s_ret (o_val e_bl))))))))))))))
abbrev s__law_heard : Stmt := topS 35
abbrev N__law_heard : List Str := ["_law_given", "_law_thing", "_law_caught", "_law_found", "e"]
theorem sc__law_heard : FnScope N__law_heard ["_law_given", "_law_thing"] (defScope s__law_heard) := ⟨rfl, rfl, rfl, by decide +kernel, rfl, by decide +kernel, by decide +kernel⟩
noncomputable def b__law_heard : M Fl := (sSeq (sSet 2 (M.ret .none))
  (sSeq (sSet 3 (M.ret .none))
  (sSeq (sTry xn 4 2 (sSet 3 (frzM (cCall m_lets_paper (aCons (getS 0) (aCons (getS 1) aNil))))))
  (sSeq (sIf (tBool (bin isD (getS 2) (M.ret .none)))
  (sRet ((bin ixD (frzM (oLst (aCons (M.ret .none) (aCons (M.ret (.str "odd")) aNil)))) (nry (one intD) (aCons (bin isntD (getS 3) (M.ret (.bool true))) aNil))).bind fun d => M.ret (.v d)))
  sNil)
  (sSeq (sIf (tTru (una (isET xn ["Endless", "NoFit", "NoName", "NoRow", "NoTable", "NoText", "NoThing", "TooGreat"]) (getS 2)))
  (sRet ((M.ret (.str "other")).bind fun d => M.ret (.v d)))
  sNil)
  (sSeq (sIf (tOrM (tNotM (tTru (una (isED xn "NoPaper") (getS 2)))) (tNotM (tTru (una (isEV xn) (getS 2)))))
  (sRet ((M.ret (.str "other")).bind fun d => M.ret (.v d)))
  sNil)
  (sSeq (sIf (tOrM (tTru (una (isiD "bool") (una (fldD fxt "number") (getS 2)))) (tNotM (tTru (una (isiD "int") (una (fldD fxt "number") (getS 2))))))
  (sRet ((M.ret (.str "other")).bind fun d => M.ret (.v d)))
  sNil)
  (sRet ((eTup (aCons (una (fldD fxt "word") (getS 2)) (aCons (una (fldD fxt "number") (getS 2)) aNil))).bind fun d => M.ret (.v d))))))))))
noncomputable def m__law_heard : List Sl → Re RV := fnOf 5 b__law_heard
theorem ok__law_heard {f : Addr} {fd : FuncData} (Fu : FnP K "_law_heard" s__law_heard f fd) (B : Bz K w mg) (NS : SeerK P base) (G_lets_paper : Fn P w K mg base 6 "lets_paper" 2 m_lets_paper) : FnG P w K mg base 7 f fd ["_law_given", "_law_thing"] (spG K mg 2 m__law_heard) :=
  mk_fn Fu sc__law_heard fun cdv A outer s H E hr =>
  (ss_cons (s_set (i := 2) e_non sc__law_heard.nd)
  (ss_cons (s_set (i := 3) e_non sc__law_heard.nd)
  (ss_cons (s_try (j := 4) (i := 2) B.xt sc__law_heard.nd (fun W_ pn_ xe_ tk_ po_ => (ss_one (s_set (i := 3) (e_val (o_call G_lets_paper (hr.mono (by decide : 6 ≤ 6)) tk_ (a_cons (e_var 0) (a_cons (e_var 1) a_nil)) (hnm := (aCons_len (aCons_len aNil_len))))) sc__law_heard.nd))))
  (ss_cons (s_if (t_cmp is_data (e_var 2) e_non)
  (ss_one (s_ret (o_val (e_ix ix_data (e_val (o_lst (a_cons e_non (a_cons e_str a_nil)))) (e_callT int_data B.b_int (a_cons (e_cmp isnt_data (e_var 3) e_bl) a_nil))))))
  ss_nil)
  (ss_cons (s_if (t_tru (e_isET B.xt (e_var 2) B.b_isinstance (gl_cons (y := "Endless") (gl_cons (y := "NoFit") (gl_cons (y := "NoName") (gl_cons (y := "NoRow") (gl_cons (y := "NoTable") (gl_cons (y := "NoText") (gl_cons (y := "NoThing") (gl_cons (y := "TooGreat") gl_nil (B.xt.g "TooGreat" (by decide))) (B.xt.g "NoThing" (by decide))) (B.xt.g "NoText" (by decide))) (B.xt.g "NoTable" (by decide))) (B.xt.g "NoRow" (by decide))) (B.xt.g "NoName" (by decide))) (B.xt.g "NoFit" (by decide))) (B.xt.g "Endless" (by decide)))))
  (ss_one (s_ret (o_val e_str)))
  ss_nil)
  (ss_cons (s_if (PW.pt (w_or (t_not (t_tru (e_isE (y := "NoPaper") B.xt (e_var 2) B.b_isinstance))) (w_or1 (t_not (t_tru (e_isEV B.xt (e_var 2) B.b_isinstance B.b_ValueError))))))
  (ss_one (s_ret (o_val e_str)))
  ss_nil)
  (ss_cons (s_if (PW.pt (w_or (t_tru (e_isi (T := "bool") (e_fld B.ft (e_var 2)) B.b_isinstance B.b_bool)) (w_or1 (t_not (t_tru (e_isi (T := "int") (e_fld B.ft (e_var 2)) B.b_isinstance B.b_int))))))
  (ss_one (s_ret (o_val e_str)))
  ss_nil)
  (ss_one (s_ret (o_val (e_tup (a_cons (e_fld B.ft (e_var 2)) (a_cons (e_fld B.ft (e_var 2)) a_nil)))))))))))))
abbrev s_law : Stmt := topS 42
abbrev N_law : List Str := ["_law_script", "_law_k", "_law_pen_here", "_law_m", "_law_n", "_law_given", "_law_paper", "_law_rounds", "_law_wrong", "_law_some", "_law_nothing", "_law_one", "_law_other"]
theorem sc_law : FnScope N_law ["_law_script"] (defScope s_law) := ⟨rfl, rfl, rfl, by decide +kernel, rfl, by decide +kernel, by decide +kernel⟩
noncomputable def b_law : M Fl := (sSeq (sFor (iBy rng1 (aCons (nry (two maxD) (aCons (M.ret (.int 1)) (aCons (nry (two minD) (aCons (M.ret (.int 3)) (aCons (nry (one lenD) (aCons (getS 0) aNil)) aNil))) aNil))) aNil)) (gN 1)
  (sSeq (sSetO 2 (cCall m__law_pen (aCons (getS 0) (aCons (getS 1) aNil))))
  (sSeq (sSet 3 (bin addD (M.ret (.int 2)) (frzM (cCallI 2 m__law_draw (aCons (M.ret (.int 3)) aNil)))))
  (sSeq (sSet 4 (bin addD (M.ret (.int 2)) (frzM (cCallI 2 m__law_draw (aCons (bin subD (bin fdivLD (M.ret (.int 99)) (getS 3)) (M.ret (.int 1))) aNil)))))
  (sSeq (sFor (iSeq (frzM (cCall m__law_forms (aCons (nry (two minD) (aCons (getS 4) (aCons (M.ret (.int 9)) aNil))) (aCons (getS 3) aNil))))) (gT (gCn (gN 5) (gCn (gN 6) gNl)))
  (sIf (tBool (bin neD (frzM (cCall m__law_heard (aCons (getS 5) (aCons (getS 6) aNil)))) (eTup (aCons (M.ret (.str "form")) (aCons (M.ret (.int 0)) aNil)))))
  (sRet ((M.ret (.bool false)).bind fun d => M.ret (.v d)))
  sNil))
  (sSeq (sFor (iSeq (eTup (aCons (eTup (aCons (M.ret (.int 6)) (aCons (eTup (aCons (M.ret (.str "round")) (aCons (M.ret (.int 0)) aNil))) aNil))) (aCons (eTup (aCons (M.ret (.int 7)) (aCons (eTup (aCons (M.ret (.str "shape")) (aCons (M.ret (.int 0)) aNil))) aNil))) aNil)))) (gT (gCn (gN 7) (gCn (gN 8) gNl)))
  (sSeq (sSet 6 (eTup (aCons (bin mulD (eTup (aCons (getS 4) aNil)) (getS 7)) (aCons (eTup aNil) (aCons (bin mulD (eTup (aCons (eTup aNil) aNil)) (getS 7)) (aCons (eTup aNil) (aCons (bin mulD (eTup (aCons (eTup aNil) aNil)) (getS 7)) aNil)))))))
  (sIf (tBool (bin neD (frzM (cCall m__law_heard (aCons (eTup (aCons (M.ret (.int 0)) (aCons (eTup aNil) aNil))) (aCons (getS 6) aNil)))) (getS 8)))
  (sRet ((M.ret (.bool false)).bind fun d => M.ret (.v d)))
  sNil)))
  (sSeq (sSet 9 (frzM (cCall m__law_alone (aCons (getS 4) (aCons (getS 3) aNil)))))
  (sSeq (sSet 10 (eTup (aCons (eTup (aCons (M.ret (.int 0)) (aCons (eTup aNil) aNil))) (aCons (eTup (aCons (eTup aNil) (aCons (eTup aNil) (aCons (eTup aNil) (aCons (eTup aNil) (aCons (eTup aNil) aNil)))))) (aCons (M.ret .none) aNil)))))
  (sFor (iSeq (bin addD (getS 9) (frzM (oLst (aCons (getS 10) aNil))))) (gN 11)
  (sFor (iSeq (bin addD (getS 9) (frzM (oLst (aCons (getS 10) aNil))))) (gN 12)
  (sSeq (sAsg (gT (gCn (gN 5) (gCn (gN 6) gNl))) (frzM (cCall m__law_together (aCons (getS 11) (aCons (getS 12) aNil)))))
  (sIf (tAndM (tTru (frzM (cCall m__law_divide (aCons (bin ixD (bin ixD (getS 11) (M.ret (.int 1))) (M.ret (.int 0))) (aCons (bin ixD (bin ixD (getS 12) (M.ret (.int 1))) (M.ret (.int 0))) aNil))))) (tBool (bin neD (frzM (cCall m__law_heard (aCons (getS 5) (aCons (getS 6) aNil)))) (frzM (cCall m__law_first (aCons (getS 11) (aCons (getS 12) aNil)))))))
  (sRet ((M.ret (.bool false)).bind fun d => M.ret (.v d)))
  sNil))))))))))))
  (sRet ((M.ret (.bool true)).bind fun d => M.ret (.v d))))
noncomputable def m_law : List Sl → Re RV := fnOf 13 b_law
theorem ok_law {f : Addr} {fd : FuncData} (Fu : FnP K "law" s_law f fd) (B : Bz K w mg) (NS : SeerK P base) (G__law_pen : Fn P w K mg base 1 "_law_pen" 2 m__law_pen) (G__law_draw : Fn P w K mg base 1 "_law_draw" 2 m__law_draw) (G__law_forms : Fn P w K mg base 1 "_law_forms" 2 m__law_forms) (G__law_heard : Fn P w K mg base 7 "_law_heard" 2 m__law_heard) (G__law_alone : Fn P w K mg base 1 "_law_alone" 2 m__law_alone) (G__law_together : Fn P w K mg base 2 "_law_together" 2 m__law_together) (G__law_divide : Fn P w K mg base 1 "_law_divide" 2 m__law_divide) (G__law_first : Fn P w K mg base 1 "_law_first" 2 m__law_first) : FnG P w K mg base 8 f fd ["_law_script"] (spG K mg 1 m_law) :=
  mk_fn Fu sc_law fun cdv A outer s H E hr =>
  (ss_cons (s_for (i_rng1 (a_cons (e_callB max_data B.b_max (a_cons e_int (a_cons (e_callB min_data B.b_min (a_cons e_int (a_cons (e_callB len_data B.b_len (a_cons (e_var 0) a_nil)) a_nil))) a_nil))) a_nil) B.b_range) (g_name 1 sc_law.nd)
  (ss_cons (s_setO (i := 2) (o_call G__law_pen (hr.mono (by decide : 1 ≤ 7)) (takes_of rfl rfl rfl rfl) (a_cons (e_var 0) (a_cons (e_var 1) a_nil)) (hnm := (aCons_len (aCons_len aNil_len)))) sc_law.nd)
  (ss_cons (s_set (i := 3) (e_op add_data e_int (e_val (o_callI 2 G__law_draw (hr.mono (by decide : 1 ≤ 7)) (takes_of rfl rfl rfl rfl) (a_cons e_int a_nil) (fun r ds r' h => congrArg Nat.succ ((aCons_len aNil_len) r ds r' h))))) sc_law.nd)
  (ss_cons (s_set (i := 4) (e_op add_data e_int (e_val (o_callI 2 G__law_draw (hr.mono (by decide : 1 ≤ 7)) (takes_of rfl rfl rfl rfl) (a_cons (e_op sub_data (e_op (fdivL_data hr NS) e_int (e_var 3)) e_int) a_nil) (fun r ds r' h => congrArg Nat.succ ((aCons_len aNil_len) r ds r' h))))) sc_law.nd)
  (ss_cons (s_for (i_seq (e_val (o_call G__law_forms (hr.mono (by decide : 1 ≤ 7)) (takes_of rfl rfl rfl rfl) (a_cons (e_callB min_data B.b_min (a_cons (e_var 4) (a_cons e_int a_nil))) (a_cons (e_var 3) a_nil)) (hnm := (aCons_len (aCons_len aNil_len)))))) (g_tup (g_cons (g_name 5 sc_law.nd) (g_cons (g_name 6 sc_law.nd) g_nil)) (gCn_len (gCn_len gNl_len)))
  (ss_one (s_if (t_cmp (ne_data hr.units) (e_val (o_call G__law_heard (hr.mono (by decide : 7 ≤ 7)) (takes_of rfl rfl rfl rfl) (a_cons (e_var 5) (a_cons (e_var 6) a_nil)) (hnm := (aCons_len (aCons_len aNil_len))))) (e_tup (a_cons e_str (a_cons e_int a_nil))))
  (ss_one (s_ret (o_val e_bl)))
  ss_nil)) (passes_of rfl))
  (ss_cons (s_for (i_seq (e_tup (a_cons (e_tup (a_cons e_int (a_cons (e_tup (a_cons e_str (a_cons e_int a_nil))) a_nil))) (a_cons (e_tup (a_cons e_int (a_cons (e_tup (a_cons e_str (a_cons e_int a_nil))) a_nil))) a_nil)))) (g_tup (g_cons (g_name 7 sc_law.nd) (g_cons (g_name 8 sc_law.nd) g_nil)) (gCn_len (gCn_len gNl_len)))
  (ss_cons (s_set (i := 6) (e_tup (a_cons (e_op mul_data (e_tup (a_cons (e_var 4) a_nil)) (e_var 7)) (a_cons (e_tup a_nil) (a_cons (e_op mul_data (e_tup (a_cons (e_tup a_nil) a_nil)) (e_var 7)) (a_cons (e_tup a_nil) (a_cons (e_op mul_data (e_tup (a_cons (e_tup a_nil) a_nil)) (e_var 7)) a_nil)))))) sc_law.nd)
  (ss_one (s_if (t_cmp (ne_data hr.units) (e_val (o_call G__law_heard (hr.mono (by decide : 7 ≤ 7)) (takes_of rfl rfl rfl rfl) (a_cons (e_tup (a_cons e_int (a_cons (e_tup a_nil) a_nil))) (a_cons (e_var 6) a_nil)) (hnm := (aCons_len (aCons_len aNil_len))))) (e_var 8))
  (ss_one (s_ret (o_val e_bl)))
  ss_nil))) (passes_of rfl))
  (ss_cons (s_set (i := 9) (e_val (o_call G__law_alone (hr.mono (by decide : 1 ≤ 7)) (takes_of rfl rfl rfl rfl) (a_cons (e_var 4) (a_cons (e_var 3) a_nil)) (hnm := (aCons_len (aCons_len aNil_len))))) sc_law.nd)
  (ss_cons (s_set (i := 10) (e_tup (a_cons (e_tup (a_cons e_int (a_cons (e_tup a_nil) a_nil))) (a_cons (e_tup (a_cons (e_tup a_nil) (a_cons (e_tup a_nil) (a_cons (e_tup a_nil) (a_cons (e_tup a_nil) (a_cons (e_tup a_nil) a_nil)))))) (a_cons e_non a_nil)))) sc_law.nd)
  (ss_one (s_for (i_seq (e_op add_data (e_var 9) (e_val (o_lst (a_cons (e_var 10) a_nil))))) (g_name 11 sc_law.nd)
  (ss_one (s_for (i_seq (e_op add_data (e_var 9) (e_val (o_lst (a_cons (e_var 10) a_nil))))) (g_name 12 sc_law.nd)
  (ss_cons (s_asg (e_val (o_call G__law_together (hr.mono (by decide : 2 ≤ 7)) (takes_of rfl rfl rfl rfl) (a_cons (e_var 11) (a_cons (e_var 12) a_nil)) (hnm := (aCons_len (aCons_len aNil_len))))) (g_tup (g_cons (g_name 5 sc_law.nd) (g_cons (g_name 6 sc_law.nd) g_nil)) (gCn_len (gCn_len gNl_len))))
  (ss_one (s_if (PW.pt (w_and (t_tru (e_val (o_call G__law_divide (hr.mono (by decide : 1 ≤ 7)) (takes_of rfl rfl rfl rfl) (a_cons (e_ix ix_data (e_ix ix_data (e_var 11) e_int) e_int) (a_cons (e_ix ix_data (e_ix ix_data (e_var 12) e_int) e_int) a_nil)) (hnm := (aCons_len (aCons_len aNil_len)))))) (w_and1 (t_cmp (ne_data hr.units) (e_val (o_call G__law_heard (hr.mono (by decide : 7 ≤ 7)) (takes_of rfl rfl rfl rfl) (a_cons (e_var 5) (a_cons (e_var 6) a_nil)) (hnm := (aCons_len (aCons_len aNil_len))))) (e_val (o_call G__law_first (hr.mono (by decide : 1 ≤ 7)) (takes_of rfl rfl rfl rfl) (a_cons (e_var 11) (a_cons (e_var 12) a_nil)) (hnm := (aCons_len (aCons_len aNil_len)))))))))
  (ss_one (s_ret (o_val e_bl)))
  ss_nil))) (passes_of rfl))) (passes_of rfl)))))))))) (passes_of rfl))
  (ss_one (s_ret (o_val e_bl))))
end
/-! ### the head -/
def d_is_whole : He.DefD := ⟨("is_whole", none), "is_whole", "is_whole", defArgs s_is_whole, defBody s_is_whole, defScope s_is_whole, [], []⟩
def d_mixed : He.DefD := ⟨("mixed", none), "mixed", "mixed", defArgs s_mixed, defBody s_mixed, defScope s_mixed, [], []⟩
def d_unit_row : He.DefD := ⟨("unit_row", none), "unit_row", "unit_row", defArgs s_unit_row, defBody s_unit_row, defScope s_unit_row, [], []⟩
def d_no_form : He.DefD := ⟨("no_form", none), "no_form", "no_form", defArgs s_no_form, defBody s_no_form, defScope s_no_form, [], []⟩
def d__law_pen : He.DefD := ⟨("_law_pen", none), "_law_pen", "_law_pen", defArgs s__law_pen, defBody s__law_pen, defScope s__law_pen, [], []⟩
def d__law_draw : He.DefD := ⟨("_law_draw", none), "_law_draw", "_law_draw", defArgs s__law_draw, defBody s__law_draw, defScope s__law_draw, [], []⟩
def d__law_forms : He.DefD := ⟨("_law_forms", none), "_law_forms", "_law_forms", defArgs s__law_forms, defBody s__law_forms, defScope s__law_forms, [], []⟩
def d__law_alone : He.DefD := ⟨("_law_alone", none), "_law_alone", "_law_alone", defArgs s__law_alone, defBody s__law_alone, defScope s__law_alone, [], []⟩
def d__law_beside : He.DefD := ⟨("_law_beside", none), "_law_beside", "_law_beside", defArgs s__law_beside, defBody s__law_beside, defScope s__law_beside, [], []⟩
def d__law_first : He.DefD := ⟨("_law_first", none), "_law_first", "_law_first", defArgs s__law_first, defBody s__law_first, defScope s__law_first, [], []⟩
def d__law_divide : He.DefD := ⟨("_law_divide", none), "_law_divide", "_law_divide", defArgs s__law_divide, defBody s__law_divide, defScope s__law_divide, [], []⟩
def d_is_house : He.DefD := ⟨("is_house", none), "is_house", "is_house", defArgs s_is_house, defBody s_is_house, defScope s_is_house, [], []⟩
def d_is_thing : He.DefD := ⟨("is_thing", none), "is_thing", "is_thing", defArgs s_is_thing, defBody s_is_thing, defScope s_is_thing, [], []⟩
def d_is_row : He.DefD := ⟨("is_row", none), "is_row", "is_row", defArgs s_is_row, defBody s_is_row, defScope s_is_row, [], []⟩
def d_led_there : He.DefD := ⟨("led_there", none), "led_there", "led_there", defArgs s_led_there, defBody s_led_there, defScope s_led_there, [], []⟩
def d_back_word : He.DefD := ⟨("back_word", none), "back_word", "back_word", defArgs s_back_word, defBody s_back_word, defScope s_back_word, [], []⟩
def d_no_turn : He.DefD := ⟨("no_turn", none), "no_turn", "no_turn", defArgs s_no_turn, defBody s_no_turn, defScope s_no_turn, [], []⟩
def d__law_together : He.DefD := ⟨("_law_together", none), "_law_together", "_law_together", defArgs s__law_together, defBody s__law_together, defScope s__law_together, [], []⟩
def d_no_rule : He.DefD := ⟨("no_rule", none), "no_rule", "no_rule", defArgs s_no_rule, defBody s_no_rule, defScope s_no_rule, [], []⟩
def d_no_round : He.DefD := ⟨("no_round", none), "no_round", "no_round", defArgs s_no_round, defBody s_no_round, defScope s_no_round, [], []⟩
def d_no_maker : He.DefD := ⟨("no_maker", none), "no_maker", "no_maker", defArgs s_no_maker, defBody s_no_maker, defScope s_no_maker, [], []⟩
def d_are_all : He.DefD := ⟨("are_all", none), "are_all", "are_all", defArgs s_are_all, defBody s_are_all, defScope s_are_all, [], []⟩
def d_is_shaped : He.DefD := ⟨("is_shaped", none), "is_shaped", "is_shaped", defArgs s_is_shaped, defBody s_is_shaped, defScope s_is_shaped, [], []⟩
def d_lets_paper : He.DefD := ⟨("lets_paper", none), "lets_paper", "lets_paper", defArgs s_lets_paper, defBody s_lets_paper, defScope s_lets_paper, [], []⟩
def d__law_heard : He.DefD := ⟨("_law_heard", none), "_law_heard", "_law_heard", defArgs s__law_heard, defBody s__law_heard, defScope s__law_heard, [], []⟩
def d_law : He.DefD := ⟨("law", none), "law", "law", defArgs s_law, defBody s_law, defScope s_law, [], []⟩
def d_init_NoPaper : He.DefD := ⟨("NoPaper", some "__init__"), "__init__", "NoPaper.__init__", defArgs s_init_NoPaper, defBody s_init_NoPaper, defScope s_init_NoPaper, [], []⟩
def fn : List He.DefD := [d_is_whole, d_mixed, d_unit_row, d_no_form, d__law_pen, d__law_draw, d__law_forms, d__law_alone, d__law_beside, d__law_first, d__law_divide, d_is_house, d_is_thing, d_is_row, d_led_there, d_back_word, d_no_turn, d__law_together, d_no_rule, d_no_round, d_no_maker, d_are_all, d_is_shaped, d_lets_paper, d__law_heard, d_law, d_init_NoPaper]
def fa : List He.Fa := [.glo "is_whole", .glo "mixed", .glo "unit_row", .glo "no_form", .glo "_law_pen", .glo "_law_draw", .glo "_law_forms", .glo "_law_alone", .glo "_law_beside", .glo "_law_first", .glo "_law_divide", .glo "is_house", .glo "is_thing", .glo "is_row", .glo "led_there", .glo "back_word", .glo "no_turn", .glo "_law_together", .glo "no_rule", .glo "no_round", .glo "no_maker", .glo "are_all", .glo "is_shaped", .glo "lets_paper", .glo "_law_heard", .glo "law", .free "isinstance", .free "int", .free "bool", .free "zip", .free "range", .free "tuple", .free "enumerate", .free "len", .free "abs", .free "all", .free "ValueError", .free "min", .free "max", .int "MOST_ROUNDS" 6, .glo "HouseError", .glo "Endless", .glo "NoFit", .glo "NoName", .glo "NoRow", .glo "NoTable", .glo "NoText", .glo "NoThing", .glo "TooGreat", .glo "NoPaper"]
abbrev R : PySem.W.OpenRow := PySem.W.OpenLaw.row PySem.Challenge.rw_commonhouse_k22_each_condition_of_a_pape
abbrev hk : PySem.W.Hook := hookL 5 fa fn xb ln
def ob (s : PySem.W.SharedT) : AlB := obsLG 5 fa fn xb ln (HandSHeadRun.getT s)
theorem ob_eq (s : PySem.W.SharedT) : ob s = hk.obs s.abs := obsLG_eq (HandSHeadRun.getT_eq s)
abbrev lo0 : List Str := ["is_whole", "is_house", "is_thing", "is_row", "mixed", "unit_row", "are_all", "is_shaped", "led_there", "back_word", "no_form", "no_rule", "no_round", "no_maker", "no_turn", "lets_paper", "_law_pen", "_law_draw", "_law_heard", "_law_forms", "_law_alone", "_law_beside", "_law_together", "_law_first", "_law_divide", "MOST_ROUNDS", "HouseError", "NoThing", "TooGreat", "Endless"]
abbrev lo1 : List Str := ["NoPaper", "NoFit", "NoTable", "NoText", "NoName", "NoRow"]
abbrev lo : List Str := lo0 ++ lo1
theorem run (w : World) : HandSHeadRun.RunEq R (PySem.W.view R.prog [42]) hk ob 27800 lo w := by
  intro os
  kernel_rfl
theorem facts {P : Program} {w : World} {K : PySem.W.Frag} {h : Heap} {mg : Str → Option Value} {f : Addr} (X : K.In h) (G : h.Ns mainGlobals mg) (hfa : mg ("law" : Str) = some (.ref f)) (hP : P.given.tree = none) (c0 : SaysB fa fn xb K) (l : LamOk ln K h) :
    ∃ fd : FuncData, (∀ (s : Shared) (v : Value), BindsTo s fd ⟨[v], []⟩ [("_law_script", v)]) ∧ ∀ base : Heap, K.In base → base.Ns mainGlobals mg → base.NoSeer → (∀ p ∈ csN ln K, LamX.TabB base mg p.1 p.2) → FnG P w K mg base 8 f fd ["_law_script"] (spG K mg 1 m_law) := by
  have c := c0.1
  obtain ⟨fd_is_whole, F_is_whole⟩ := c.def_ 0 (d := d_is_whole) rfl
  obtain ⟨fd_mixed, F_mixed⟩ := c.def_ 1 (d := d_mixed) rfl
  obtain ⟨fd_unit_row, F_unit_row⟩ := c.def_ 2 (d := d_unit_row) rfl
  obtain ⟨fd_no_form, F_no_form⟩ := c.def_ 3 (d := d_no_form) rfl
  obtain ⟨fd__law_pen, F__law_pen⟩ := c.def_ 4 (d := d__law_pen) rfl
  obtain ⟨fd__law_draw, F__law_draw⟩ := c.def_ 5 (d := d__law_draw) rfl
  obtain ⟨fd__law_forms, F__law_forms⟩ := c.def_ 6 (d := d__law_forms) rfl
  obtain ⟨fd__law_alone, F__law_alone⟩ := c.def_ 7 (d := d__law_alone) rfl
  obtain ⟨fd__law_beside, F__law_beside⟩ := c.def_ 8 (d := d__law_beside) rfl
  obtain ⟨fd__law_first, F__law_first⟩ := c.def_ 9 (d := d__law_first) rfl
  obtain ⟨fd__law_divide, F__law_divide⟩ := c.def_ 10 (d := d__law_divide) rfl
  obtain ⟨fd_is_house, F_is_house⟩ := c.def_ 11 (d := d_is_house) rfl
  obtain ⟨fd_is_thing, F_is_thing⟩ := c.def_ 12 (d := d_is_thing) rfl
  obtain ⟨fd_is_row, F_is_row⟩ := c.def_ 13 (d := d_is_row) rfl
  obtain ⟨fd_led_there, F_led_there⟩ := c.def_ 14 (d := d_led_there) rfl
  obtain ⟨fd_back_word, F_back_word⟩ := c.def_ 15 (d := d_back_word) rfl
  obtain ⟨fd_no_turn, F_no_turn⟩ := c.def_ 16 (d := d_no_turn) rfl
  obtain ⟨fd__law_together, F__law_together⟩ := c.def_ 17 (d := d__law_together) rfl
  obtain ⟨fd_no_rule, F_no_rule⟩ := c.def_ 18 (d := d_no_rule) rfl
  obtain ⟨fd_no_round, F_no_round⟩ := c.def_ 19 (d := d_no_round) rfl
  obtain ⟨fd_no_maker, F_no_maker⟩ := c.def_ 20 (d := d_no_maker) rfl
  obtain ⟨fd_are_all, F_are_all⟩ := c.def_ 21 (d := d_are_all) rfl
  obtain ⟨fd_is_shaped, F_is_shaped⟩ := c.def_ 22 (d := d_is_shaped) rfl
  obtain ⟨fd_lets_paper, F_lets_paper⟩ := c.def_ 23 (d := d_lets_paper) rfl
  obtain ⟨fd__law_heard, F__law_heard⟩ := c.def_ 24 (d := d__law_heard) rfl
  obtain ⟨fd_law, F_law⟩ := c.def_ 25 (d := d_law) rfl
  have e := hfa.symm.trans (He.glo_ok X G (c.fact 25 (f := .glo "law") rfl))
  cases e
  have b := FunD.bindsA (ps := ["_law_script"]) F_law fun _ _ _ _ _ _ us hl => match us, hl with | [_], _ => rfl
  have gg : ∀ y ∈ houseE :: xy, mg y = some (.ref (He.ga K y)) := by
    intro y hy
    simp only [List.mem_cons, List.not_mem_nil, or_false] at hy
    rcases hy with rfl | rfl | rfl | rfl | rfl | rfl | rfl | rfl | rfl | rfl
    · exact He.glo_ok X G (c.fact 40 (f := .glo "HouseError") rfl)
    · exact He.glo_ok X G (c.fact 41 (f := .glo "Endless") rfl)
    · exact He.glo_ok X G (c.fact 42 (f := .glo "NoFit") rfl)
    · exact He.glo_ok X G (c.fact 43 (f := .glo "NoName") rfl)
    · exact He.glo_ok X G (c.fact 44 (f := .glo "NoRow") rfl)
    · exact He.glo_ok X G (c.fact 45 (f := .glo "NoTable") rfl)
    · exact He.glo_ok X G (c.fact 46 (f := .glo "NoText") rfl)
    · exact He.glo_ok X G (c.fact 47 (f := .glo "NoThing") rfl)
    · exact He.glo_ok X G (c.fact 48 (f := .glo "TooGreat") rfl)
    · exact He.glo_ok X G (c.fact 49 (f := .glo "NoPaper") rfl)
  have xall := c0.2
  unfold xb at xall
  simp only [Bool.and_eq_true] at xall
  obtain ⟨x_t, x_h, x_f⟩ := xall
  obtain ⟨x_f0, x_f1⟩ := x_f
  have B : Bz K w mg := ⟨He.free_ok X G (c.fact 26 (f := .free "isinstance") rfl), He.free_ok X G (c.fact 27 (f := .free "int") rfl), He.free_ok X G (c.fact 28 (f := .free "bool") rfl), He.free_ok X G (c.fact 29 (f := .free "zip") rfl), He.free_ok X G (c.fact 30 (f := .free "range") rfl), He.free_ok X G (c.fact 31 (f := .free "tuple") rfl), He.free_ok X G (c.fact 32 (f := .free "enumerate") rfl), He.free_ok X G (c.fact 33 (f := .free "len") rfl), He.free_ok X G (c.fact 34 (f := .free "abs") rfl), He.free_ok X G (c.fact 35 (f := .free "all") rfl), He.free_ok X G (c.fact 36 (f := .free "ValueError") rfl), He.free_ok X G (c.fact 37 (f := .free "min") rfl), He.free_ok X G (c.fact 38 (f := .free "max") rfl), He.int_ok X G (c.fact 39 (f := .int "MOST_ROUNDS" 6) rfl), xtB_ok x_t gg, heB_ok x_h (gg houseE (by simp)), oeB_ok x_f1 (He.glo_ok X G (c.fact 49 (f := .glo "NoPaper") rfl)), ftB_ok x_f0⟩
  refine ⟨fd_law, fun s v => b s [v] rfl, fun base _ _ sr TB => ?_⟩
  have NS : SeerK P base := ⟨hP, sr⟩
  obtain ⟨fd_init_NoPaper, F_init_NoPaper⟩ := c.def_ 26 (d := d_init_NoPaper) rfl
  have I_NoPaper : IniK P w K mg base "NoPaper" ["word", "number"] := ⟨B.oe_NoPaper, fd_init_NoPaper, ["self", "word", "number"], ok_init_NoPaper F_init_NoPaper B, F_init_NoPaper.bindsN (fun _ _ _ _ _ _ us hl => match us, hl with | [_, _, _], _ => rfl)⟩
  have G_is_whole : Fn P w K mg base 1 "is_whole" 1 m_is_whole := ⟨⟨_, fd_is_whole, ["thing"], He.glo_ok X G (c.fact 0 (f := .glo "is_whole") rfl), F_is_whole.kp, F_is_whole.bindsN (fun _ _ _ _ _ _ us hl => match us, hl with | [_], _ => rfl), ok_is_whole F_is_whole B NS⟩⟩
  have G_mixed : Fn P w K mg base 1 "mixed" 3 m_mixed := ⟨⟨_, fd_mixed, ["wide", "numbers", "rows"], He.glo_ok X G (c.fact 1 (f := .glo "mixed") rfl), F_mixed.kp, F_mixed.bindsN (fun _ _ _ _ _ _ us hl => match us, hl with | [_, _, _], _ => rfl), ok_mixed F_mixed B NS⟩⟩
  have G_unit_row : Fn P w K mg base 1 "unit_row" 2 m_unit_row := ⟨⟨_, fd_unit_row, ["n", "at"], He.glo_ok X G (c.fact 2 (f := .glo "unit_row") rfl), F_unit_row.kp, F_unit_row.bindsN (fun _ _ _ _ _ _ us hl => match us, hl with | [_, _], _ => rfl), ok_unit_row F_unit_row B NS⟩⟩
  have G_no_form : Fn P w K mg base 1 "no_form" 1 m_no_form := ⟨⟨_, fd_no_form, ["form"], He.glo_ok X G (c.fact 3 (f := .glo "no_form") rfl), F_no_form.kp, F_no_form.bindsN (fun _ _ _ _ _ _ us hl => match us, hl with | [_], _ => rfl), ok_no_form F_no_form B NS⟩⟩
  have G__law_pen : Fn P w K mg base 1 "_law_pen" 2 m__law_pen := ⟨⟨_, fd__law_pen, ["_law_script", "_law_k"], He.glo_ok X G (c.fact 4 (f := .glo "_law_pen") rfl), F__law_pen.kp, F__law_pen.bindsN (fun _ _ _ _ _ _ us hl => match us, hl with | [_, _], _ => rfl), ok__law_pen F__law_pen B NS⟩⟩
  have G__law_draw : Fn P w K mg base 1 "_law_draw" 2 m__law_draw := ⟨⟨_, fd__law_draw, ["_law_pen_here", "_law_many"], He.glo_ok X G (c.fact 5 (f := .glo "_law_draw") rfl), F__law_draw.kp, F__law_draw.bindsN (fun _ _ _ _ _ _ us hl => match us, hl with | [_, _], _ => rfl), ok__law_draw F__law_draw B NS⟩⟩
  have G__law_forms : Fn P w K mg base 1 "_law_forms" 2 m__law_forms := ⟨⟨_, fd__law_forms, ["_law_n", "_law_m"], He.glo_ok X G (c.fact 6 (f := .glo "_law_forms") rfl), F__law_forms.kp, F__law_forms.bindsN (fun _ _ _ _ _ _ us hl => match us, hl with | [_, _], _ => rfl), ok__law_forms F__law_forms B NS⟩⟩
  have G__law_alone : Fn P w K mg base 1 "_law_alone" 2 m__law_alone := ⟨⟨_, fd__law_alone, ["_law_n", "_law_m"], He.glo_ok X G (c.fact 7 (f := .glo "_law_alone") rfl), F__law_alone.kp, F__law_alone.bindsN (fun _ _ _ _ _ _ us hl => match us, hl with | [_, _], _ => rfl), ok__law_alone F__law_alone B NS⟩⟩
  have G__law_beside : Fn P w K mg base 1 "_law_beside" 4 m__law_beside := ⟨⟨_, fd__law_beside, ["_law_one", "_law_other", "_law_first_here", "_law_second"], He.glo_ok X G (c.fact 8 (f := .glo "_law_beside") rfl), F__law_beside.kp, F__law_beside.bindsN (fun _ _ _ _ _ _ us hl => match us, hl with | [_, _, _, _], _ => rfl), ok__law_beside F__law_beside B NS⟩⟩
  have G__law_first : Fn P w K mg base 1 "_law_first" 2 m__law_first := ⟨⟨_, fd__law_first, ["_law_one", "_law_other"], He.glo_ok X G (c.fact 9 (f := .glo "_law_first") rfl), F__law_first.kp, F__law_first.bindsN (fun _ _ _ _ _ _ us hl => match us, hl with | [_, _], _ => rfl), ok__law_first F__law_first B NS⟩⟩
  have G__law_divide : Fn P w K mg base 1 "_law_divide" 2 m__law_divide := ⟨⟨_, fd__law_divide, ["_law_one", "_law_other"], He.glo_ok X G (c.fact 10 (f := .glo "_law_divide") rfl), F__law_divide.kp, F__law_divide.bindsN (fun _ _ _ _ _ _ us hl => match us, hl with | [_, _], _ => rfl), ok__law_divide F__law_divide B NS⟩⟩
  have G_is_house : Fn P w K mg base 2 "is_house" 1 m_is_house := ⟨⟨_, fd_is_house, ["thing"], He.glo_ok X G (c.fact 11 (f := .glo "is_house") rfl), F_is_house.kp, F_is_house.bindsN (fun _ _ _ _ _ _ us hl => match us, hl with | [_], _ => rfl), ok_is_house F_is_house B NS G_is_whole⟩⟩
  have G_is_thing : Fn P w K mg base 2 "is_thing" 2 m_is_thing := ⟨⟨_, fd_is_thing, ["house", "thing"], He.glo_ok X G (c.fact 12 (f := .glo "is_thing") rfl), F_is_thing.kp, F_is_thing.bindsN (fun _ _ _ _ _ _ us hl => match us, hl with | [_, _], _ => rfl), ok_is_thing F_is_thing B NS G_is_whole⟩⟩
  have G_is_row : Fn P w K mg base 2 "is_row" 2 m_is_row := ⟨⟨_, fd_is_row, ["wide", "thing"], He.glo_ok X G (c.fact 13 (f := .glo "is_row") rfl), F_is_row.kp, F_is_row.bindsN (fun _ _ _ _ _ _ us hl => match us, hl with | [_, _], _ => rfl), ok_is_row F_is_row B NS G_is_whole⟩⟩
  have G_led_there : Fn P w K mg base 2 "led_there" 2 m_led_there := ⟨⟨_, fd_led_there, ["paper", "word"], He.glo_ok X G (c.fact 14 (f := .glo "led_there") rfl), F_led_there.kp, F_led_there.bindsN (fun _ _ _ _ _ _ us hl => match us, hl with | [_, _], _ => rfl), ok_led_there F_led_there B NS G_mixed⟩⟩
  have G_back_word : Fn P w K mg base 2 "back_word" 3 m_back_word := ⟨⟨_, fd_back_word, ["many", "paper", "a"], He.glo_ok X G (c.fact 15 (f := .glo "back_word") rfl), F_back_word.kp, F_back_word.bindsN (fun _ _ _ _ _ _ us hl => match us, hl with | [_, _, _], _ => rfl), ok_back_word F_back_word B NS G_mixed⟩⟩
  have G_no_turn : Fn P w K mg base 2 "no_turn" 2 m_no_turn := ⟨⟨_, fd_no_turn, ["given", "paper"], He.glo_ok X G (c.fact 16 (f := .glo "no_turn") rfl), F_no_turn.kp, F_no_turn.bindsN (fun _ _ _ _ _ _ us hl => match us, hl with | [_, _], _ => rfl), ok_no_turn F_no_turn B NS G_mixed⟩⟩
  have G__law_together : Fn P w K mg base 2 "_law_together" 2 m__law_together := ⟨⟨_, fd__law_together, ["_law_one", "_law_other"], He.glo_ok X G (c.fact 17 (f := .glo "_law_together") rfl), F__law_together.kp, F__law_together.bindsN (fun _ _ _ _ _ _ us hl => match us, hl with | [_, _], _ => rfl), ok__law_together F__law_together B NS G__law_beside⟩⟩
  have G_no_rule : Fn P w K mg base 3 "no_rule" 2 m_no_rule := ⟨⟨_, fd_no_rule, ["given", "paper"], He.glo_ok X G (c.fact 18 (f := .glo "no_rule") rfl), F_no_rule.kp, F_no_rule.bindsN (fun _ _ _ _ _ _ us hl => match us, hl with | [_, _], _ => rfl), ok_no_rule F_no_rule B NS G_led_there⟩⟩
  have G_no_round : Fn P w K mg base 3 "no_round" 1 m_no_round := ⟨⟨_, fd_no_round, ["paper"], He.glo_ok X G (c.fact 19 (f := .glo "no_round") rfl), F_no_round.kp, F_no_round.bindsN (fun _ _ _ _ _ _ us hl => match us, hl with | [_], _ => rfl), ok_no_round F_no_round B NS G_led_there G_unit_row⟩⟩
  have G_no_maker : Fn P w K mg base 3 "no_maker" 2 m_no_maker := ⟨⟨_, fd_no_maker, ["given", "paper"], He.glo_ok X G (c.fact 20 (f := .glo "no_maker") rfl), F_no_maker.kp, F_no_maker.bindsN (fun _ _ _ _ _ _ us hl => match us, hl with | [_, _], _ => rfl), ok_no_maker F_no_maker B NS G_back_word G_unit_row G_mixed⟩⟩
  have G_are_all : AreFn P w K mg base 3 "are_all" 4 3 b_are_all := ⟨⟨_, fd_are_all, N_are_all, _, _, _, "some", "many", "fits", "one", He.glo_ok X G (c.fact 21 (f := .glo "are_all") rfl), F_are_all.kp, F_are_all, F_are_all.bindsN (fun _ _ _ _ _ _ us hl => match us, hl with | [_, _, _], _ => rfl), sc_are_all, rfl, by decide, rfl, rfl, by decide, by decide, by decide, by decide, are_are_all B NS⟩⟩
  have G_is_shaped : Fn P w K mg base 5 "is_shaped" 2 m_is_shaped := ⟨⟨_, fd_is_shaped, ["given", "thing"], He.glo_ok X G (c.fact 22 (f := .glo "is_shaped") rfl), F_is_shaped.kp, F_is_shaped.bindsN (fun _ _ _ _ _ _ us hl => match us, hl with | [_, _], _ => rfl), ok_is_shaped F_is_shaped B NS (lamAt_of rfl l (by decide) TB) G_is_house G_is_thing G_are_all G_is_row⟩⟩
  have G_lets_paper : Fn P w K mg base 6 "lets_paper" 2 m_lets_paper := ⟨⟨_, fd_lets_paper, ["given", "thing"], He.glo_ok X G (c.fact 23 (f := .glo "lets_paper") rfl), F_lets_paper.kp, F_lets_paper.bindsN (fun _ _ _ _ _ _ us hl => match us, hl with | [_, _], _ => rfl), ok_lets_paper F_lets_paper B NS I_NoPaper G_is_shaped G_no_form G_no_rule G_no_round G_no_maker G_no_turn⟩⟩
  have G__law_heard : Fn P w K mg base 7 "_law_heard" 2 m__law_heard := ⟨⟨_, fd__law_heard, ["_law_given", "_law_thing"], He.glo_ok X G (c.fact 24 (f := .glo "_law_heard") rfl), F__law_heard.kp, F__law_heard.bindsN (fun _ _ _ _ _ _ us hl => match us, hl with | [_, _], _ => rfl), ok__law_heard F__law_heard B NS G_lets_paper⟩⟩
  exact ok_law F_law B NS G__law_pen G__law_draw G__law_forms G__law_heard G__law_alone G__law_together G__law_divide G__law_first
theorem sp_law {K : PySem.W.Frag} {mg : Str → Option Value} {ns : List Int} (hl : ∃ r, m_law [.v (.list (ns.map .int))] = .ok (.v (.bool true)) r) (H : Hp) (a : Addr) (hS : SqL K H a (ns.map V.int)) (tb : LamX.Tabs (TabT.T K) H) : spG K mg 1 m_law [.ref a] H (fun v _ => v = .bl true) fun _ _ _ => False :=
  sp_start hl hS tb
end K22
namespace K22
open PySem Pu L2
abbrev T (xs : List Int) : D := .tuple (xs.map .int)
theorem at_len {hs : List Int} {i : Nat} (h : i < hs.length) : ∃ x, hs[i]? = some x := ⟨_, List.getElem?_eq_getElem h⟩
def wh : D → Bool
  | .int _ => true
  | _ => false
def on1 : D → Bool
  | .int i => decide (1 ≤ i)
  | _ => false
def hou : D → Bool
  | .tuple ds => decide (ds.length ≤ 6) && ds.all on1
  | _ => false
def okA (hs : List Int) (ds : List D) (i : Nat) : Bool := match ds[i]? with
  | some (.int a) => (match hs[i]? with
    | some h => decide (0 ≤ a) && decide (a < h)
    | none => false)
  | _ => false
def thg (hs : List Int) : D → Bool
  | .tuple ds => decide (ds.length = hs.length) && (List.range hs.length).all (okA hs ds)
  | _ => false
theorem whole_ok {X : Exn → En → Prop} (d : D) : Wp X (m_is_whole [.v d]) fun rv _ => rv = .v (.bool (wh d)) := by
  refine po_fn ?_
  unfold b_is_whole
  cases d <;> simp [wh]
theorem is_house_ok {X : Exn → En → Prop} (d : D) : Wp X (m_is_house [.v d]) fun rv _ => rv = .v (.bool (hou d)) := by
  refine po_fnK fun Y K hY hK _ => ?_
  unfold b_is_house
  refine po_step fun K1 h1 r1 _ _ => ?_
  cases d with
  | tuple ds =>
    by_cases hl : ds.length ≤ 6
    · have hl' : ¬ (6 < ds.length) := by omega
      have hl2 : ¬ ((6 : Int) < (ds.length : Int)) := by omega
      simp [hl2]
      refine h1 _ ?_
      simp
      refine po_compMD (g := fun d => .bool (on1 d)) (fun r => ∃ a, r = [.v (.tuple ds), a]) ds _ ⟨_, rfl⟩ (by omega) ?_ ?_
      · rintro x hx r ⟨a, rfl⟩
        refine ⟨[.v (.tuple ds), .v x], by simp, ?_⟩
        simp
        refine po_mono (whole_ok x) ?_
        rintro _ _ rfl
        cases x <;> simp [wh, on1]
      · rintro r ⟨a, rfl⟩
        simp
        refine hK _ _ _ rfl ?_
        simp [hou, hl]
    · have hl' : 6 < ds.length := by omega
      have hl2 : (6 : Int) < (ds.length : Int) := by omega
      simp [hl2]
      refine r1 _ _ ?_
      exact hK _ _ _ rfl (by simp [hou, hl])
  | _ =>
    simp
    exact r1 _ _ (hK _ _ _ rfl rfl)
theorem all_zip (ds : List D) (f : Nat → Bool) : (ds.zipIdx.map fun p => f p.2).all id = (List.range ds.length).all f := by
  have : (ds.zipIdx.map fun p => f p.2) = (List.range ds.length).map f := by
    apply List.ext_getElem?
    intro i
    rw [List.getElem?_map, List.getElem?_map, List.getElem?_zipIdx]
    by_cases h : i < ds.length
    · rw [List.getElem?_eq_getElem h, List.getElem?_range h]
      simp
    · rw [List.getElem?_eq_none (by omega), List.getElem?_eq_none (by simp; omega)]
      rfl
  rw [this, List.all_map]
  rfl
theorem is_thing_ok {X : Exn → En → Prop} {hs : List Int} (H : hs.length ≤ 6) (d : D) : Wp X (m_is_thing [.v (T hs), .v d]) fun rv _ => rv = .v (.bool (thg hs d)) := by
  refine po_fnK fun Y K hY hK _ => ?_
  unfold b_is_thing
  refine po_step fun K1 h1 r1 _ _ => ?_
  cases d with
  | tuple ds =>
    by_cases hl : ds.length = hs.length
    · simp [hl]
      refine h1 _ ?_
      have e : enOf [.tuple ds] = some ((ds.zipIdx 0).map fun p => .tuple [.int (p.2 : Nat), p.1]) := by
        have := enOf_t (fun d : D => d) ds
        simpa using this
      simp [e]
      refine po_compM (g := fun p : D × Nat => PyData.bool (okA hs ds p.2)) (fun r => ∃ a b, r = [.v (T hs), .v (.tuple ds), a, b]) (ds.zipIdx 0) [] _ ⟨_, _, rfl⟩ (by simp; omega) ?_ ?_
      · rintro ⟨x, i⟩ hp r ⟨a, b, rfl⟩
        have e1 : ds[i]? = some x := by
          have := List.mem_zipIdx hp
          simp at this
          rw [List.getElem?_eq_getElem this.1]
          exact congrArg some this.2.symm
        obtain ⟨h, e2⟩ := at_len (hs := hs) (i := i) (by rw [← hl]; exact (List.getElem?_eq_some_iff.mp e1).1)
        refine ⟨[.v (T hs), .v (.tuple ds), .v (.int i), .v x], by simp, ?_⟩
        simp
        refine po_mono (whole_ok x) ?_
        rintro _ _ rfl
        cases x with
        | int a =>
          by_cases h0 : 0 ≤ a
          · simp [wh, okA, e1, e2, h0]
          · simp [wh, okA, e1, e2, h0]
        | _ => simp [wh, okA, e1]
      · rintro r ⟨a, b, rfl⟩
        have e3 := all_zip ds (okA hs ds)
        have e4 : boolsOf (ds.zipIdx.map fun p => PyData.bool (okA hs ds p.2)) = some (ds.zipIdx.map fun p => okA hs ds p.2) := boolsOf_map (fun p : D × Nat => okA hs ds p.2) _
        simp [e4]
        refine hK _ _ _ rfl ?_
        rw [hl] at e3
        rw [List.all_map] at e3
        simp [thg, hl]
        first | exact e3 | (simpa using e3)
    · have hl2 : ¬ ((ds.length : Int) = (hs.length : Int)) := by omega
      simp [hl2]
      refine r1 _ _ ?_
      exact hK _ _ _ rfl (by simp [thg, hl])
  | _ =>
    simp
    exact r1 _ _ (hK _ _ _ rfl rfl)
abbrev TT (rs : List (List Int)) : D := .tuple (rs.map fun r => T r)
def Rw (w b : Nat) (rs : List (List Int)) : Prop := ∀ r ∈ rs, r.length = w ∧ ∀ x ∈ r, x.natAbs ≤ b
def rowB (m : Int) : D → Bool
  | .tuple ds => decide ((ds.length : Int) = m) && ds.all wh
  | _ => false
theorem isrow_ok {X : Exn → En → Prop} {m : Int} (hm : m ≤ 1000) (d : D) : Wp X (m_is_row [.v (.int m), .v d]) fun rv _ => rv = .v (.bool (rowB m d)) := by
  refine po_fnK fun Y K hY hK _ => ?_
  unfold b_is_row
  refine po_step fun K1 h1 r1 _ _ => ?_
  cases d with
  | tuple ds =>
    by_cases hl : (ds.length : Int) = m
    · simp [hl]
      refine h1 _ ?_
      simp
      refine po_compMD (g := fun d => .bool (wh d)) (fun r => ∃ a, r = [.v (.int m), .v (.tuple ds), a]) ds _ ⟨_, rfl⟩ (by omega) ?_ ?_
      · rintro x hx r ⟨a, rfl⟩
        refine ⟨[.v (.int m), .v (.tuple ds), .v x], by simp, ?_⟩
        simp
        refine po_mono (whole_ok x) ?_
        rintro _ _ rfl
        simp
      · rintro r ⟨a, rfl⟩
        simp
        refine hK _ _ _ rfl ?_
        simp [rowB, hl]
    · simp [hl]
      refine r1 _ _ ?_
      exact hK _ _ _ rfl (by simp [rowB, hl])
  | _ =>
    simp
    exact r1 _ _ (hK _ _ _ rfl rfl)
def gtr (r : List Int) (a : Nat) : Int := r.getD a 0
def tot (at_ : Nat) (ps : List (Int × List Int)) : Int := ps.foldl (fun s p => s + p.1 * gtr p.2 at_) 0
theorem tot_app (at_ : Nat) (ps : List (Int × List Int)) (p : Int × List Int) : tot at_ (ps ++ [p]) = tot at_ ps + p.1 * gtr p.2 at_ := by
  unfold tot
  rw [List.foldl_append]
  rfl
def mix (w : Nat) (ns : List Int) (rs : List (List Int)) : List Int := (List.range w).map fun a => tot a (List.zip ns rs)
theorem zip_nm (ns : List Int) (rs : List (List Int)) : zipOf [T ns, TT rs] = some ((List.zip ns rs).map fun p => .tuple [.int p.1, T p.2]) := by
  have e : ∀ (xs : List Int) (ys : List (List Int)), zipD (xs.map PyData.int) (ys.map fun r => T r) = (List.zip xs ys).map fun p => .tuple [.int p.1, T p.2] := by
    intro xs
    induction xs with
    | nil => intro ys; rfl
    | cons x xs ih =>
      intro ys
      cases ys with
      | nil => rfl
      | cons y ys =>
        show PyData.tuple [.int x, T y] :: zipD (xs.map PyData.int) (ys.map fun r => T r) = _
        rw [ih]
        rfl
  exact congrArg some (e ns rs)
theorem getD_at {r : List Int} {a : Nat} (h : a < r.length) : r[a]? = some (gtr r a) := by
  rw [gtr, List.getD, List.getElem?_eq_getElem h]
  rfl
theorem mixed_ok {X : Exn → En → Prop} {w b : Nat} {ns : List Int} {rs : List (List Int)} (hw : w ≤ 14) (hn : rs.length ≤ 14) (R : Rw w b rs) (hb : b < 2 ^ 62) : Wp X (m_mixed [.v (.int w), .v (T ns), .v (TT rs)]) fun rv _ => rv = .v (T (mix w ns rs)) := by
  refine po_fnK fun Y K hY hK _ => ?_
  unfold b_mixed
  refine po_step fun K1 h1 _ _ _ => ?_
  simp
  refine ⟨by omega, h1 _ ?_⟩
  refine po_step fun K2 h2 _ _ _ => ?_
  simp [zip_nm]
  refine po_forK (fun done r => ∃ s4 s5 s6, r = [.v (.int w), .v (T ns), .v (TT rs), .v (.list (((List.range w).map fun a => tot a done).map .int)), s4, s5, s6] ∧ s4.isIo = false ∧ s5.isIo = false ∧ s6.own = none) (List.zip ns rs) _ ⟨.unk, .unk, .unk, by
    have e0 : List.replicate w (PyData.int 0) = ((List.range w).map fun a => tot a []).map PyData.int := by
      rw [List.map_map]
      have : (PyData.int ∘ fun a => tot a []) = fun _ : Nat => PyData.int 0 := rfl
      rw [this, List.map_const', List.length_range]
    rw [e0], rfl, rfl, rfl⟩ ?_ ?_
  · rintro done ⟨n, r0⟩ rest r e ⟨s4, s5, s6, rfl, q4, q5, q6⟩
    have hr0 : r0 ∈ rs := (List.of_mem_zip (show (n, r0) ∈ List.zip ns rs by rw [e]; simp)).2
    obtain ⟨rl, rb⟩ := R r0 hr0
    refine ⟨[.v (.int w), .v (T ns), .v (TT rs), .v (.list (((List.range w).map fun a => tot a done).map .int)), .v (.int n), .v (T r0), s6], by simp [q4, q5], fun K3 h3 _ _ _ => ?_⟩
    simp [q6]
    refine ⟨by omega, ?_⟩
    rw [rng_map]
    refine po_compM (g := fun a : Nat => PyData.int (tot a (done ++ [(n, r0)]))) (fun q => ∃ s, q = [.v (.int w), .v (T ns), .v (TT rs), .v (.list (((List.range w).map fun a => tot a done).map .int)), .v (.int n), .v (T r0), s]) (List.range w) [] _ ⟨s6, by simp⟩ (by simp; omega) ?_ ?_
    · rintro a ha q ⟨s, rfl⟩
      have ha := List.mem_range.mp ha
      refine ⟨[.v (.int w), .v (T ns), .v (TT rs), .v (.list (((List.range w).map fun a => tot a done).map .int)), .v (.int n), .v (T r0), .v (.int a)], by simp, ?_⟩
      have e1 := getD_at (r := r0) (a := a) (by omega)
      have hx := rb _ (List.mem_of_getElem? e1)
      simp [ha, e1]
      refine ⟨mulOk_r ⟨by omega, by omega⟩, ?_⟩
      rw [tot_app]
    · rintro q ⟨s, rfl⟩
      simp
      refine h3 _ ⟨.v (.int n), .v (T r0), s6, ?_, rfl, rfl, q6⟩
      simp
  · rintro r ⟨s4, s5, s6, rfl, q4, q5, q6⟩
    refine h2 _ ?_
    simp
    refine hK _ _ _ rfl ?_
    simp [mix]
def un (n a : Nat) : List Int := (List.range n).map fun k => if k = a then 1 else 0
@[simp] theorem intD_b (b : Bool) : intD (.bool b) = some (.int (if b then 1 else 0)) := rfl
theorem unit_row_ok {X : Exn → En → Prop} {n a : Nat} (hn : n ≤ 14) : Wp X (m_unit_row [.v (.int n), .v (.int a)]) fun rv _ => rv = .v (T (un n a)) := by
  refine po_fnK fun Y K hY hK _ => ?_
  unfold b_unit_row
  simp
  refine ⟨by omega, ?_⟩
  rw [rng_map]
  refine po_compM (g := fun k : Nat => PyData.int (if k = a then 1 else 0)) (fun q => ∃ s, q = [.v (.int n), .v (.int a), s]) (List.range n) [] _ ⟨_, rfl⟩ (by simp; omega) ?_ ?_
  · rintro k hk q ⟨s, rfl⟩
    refine ⟨[.v (.int n), .v (.int a), .v (.int k)], by simp, ?_⟩
    by_cases h : k = a
    · simp [h]
    · have h2 : ¬ (k : Int) = a := by omega
      simp [h, h2]
  · rintro q ⟨s, rfl⟩
    simp
    refine hK _ _ _ rfl ?_
    simp [un]
def PenL (c : Ct) : Prop := ∃ a b k : Int, c = .l [.int a, .int b, .int k] ∧ 0 ≤ a
def DrL (n : Int) (rv : RV) (z : List Sl) : Prop := ∃ k c t, rv = .v (.int k) ∧ 0 ≤ k ∧ k < n ∧ z = .io c :: t ∧ PenL c
theorem at0 (x y z : D) : atI [x, y, z] 0 = some x := rfl
theorem at1 (x y z : D) : atI [x, y, z] 1 = some y := rfl
theorem at2 (x y z : D) : atI [x, y, z] 2 = some z := rfl
theorem ix0 : ixN 3 0 = some 0 := rfl
theorem ix2 : ixN 3 2 = some 2 := rfl
theorem draw_ok {X : Exn → En → Prop} {p : Ct} {n : Int} (hp : PenL p) (hn : 0 < n) (hn2 : n < 2 ^ 63) : Wp X (m__law_draw [.io p, .v (.int n)]) (DrL n) := by
  obtain ⟨a, b, k, rfl, ha⟩ := hp
  refine po_fn ?_
  unfold b__law_draw DrL
  have hp1 : ∀ x : Int, 0 ≤ x.fmod n := fun x => (fmod_pos x hn).1
  have hp2 : ∀ x : Int, x.fmod n < n := fun x => (fmod_pos x hn).2
  have hn' : ¬ n = 0 := by omega
  have fin1 : ∀ j, PenL (.l [.int a, .int b, .int j]) := fun j => ⟨a, b, j, rfl, ha⟩
  have fin2 : ∀ j, PenL (.l [.int (a.fdiv n), .int b, .int j]) := fun j => ⟨_, b, j, rfl, fdiv_nn ha hn⟩
  simp [po_seq, Int.fmod_eq_emod_of_nonneg, Int.fdiv_eq_ediv_of_nonneg, hn', hp1, hp2, fin1, fin2, at0, at1, at2, ix0, ix2]
theorem pen_ok {X : Exn → En → Prop} (ns : List Int) (k : Nat) : Wp X (m__law_pen [.v (.list (ns.map .int)), .v (.int k)]) fun rv _ => ∃ c, rv = .o c ∧ PenL c := by
  refine po_fnK fun Y K hY hK _ => ?_
  unfold b__law_pen
  refine po_step fun K1 h1 _ _ _ => ?_
  simp
  refine h1 _ ?_
  have rest : ∀ x : Int, Wp Y ((sSeq (sIf (tBool (Pu.bin geD (nry (one absD) (aCons (getS 2) aNil)) (Pu.bin powD (M.ret (.int 10)) (M.ret (.int 18)))))
  (sRet (oLst (aCons (Pu.bin subD (nry (one absD) (aCons (getS 2) aNil)) (Pu.bin powD (M.ret (.int 10)) (M.ret (.int 18)))) (aCons (Pu.bin modD (getS 2) (M.ret (.int 2147483587))) (aCons (M.ret (.int 0)) aNil)))))
  sNil)
  (sRet (oLst (aCons (M.ret (.int 0)) (aCons (Pu.bin addD (Pu.bin modD (getS 2) (M.ret (.int 2147483587))) (Pu.bin mulD (M.ret (.int 12289)) (getS 1))) (aCons (M.ret (.int 0)) aNil)))))) [.v (.list (ns.map .int)), .v (.int k), .v (.int x)]) K := by
    intro x
    refine po_step fun K3 h3 r3 _ _ => ?_
    by_cases h0 : x < 0
    · simp [h0]
      split
      · refine r3 _ _ ?_
        exact hK _ _ _ rfl ⟨_, rfl, -x - 1000000000000000000, _, _, rfl, by omega⟩
      · refine h3 _ ?_
        simp
        exact hK _ _ _ rfl ⟨_, rfl, 0, _, _, rfl, by omega⟩
    · simp [h0]
      split
      · refine r3 _ _ ?_
        exact hK _ _ _ rfl ⟨_, rfl, x - 1000000000000000000, _, _, rfl, by omega⟩
      · refine h3 _ ?_
        simp
        exact hK _ _ _ rfl ⟨_, rfl, 0, _, _, rfl, by omega⟩
  refine po_step fun K2 h2 _ _ _ => ?_
  by_cases hk : k < ns.length
  · simp [hk]
    exact h2 _ (rest _)
  · by_cases hl : 0 < ns.length
    · have hm : k % ns.length < ns.length := Nat.mod_lt _ hl
      obtain ⟨x, e⟩ : ∃ x, ns[k % ns.length]? = some x := ⟨_, List.getElem?_eq_getElem hm⟩
      have e2 : atI (ns.map PyData.int) ((k : Int).fmod (ns.length : Int)) = some (.int x) := by
        rw [fmod_nat, Pu.atI_nat, List.getElem?_map, e]
        rfl
      have hne : ns ≠ [] := fun z => by rw [z] at hl; simp at hl
      simp [hk, hl, e2, hne]
      exact h2 _ (rest _)
    · have hne : ns = [] := List.length_eq_zero_iff.mp (by omega)
      subst hne
      simp
      exact h2 _ (rest _)
end K22
namespace K22
open PySem Pu L2
theorem are_ok {X : Exn → En → Prop} {k : D → En → Prop} {th m1 m2 : M D} {r : En} {xs : List (List Int)} {c : Int} (F : D → Bool) (h1 : m1 r = .ok (TT xs) r) (h2 : m2 r = .ok (.int c) r) (hl : xs.length ≤ 1000)
    (hF : ∀ x ∈ xs, Wp (fun _ _ => False) (th (r.map hideT ++ [.v (T x)])) fun d _ => d = .bool (F (T x))) (hk : k (.bool (decide ((xs.length : Int) = c) && xs.all fun x => F (T x))) r) : Wp X (areM b_are_all 4 3 th m1 m2 r) k := by
  refine po_areM ?_
  rw [h1]
  simp [-po_comp]
  rw [h2]
  simp [-po_comp]
  unfold b_are_all
  simp [-po_comp]
  by_cases hc : (xs.length : Int) = c
  · simp [-po_comp, hc]
    refine po_compEM (f := fun x : List Int => T x) (fun acc r => ∃ s, acc = (xs.take acc.length).map (fun x => PyData.bool (F (T x))) ∧ r = [.v (TT xs), .v (.int c), .unk, s]) xs [] _ ⟨.unk, rfl, rfl⟩ (by simp [-po_comp]; omega) ?_ ?_
    · rintro done x rest e acc r' hl2 ⟨s, ea, rfl⟩
      refine ⟨[.v (TT xs), .v (.int c), .unk, .v (T x)], by simp, ?_⟩
      refine po_actM rfl ?_
      refine po_mono (hF x (by rw [e]; simp [-po_comp])) ?_
      rintro _ _ rfl
      refine ⟨rfl, .v (T x), ?_, rfl⟩
      have l : acc.length = done.length := by simpa using hl2
      rw [List.length_append, l]
      have t1 : xs.take done.length = done := by rw [e]; simp [-po_comp]
      have t2 : xs.take (done.length + 1) = done ++ [x] := by
        rw [e, show done ++ x :: rest = (done ++ [x]) ++ rest by simp]
        exact List.take_left' (by simp [-po_comp])
      rw [l, t1] at ea
      show acc ++ [_] = (xs.take (done.length + 1)).map _
      rw [t2, ea, List.map_append]
      rfl
    · rintro acc r' hl2 ⟨s, ea, rfl⟩
      have l : acc.length = xs.length := by simpa using hl2
      rw [l, List.take_length] at ea
      subst ea
      have e4 : boolsOf (xs.map fun x => PyData.bool (F (T x))) = some (xs.map fun x => F (T x)) := boolsOf_map (fun x => F (T x)) _
      simp [-po_comp, e4]
      refine ⟨rfl, ?_⟩
      have : (xs.map fun x => F (T x)).all id = xs.all fun x => F (T x) := by rw [List.all_map]; rfl
      simpa [hc, this] using hk
  · simp [-po_comp, hc]
    refine ⟨rfl, ?_⟩
    simpa [hc] using hk
abbrev gD (many : Nat) (rules : List (List Int)) : D := .tuple [.int many, TT rules]
abbrev pD (form : List Int) (th bk wh tu : List (List Int)) : D := .tuple [T form, TT th, TT bk, TT wh, TT tu]
def shF (many : Nat) (rules : List (List Int)) (form : List Int) (th bk wh tu : List (List Int)) : Bool :=
  hou (T form) && ((decide (th.length = many) && th.all fun x => thg form (T x)) && ((decide (bk.length = form.length) && bk.all fun x => rowB many (T x)) && ((decide (wh.length = many) && wh.all fun x => rowB rules.length (T x)) && (decide (tu.length = form.length) && tu.all fun x => rowB rules.length (T x)))))
theorem nl_T (x : List Int) : nlD (T x) = true := by
  show nlDs (x.map .int) = true
  induction x with
  | nil => rfl
  | cons a x ih => exact Bool.and_eq_true_iff.mpr ⟨rfl, ih⟩
theorem nl_TT (x : List (List Int)) : nlD (TT x) = true := by
  show nlDs (x.map fun r => T r) = true
  induction x with
  | nil => rfl
  | cons a x ih => exact Bool.and_eq_true_iff.mpr ⟨nl_T a, ih⟩
theorem nl_int (i : Int) : nlD (.int i) = true := rfl
theorem nl_g (many : Nat) (rules : List (List Int)) : nlD (gD many rules) = true := by
  show (nlD (.int many) && (nlD (TT rules) && true)) = true
  rw [nl_TT]
  rfl
theorem nl_p (form : List Int) (th bk wh tu : List (List Int)) : nlD (pD form th bk wh tu) = true := by
  show (nlD (T form) && (nlD (TT th) && (nlD (TT bk) && (nlD (TT wh) && (nlD (TT tu) && true))))) = true
  rw [nl_TT, nl_TT, nl_TT, nl_TT, nl_T]
  rfl
theorem cast_eq {a b : Nat} : decide ((a : Int) = (b : Int)) = decide (a = b) := by
  rw [Bool.eq_iff_iff]
  simp [-po_comp]
  omega
theorem shaped_ok {X : Exn → En → Prop} {many : Nat} {rules : List (List Int)} {form : List Int} {th bk wh tu : List (List Int)} (h1 : rules.length ≤ 100) (h2 : many ≤ 100) (l1 : th.length ≤ 1000) (l2 : bk.length ≤ 1000) (l3 : wh.length ≤ 1000) (l4 : tu.length ≤ 1000) (lf : form.length ≤ 100) :
    Wp X (m_is_shaped [.v (gD many rules), .v (pD form th bk wh tu)]) fun rv _ => rv = .v (.bool (shF many rules form th bk wh tu)) := by
  refine po_fnK fun Y K hY hK _ => ?_
  unfold b_is_shaped
  refine po_step fun K1 h1' r1 _ _ => ?_
  simp [-po_comp]
  refine ⟨T form, rfl, ?_⟩
  refine po_mono (is_house_ok _) ?_
  rintro _ _ rfl
  cases hh : hou (T form) with
  | false =>
    simp [-po_comp]
    exact r1 _ _ (hK _ _ _ rfl (by simp [-po_comp, shF, hh]))
  | true =>
    have l6 : form.length ≤ 6 := by
      have : (decide ((form.map PyData.int).length ≤ 6) && (form.map PyData.int).all on1) = true := hh
      rw [Bool.and_eq_true] at this
      have := of_decide_eq_true this.1
      simpa using this
    simp [-po_comp]
    refine h1' _ ?_
    refine po_step fun K2 h2' _ _ _ => ?_
    simp [-po_comp]
    refine h2' _ ?_
    refine po_step fun K3 h3' _ _ _ => ?_
    simp [-po_comp]
    refine h3' _ ?_
    refine po_step fun K4 h4' r4 _ _ => ?_
    simp [-po_comp]
    have hid : [Sl.v (gD many rules), Sl.v (pD form th bk wh tu), Sl.v (PyData.int ↑many), Sl.v (TT rules), Sl.v (T form), Sl.v (TT th), Sl.v (TT bk), Sl.v (TT wh), Sl.v (TT tu)].map hideT = [Sl.v (gD many rules), Sl.v (pD form th bk wh tu), Sl.v (PyData.int ↑many), Sl.v (TT rules), Sl.v (T form), Sl.v (TT th), Sl.v (TT bk), Sl.v (TT wh), Sl.v (TT tu)] := by
      simp only [List.map_cons, List.map_nil, hideT, nl_g, nl_p, nl_int, nl_T, nl_TT, if_true]
    have row : ∀ (n : Nat) (hn : (n : Int) ≤ 1000) (x : List Int) (r : En) (m : M D), (m (r ++ [.v (T x)])) = .ok (.int n) (r ++ [.v (T x)]) → r.length = 9 → Wp (fun _ _ => False) (frzM (cCall m_is_row (aCons m (aCons (getS 9) aNil))) (r ++ [.v (T x)])) fun d _ => d = .bool (rowB n (T x)) := fun n hn x r m e hr => by
      have e9 : (r ++ [Sl.v (T x)])[9]? = some (.v (T x)) := by
        rw [List.getElem?_append_right (by omega), hr]
        rfl
      simp [-po_comp, e]
      rw [e9]
      simp [-po_comp]
      refine po_mono (isrow_ok hn _) ?_
      rintro _ _ rfl
      simp [-po_comp]
    refine are_ok (xs := th) (c := many) (thg form) rfl rfl (by omega) (fun x hx => ?_) ?_
    · rw [hid]
      simp [-po_comp]
      refine po_mono (is_thing_ok l6 _) ?_
      rintro _ _ rfl
      simp [-po_comp]
    · rw [cast_eq]
      cases b1 : (decide (th.length = many) && th.all fun x => thg form (T x)) with
      | false =>
        simp [-po_comp]
        exact r4 _ _ (hK _ _ _ rfl (by rw [shF, hh, b1]; rfl))
      | true =>
        simp [-po_comp]
        refine h4' _ ?_
        refine po_step fun K5 h5' r5 _ _ => ?_
        simp [-po_comp]
        refine are_ok (xs := bk) (c := form.length) (rowB many) rfl (by simp [-po_comp]) (by omega) (fun x hx => ?_) ?_
        · rw [hid]
          exact row many (by omega) x _ (getS 2) rfl rfl
        · rw [cast_eq]
          cases b2 : (decide (bk.length = form.length) && bk.all fun x => rowB many (T x)) with
          | false =>
            simp [-po_comp]
            exact r5 _ _ (hK _ _ _ rfl (by rw [shF, hh, b1, b2]; rfl))
          | true =>
            simp [-po_comp]
            refine h5' _ ?_
            refine po_step fun K6 h6' r6 _ _ => ?_
            simp [-po_comp]
            refine are_ok (xs := wh) (c := many) (rowB rules.length) rfl rfl (by omega) (fun x hx => ?_) ?_
            · rw [hid]
              exact row rules.length (by omega) x _ _ (by simp [-po_comp]) rfl
            · rw [cast_eq]
              cases b3 : (decide (wh.length = many) && wh.all fun x => rowB rules.length (T x)) with
              | false =>
                simp [-po_comp]
                exact r6 _ _ (hK _ _ _ rfl (by rw [shF, hh, b1, b2, b3]; rfl))
              | true =>
                simp [-po_comp]
                refine h6' _ ?_
                simp [-po_comp]
                refine are_ok (xs := tu) (c := form.length) (rowB rules.length) rfl (by simp [-po_comp]) (by omega) (fun x hx => ?_) ?_
                · rw [hid]
                  exact row rules.length (by omega) x _ _ (by simp [-po_comp]) rfl
                · rw [cast_eq]
                  exact hK _ _ _ rfl (by rw [shF, hh, b1, b2, b3]; rfl)
end K22
namespace K22
open PySem Pu L2
def oN : Option Nat → D
  | none => .none
  | some k => .int (k : Nat)
theorem find_at {n i : Nat} {t : Nat → Bool} (hi : i < n) (h1 : t i = true) (h2 : ∀ j, j < i → t j = false) : (List.range n).find? t = some i := by
  rw [List.find?_range_eq_some]
  exact ⟨h1, List.mem_range.mpr hi, fun j hj => by simp [-po_comp, h2 j hj]⟩
theorem find_no {n : Nat} {t : Nat → Bool} (h : ∀ j, j < n → t j = false) : (List.range n).find? t = none := by
  rw [List.find?_eq_none]
  intro j hj
  simp [-po_comp, h j (List.mem_range.mp hj)]
def nf (form : List Int) : Option Nat := (List.range form.length).find? fun i => decide (gtr form i < 2) || (decide (i + 1 < form.length) && !decide (gtr form (i + 1) % gtr form i = 0))
theorem zip_at' {α : Type} {xs : List α} {done rest : List (α × Nat)} {x : α} {k : Nat} (e : xs.zipIdx 0 = done ++ (x, k) :: rest) : k = done.length ∧ xs[k]? = some x ∧ k < xs.length := by
  have h1 := congrArg (fun l : List (α × Nat) => l[done.length]?) e
  have hl := congrArg List.length e
  simp [-po_comp] at h1 hl
  obtain ⟨a, ha, rfl, rfl⟩ := h1
  exact ⟨rfl, ha, by omega⟩
theorem no_form_ok {X : Exn → En → Prop} {form : List Int} (hl : form.length ≤ 14) : Wp X (m_no_form [.v (T form)]) fun rv _ => rv = .v (oN (nf form)) := by
  refine po_fnK fun Y K hY hK _ => ?_
  unfold b_no_form
  refine po_step fun K1 h1 r1 _ _ => ?_
  have ee : enOf [T form] = some ((form.zipIdx 0).map fun p => .tuple [.int (p.2 : Nat), .int p.1]) := enOf_t (fun k : Int => PyData.int k) form
  simp [-po_comp, ee]
  refine po_forK (fun done r => ∃ s1 s2, r = [.v (T form), s1, s2] ∧ s1.isIo = false ∧ s2.isIo = false ∧ ∀ j, j < done.length → (decide (gtr form j < 2) || (decide (j + 1 < form.length) && !decide (gtr form (j + 1) % gtr form j = 0))) = false) (form.zipIdx 0) _ ⟨_, _, rfl, rfl, rfl, fun j hj => absurd hj (Nat.not_lt_zero _)⟩ ?_ ?_
  · rintro done ⟨x, k⟩ rest r e ⟨s1, s2, rfl, q1, q2, hd⟩
    obtain ⟨hk, hx, hlt⟩ := zip_at' e
    have gx : gtr form k = x := by
      have := getD_at hlt
      rw [hx] at this
      exact (Option.some.inj this).symm
    subst hk
    refine ⟨[.v (T form), .v (.int (done.length : Nat)), .v (.int x)], by simp [-po_comp, q1, q2], fun K2 h2 rt2 _ _ => ?_⟩
    have stop : (decide (gtr form done.length < 2) || (decide (done.length + 1 < form.length) && !decide (gtr form (done.length + 1) % gtr form done.length = 0))) = true → K2 (.rt (.v (.int (done.length : Nat)))) [.v (T form), .v (.int (done.length : Nat)), .v (.int x)] := fun h => by
      refine rt2 _ _ (r1 _ _ (hK _ _ _ rfl ?_))
      rw [nf, find_at hlt h hd]
      rfl
    have go : (decide (gtr form done.length < 2) || (decide (done.length + 1 < form.length) && !decide (gtr form (done.length + 1) % gtr form done.length = 0))) = false → K2 .nx [.v (T form), .v (.int (done.length : Nat)), .v (.int x)] := fun h => by
      refine h2 _ ⟨_, _, rfl, rfl, rfl, fun j hj => ?_⟩
      simp [-po_comp] at hj
      by_cases hj2 : j = done.length
      · rw [hj2]
        exact h
      · exact hd j (by omega)
    by_cases c1 : x < 2
    · simp [-po_comp, c1]
      exact stop (by rw [gx]; simp [-po_comp, c1])
    · by_cases c2 : done.length + 1 < form.length
      · have e1 := getD_at c2
        have c2' : ((done.length : Int) + 1) < (form.length : Int) := by omega
        have x0 : ¬ x = 0 := by omega
        have e3 : ((done.length : Int) + 1) = ((done.length + 1 : Nat) : Int) := by omega
        simp [-po_comp, c1, c2', x0]
        rw [e3]
        refine ⟨gtr form (done.length + 1), by rw [Pu.atI_nat]; exact e1, ?_⟩
        rw [Int.fmod_eq_emod_of_nonneg _ (by omega)]
        by_cases c3 : gtr form (done.length + 1) % x = 0
        · simp [-po_comp, c3]
          exact go (by rw [gx]; simp [-po_comp, c1, c2, c3])
        · simp [-po_comp, c3]
          exact stop (by rw [gx]; simp [-po_comp, c1, c2, c3])
      · have c2' : ¬ ((done.length : Int) + 1) < (form.length : Int) := by omega
        simp [-po_comp, c1, c2']
        exact go (by rw [gx]; simp [-po_comp, c1, c2])
  · rintro r ⟨s1, s2, rfl, q1, q2, hd⟩
    refine h1 _ ?_
    simp [-po_comp]
    refine hK _ _ _ rfl ?_
    rw [nf, find_no fun j hj => hd j (by simpa using hj)]
    rfl
/-! ### led there -/
def led (form : List Int) (th : List (List Int)) (word : List Int) : List Int := (List.zip (mix form.length word th) form).map fun p => p.1 % p.2
theorem led_ok {X : Exn → En → Prop} {form : List Int} {th bk wh tu : List (List Int)} {word : List Int} {b : Nat} (hf : form.length ≤ 6) (hp : ∀ h ∈ form, 1 ≤ h) (hl : th.length ≤ 14) (R : Rw form.length b th) (hb : b < 2 ^ 62) : Wp X (m_led_there [.v (pD form th bk wh tu), .v (T word)]) fun rv _ => rv = .v (T (led form th word)) := by
  refine po_fnK fun Y K hY hK _ => ?_
  unfold b_led_there
  refine po_step fun K1 h1 _ _ _ => ?_
  have ec : cutL [T form, TT th, TT bk, TT wh, TT tu] none (some 2) = [T form, TT th] := rfl
  simp [-po_comp, ec]
  refine h1 _ ?_
  refine po_step fun K2 h2 _ _ _ => ?_
  simp [-po_comp]
  refine po_mono (mixed_ok (by omega) hl R hb) ?_
  rintro _ _ rfl
  simp [-po_comp]
  refine h2 _ ?_
  simp
  refine po_compM (f := fun p : Int × Int => PyData.tuple [.int p.1, .int p.2]) (g := fun p : Int × Int => PyData.int (p.1 % p.2)) (fun q => ∃ s t, q = [.v (pD form th bk wh tu), .v (T word), .v (T form), .v (TT th), .v (T (mix form.length word th)), s, t]) (List.zip (mix form.length word th) form) [] _ ⟨_, _, rfl⟩ (by simp [-po_comp]; omega) ?_ ?_
  · rintro ⟨a, h⟩ hm q ⟨s, t, rfl⟩
    have h1 := hp h (List.of_mem_zip hm).2
    refine ⟨[.v (pD form th bk wh tu), .v (T word), .v (T form), .v (TT th), .v (T (mix form.length word th)), .v (.int a), .v (.int h)], by simp, ?_⟩
    have h0 : ¬ h = 0 := by omega
    simp [-po_comp, h0]
    exact Int.fmod_eq_emod_of_nonneg _ (by omega)
  · rintro q ⟨s, t, rfl⟩
    simp [-po_comp]
    refine hK _ _ _ rfl ?_
    simp [-po_comp, led]
end K22
namespace K22
open PySem Pu L2
structure Shp (b many : Nat) (rules : List (List Int)) (form : List Int) (th bk wh tu : List (List Int)) : Prop where
  m14 : many ≤ 14
  r14 : rules.length ≤ 14
  f6 : form.length ≤ 6
  fp : ∀ h ∈ form, 1 ≤ h
  hb : b < 2 ^ 62
  ru : Rw many b rules
  thl : th.length = many
  th : Rw form.length b th
  bkl : bk.length = form.length
  bk : Rw many b bk
  whl : wh.length = many
  wh : Rw rules.length b wh
  tul : tu.length = form.length
  tu : Rw rules.length b tu
def row (rs : List (List Int)) (k : Nat) : List Int := rs.getD k []
theorem row_at {rs : List (List Int)} {k : Nat} (h : k < rs.length) : rs[k]? = some (row rs k) := by
  rw [row, List.getD, List.getElem?_eq_getElem h]
  rfl
theorem row_get {rs : List (List Int)} {k : Nat} {x : List Int} (h : rs[k]? = some x) : row rs k = x := by
  rw [row, List.getD, h]
  rfl
theorem rep0 (n : Nat) : List.replicate n (PyData.int 0) = (List.replicate n (0 : Int)).map .int := by simp [-po_comp]
theorem enT (rs : List (List Int)) : enOf [TT rs] = some ((rs.zipIdx 0).map fun p => .tuple [.int (p.2 : Nat), T p.1]) := enOf_t (fun k : List Int => T k) rs
section
variable {X : Exn → En → Prop} {b many : Nat} {rules : List (List Int)} {form : List Int} {th bk wh tu : List (List Int)}
def tR (form : List Int) (th rules : List (List Int)) (k : Nat) : Bool := !decide (led form th (row rules k) = List.replicate form.length 0)
theorem no_rule_ok (S : Shp b many rules form th bk wh tu) : Wp X (m_no_rule [.v (gD many rules), .v (pD form th bk wh tu)]) fun rv _ => rv = .v (oN ((List.range rules.length).find? (tR form th rules))) := by
  refine po_fnK fun Y K hY hK _ => ?_
  unfold b_no_rule
  refine po_step fun K1 h1 r1 _ _ => ?_
  have r14 := S.r14
  have f6 := S.f6
  have m14 := S.m14
  have thl := S.thl
  simp [-po_comp]
  refine ⟨TT rules, rfl, ?_⟩
  simp [-po_comp, enT]
  refine po_forK (fun done r => ∃ s2 s3, r = [.v (gD many rules), .v (pD form th bk wh tu), s2, s3] ∧ s2.isIo = false ∧ s3.isIo = false ∧ ∀ j, j < done.length → tR form th rules j = false) (rules.zipIdx 0) _ ⟨_, _, rfl, rfl, rfl, fun j hj => absurd hj (Nat.not_lt_zero _)⟩ ?_ ?_
  · rintro done ⟨x, k⟩ rest r e ⟨s2, s3, rfl, q2, q3, hd⟩
    obtain ⟨hk, hx, hlt⟩ := zip_at' e
    have gx := row_get hx
    subst hk
    refine ⟨[.v (gD many rules), .v (pD form th bk wh tu), .v (.int (done.length : Nat)), .v (T x)], by simp [-po_comp, q2, q3], fun K2 h2 rt2 _ _ => ?_⟩
    simp [-po_comp]
    refine po_mono (led_ok f6 S.fp (by omega) S.th S.hb) ?_
    rintro _ _ rfl
    simp [-po_comp]
    refine ⟨T form, rfl, ?_⟩
    simp [-po_comp]
    refine ⟨by omega, ?_⟩
    rw [rep0]
    rw [neD_T]
    simp [-po_comp]
    by_cases c : led form th x = List.replicate form.length 0
    · have c' : tR form th rules done.length = false := by simp [-po_comp, tR, gx, c]
      simp [-po_comp, c]
      refine h2 _ ⟨_, _, rfl, rfl, rfl, fun j hj => ?_⟩
      simp [-po_comp] at hj
      by_cases hj2 : j = done.length
      · rw [hj2]
        exact c'
      · exact hd j (by omega)
    · have c' : tR form th rules done.length = true := by simp [-po_comp, tR, gx, c]
      simp [-po_comp, c]
      refine rt2 _ _ (r1 _ _ (hK _ _ _ rfl ?_))
      rw [find_at hlt c' hd]
      rfl
  · rintro r ⟨s2, s3, rfl, q2, q3, hd⟩
    refine h1 _ ?_
    simp [-po_comp]
    refine hK _ _ _ rfl ?_
    rw [find_no fun j hj => hd j (by simpa using hj)]
    rfl
def tB (form : List Int) (th bk : List (List Int)) (i : Nat) : Bool := !decide (led form th (row bk i) = un form.length i)
theorem no_round_ok (S : Shp b many rules form th bk wh tu) : Wp X (m_no_round [.v (pD form th bk wh tu)]) fun rv _ => rv = .v (oN ((List.range bk.length).find? (tB form th bk))) := by
  refine po_fnK fun Y K hY hK _ => ?_
  unfold b_no_round
  refine po_step fun K1 h1 r1 _ _ => ?_
  have f6 := S.f6
  have m14 := S.m14
  have thl := S.thl
  have bkl := S.bkl
  simp [-po_comp]
  refine ⟨TT bk, rfl, ?_⟩
  simp [-po_comp, enT]
  refine po_forK (fun done r => ∃ s2 s3, r = [.v (pD form th bk wh tu), s2, s3] ∧ s2.isIo = false ∧ s3.isIo = false ∧ ∀ j, j < done.length → tB form th bk j = false) (bk.zipIdx 0) _ ⟨_, _, rfl, rfl, rfl, fun j hj => absurd hj (Nat.not_lt_zero _)⟩ ?_ ?_
  · rintro done ⟨x, k⟩ rest r e ⟨s2, s3, rfl, q2, q3, hd⟩
    obtain ⟨hk, hx, hlt⟩ := zip_at' e
    have gx := row_get hx
    subst hk
    refine ⟨[.v (pD form th bk wh tu), .v (.int (done.length : Nat)), .v (T x)], by simp [-po_comp, q2, q3], fun K2 h2 rt2 _ _ => ?_⟩
    simp [-po_comp]
    refine po_mono (led_ok f6 S.fp (by omega) S.th S.hb) ?_
    rintro _ _ rfl
    simp [-po_comp]
    refine ⟨T form, rfl, ?_⟩
    simp [-po_comp]
    refine po_mono (unit_row_ok (by omega)) ?_
    rintro _ _ rfl
    simp [-po_comp]
    by_cases c : led form th x = un form.length done.length
    · have c' : tB form th bk done.length = false := by simp [-po_comp, tB, gx, c]
      simp [-po_comp, c]
      refine h2 _ ⟨_, _, rfl, rfl, rfl, fun j hj => ?_⟩
      simp [-po_comp] at hj
      by_cases hj2 : j = done.length
      · rw [hj2]
        exact c'
      · exact hd j (by omega)
    · have c' : tB form th bk done.length = true := by simp [-po_comp, tB, gx, c]
      simp [-po_comp, c]
      refine rt2 _ _ (r1 _ _ (hK _ _ _ rfl ?_))
      rw [find_at hlt c' hd]
      rfl
  · rintro r ⟨s2, s3, rfl, q2, q3, hd⟩
    refine h1 _ ?_
    simp [-po_comp]
    refine hK _ _ _ rfl ?_
    rw [find_no fun j hj => hd j (by simpa using hj)]
    rfl
theorem back_ok {word : List Int} (S : Shp b many rules form th bk wh tu) : Wp X (m_back_word [.v (.int many), .v (pD form th bk wh tu), .v (T word)]) fun rv _ => rv = .v (T (mix many word bk)) := by
  refine po_fnK fun Y K hY hK _ => ?_
  unfold b_back_word
  have f6 := S.f6
  have bkl := S.bkl
  simp [-po_comp]
  refine ⟨TT bk, rfl, ?_⟩
  refine po_mono (mixed_ok S.m14 (by omega) S.bk S.hb) ?_
  rintro _ _ rfl
  exact hK _ _ _ rfl rfl
theorem ixT {rs : List (List Int)} {k : Nat} {x : List Int} (h : rs[k]? = some x) : ixD (TT rs) (.int (k : Nat)) = some (T x) := by
  show atI (rs.map fun r => T r) (k : Int) = some (T x)
  rw [Pu.atI_nat, List.getElem?_map, h]
  rfl
def tM' (many : Nat) (rules th bk wh : List (List Int)) (j : Nat) : Bool := !decide (((List.zip (un many j) (mix many (row th j) bk)).map fun p => p.1 - p.2) = mix many (row wh j) rules)
theorem no_maker_ok (S : Shp b many rules form th bk wh tu) : Wp X (m_no_maker [.v (gD many rules), .v (pD form th bk wh tu)]) fun rv _ => rv = .v (oN ((List.range many).find? (tM' many rules th bk wh))) := by
  refine po_fnK fun Y K hY hK _ => ?_
  unfold b_no_maker
  have r14 := S.r14
  have f6 := S.f6
  have m14 := S.m14
  have thl := S.thl
  have whl := S.whl
  have bkl := S.bkl
  refine po_step fun K1 h1 r1 _ _ => ?_
  simp [-po_comp]
  refine h1 _ ?_
  refine po_step fun K2 h2 r2 _ _ => ?_
  simp [-po_comp]
  refine ⟨by omega, ?_⟩
  refine po_rngK (fun i r => ∃ s4 s5 s6, r = [.v (gD many rules), .v (pD form th bk wh tu), .v (.int many), .v (TT rules), s4, s5, s6, .unk, .unk] ∧ s4.isIo = false ∧ s5.isIo = false ∧ s6.isIo = false ∧ ∀ j, j < i → tM' many rules th bk wh j = false) many _ ⟨_, _, _, rfl, rfl, rfl, rfl, fun j hj => absurd hj (Nat.not_lt_zero _)⟩ ?_ ?_
  · rintro i r hi ⟨s4, s5, s6, rfl, q4, q5, q6, hd⟩
    refine ⟨[.v (gD many rules), .v (pD form th bk wh tu), .v (.int many), .v (TT rules), .v (.int (0 + (i : Nat))), s5, s6, .unk, .unk], by simp [-po_comp, q4], fun K3 h3 rt3 _ _ => ?_⟩
    refine po_step fun K4 h4 r4 _ _ => ?_
    have e1 := row_at (rs := th) (k := i) (by omega)
    have e2 := row_at (rs := wh) (k := i) (by omega)
    simp [-po_comp]
    refine ⟨TT th, rfl, ?_⟩
    rw [ixT e1]
    simp [-po_comp]
    refine po_mono (back_ok S) ?_
    rintro _ _ rfl
    simp [-po_comp, q5]
    refine h4 _ ?_
    refine po_step fun K5 h5 r5 _ _ => ?_
    simp
    refine po_mono (unit_row_ok S.m14) ?_
    rintro _ _ rfl
    simp [-po_comp]
    refine po_compM (f := fun p : Int × Int => PyData.tuple [.int p.1, .int p.2]) (g := fun p : Int × Int => PyData.int (p.1 - p.2)) (fun q => ∃ s t, q = [.v (gD many rules), .v (pD form th bk wh tu), .v (.int many), .v (TT rules), .v (.int i), .v (T (mix many (row th i) bk)), s6, s, t]) (List.zip (un many i) (mix many (row th i) bk)) [] _ ⟨_, _, rfl⟩ (by simp [-po_comp, un]; omega) ?_ ?_
    · rintro ⟨a, h⟩ hm q ⟨s, t, rfl⟩
      exact ⟨[.v (gD many rules), .v (pD form th bk wh tu), .v (.int many), .v (TT rules), .v (.int i), .v (T (mix many (row th i) bk)), s6, .v (.int a), .v (.int h)], by simp, by simp⟩
    · rintro q ⟨s, t, rfl⟩
      simp [-po_comp, q6]
      refine h5 _ ?_
      simp [-po_comp]
      refine ⟨TT wh, rfl, ?_⟩
      rw [ixT e2]
      simp [-po_comp]
      refine po_mono (mixed_ok S.m14 S.r14 S.ru S.hb) ?_
      rintro _ _ rfl
      have eL : ((List.zip (un many i) (mix many (row th i) bk)).map fun p : Int × Int => PyData.int (p.1 - p.2)) = ((List.zip (un many i) (mix many (row th i) bk)).map fun p => p.1 - p.2).map .int := by
        rw [List.map_map]
        rfl
      simp [-po_comp]
      rw [eL, neD_T]
      simp [-po_comp]
      by_cases c : ((List.zip (un many i) (mix many (row th i) bk)).map fun p => p.1 - p.2) = mix many (row wh i) rules
      · have c' : tM' many rules th bk wh i = false := by simp [-po_comp, tM', c]
        simp [-po_comp, c]
        refine h3 _ ⟨_, _, _, rfl, rfl, rfl, rfl, fun j hj => ?_⟩
        by_cases hj2 : j = i
        · rw [hj2]
          exact c'
        · exact hd j (by omega)
      · have c' : tM' many rules th bk wh i = true := by simp [-po_comp, tM', c]
        simp [-po_comp, c]
        refine rt3 _ _ (r2 _ _ (hK _ _ _ rfl ?_))
        rw [find_at hi c' hd]
        rfl
  · rintro r ⟨s4, s5, s6, rfl, q4, q5, q6, hd⟩
    refine h2 _ ?_
    simp [-po_comp]
    refine hK _ _ _ rfl ?_
    rw [find_no fun j hj => hd j hj]
    rfl
def tT (many : Nat) (rules : List (List Int)) (form : List Int) (bk tu : List (List Int)) (i : Nat) : Bool := !decide ((row bk i).map (fun x => gtr form i * x) = mix many (row tu i) rules)
theorem no_turn_ok (S : Shp b many rules form th bk wh tu) : Wp X (m_no_turn [.v (gD many rules), .v (pD form th bk wh tu)]) fun rv _ => rv = .v (oN ((List.range form.length).find? (tT many rules form bk tu))) := by
  refine po_fnK fun Y K hY hK _ => ?_
  unfold b_no_turn
  have r14 := S.r14
  have f6 := S.f6
  have m14 := S.m14
  have tul := S.tul
  have bkl := S.bkl
  have hb := S.hb
  refine po_step fun K1 h1 r1 _ _ => ?_
  simp [-po_comp]
  refine h1 _ ?_
  refine po_step fun K2 h2 r2 _ _ => ?_
  simp [-po_comp]
  refine ⟨T form, rfl, ?_⟩
  have ee : enOf [T form] = some ((form.zipIdx 0).map fun p => .tuple [.int (p.2 : Nat), .int p.1]) := enOf_t (fun k : Int => PyData.int k) form
  simp [-po_comp, ee]
  refine po_forK (fun done r => ∃ s4 s5 s6, r = [.v (gD many rules), .v (pD form th bk wh tu), .v (.int many), .v (TT rules), s4, s5, s6, .unk] ∧ s4.isIo = false ∧ s5.isIo = false ∧ s6.isIo = false ∧ ∀ j, j < done.length → tT many rules form bk tu j = false) (form.zipIdx 0) _ ⟨_, _, _, rfl, rfl, rfl, rfl, fun j hj => absurd hj (Nat.not_lt_zero _)⟩ ?_ ?_
  · rintro done ⟨x, k⟩ rest r e ⟨s4, s5, s6, rfl, q4, q5, q6, hd⟩
    obtain ⟨hk, hx, hlt⟩ := zip_at' e
    have gx : gtr form k = x := by
      have := getD_at hlt
      rw [hx] at this
      exact (Option.some.inj this).symm
    subst hk
    refine ⟨[.v (gD many rules), .v (pD form th bk wh tu), .v (.int many), .v (TT rules), .v (.int (done.length : Nat)), .v (.int x), s6, .unk], by simp [-po_comp, q4, q5], fun K3 h3 rt3 _ _ => ?_⟩
    refine po_step fun K4 h4 r4 _ _ => ?_
    have e1 := row_at (rs := bk) (k := done.length) (by omega)
    have e2 := row_at (rs := tu) (k := done.length) (by omega)
    have R := S.bk _ (List.mem_of_getElem? e1)
    simp
    refine ⟨TT bk, rfl, ?_⟩
    rw [ixT e1]
    simp [-po_comp]
    refine po_compM (f := fun y : Int => PyData.int y) (g := fun y : Int => PyData.int (x * y)) (fun q => ∃ s, q = [.v (gD many rules), .v (pD form th bk wh tu), .v (.int many), .v (TT rules), .v (.int (done.length : Nat)), .v (.int x), s6, s]) (row bk done.length) [] _ ⟨_, rfl⟩ (by rw [R.1]; simp [-po_comp]; omega) ?_ ?_
    · rintro y hm q ⟨s, rfl⟩
      have hy := R.2 y hm
      refine ⟨[.v (gD many rules), .v (pD form th bk wh tu), .v (.int many), .v (TT rules), .v (.int (done.length : Nat)), .v (.int x), s6, .v (.int y)], by simp, ?_⟩
      simp [-po_comp]
      exact mulOk_r ⟨by omega, by omega⟩
    · rintro q ⟨s, rfl⟩
      simp [-po_comp, q6]
      refine h4 _ ?_
      simp [-po_comp]
      refine ⟨TT tu, rfl, ?_⟩
      rw [ixT e2]
      simp [-po_comp]
      refine po_mono (mixed_ok S.m14 S.r14 S.ru S.hb) ?_
      rintro _ _ rfl
      have eL : ((row bk done.length).map fun y : Int => PyData.int (x * y)) = ((row bk done.length).map fun y => x * y).map .int := by
        rw [List.map_map]
        rfl
      simp [-po_comp]
      rw [eL, neD_T]
      simp [-po_comp]
      by_cases c : ((row bk done.length).map fun y => x * y) = mix many (row tu done.length) rules
      · have c' : tT many rules form bk tu done.length = false := by simp [-po_comp, tT, gx, c]
        simp [-po_comp, c]
        refine h3 _ ⟨_, _, _, rfl, rfl, rfl, rfl, fun j hj => ?_⟩
        simp [-po_comp] at hj
        by_cases hj2 : j = done.length
        · rw [hj2]
          exact c'
        · exact hd j (by omega)
      · have c' : tT many rules form bk tu done.length = true := by simp [-po_comp, tT, gx, c]
        simp [-po_comp, c]
        refine rt3 _ _ (r2 _ _ (hK _ _ _ rfl ?_))
        rw [find_at hlt c' hd]
        rfl
  · rintro r ⟨s4, s5, s6, rfl, q4, q5, q6, hd⟩
    refine h2 _ ?_
    simp [-po_comp]
    refine hK _ _ _ rfl ?_
    rw [find_no fun j hj => hd j (by simpa using hj)]
    rfl
end
end K22
namespace K22
open PySem Pu L2
structure Bd (b many : Nat) (rules : List (List Int)) (form : List Int) (th bk wh tu : List (List Int)) : Prop where
  m14 : many ≤ 14
  r14 : rules.length ≤ 14
  f14 : form.length ≤ 14
  hb : b < 2 ^ 62
  ru : Rw many b rules
  ln : th.length ≤ 1000 ∧ bk.length ≤ 1000 ∧ wh.length ≤ 1000 ∧ tu.length ≤ 1000
  th : ∀ r ∈ th, ∀ x ∈ r, x.natAbs ≤ b
  bk : ∀ r ∈ bk, ∀ x ∈ r, x.natAbs ≤ b
  wh : ∀ r ∈ wh, ∀ x ∈ r, x.natAbs ≤ b
  tu : ∀ r ∈ tu, ∀ x ∈ r, x.natAbs ≤ b
section
variable {X : Exn → En → Prop} {b many : Nat} {rules : List (List Int)} {form : List Int} {th bk wh tu : List (List Int)}
theorem thg_len {hs x : List Int} (h : thg hs (T x) = true) : x.length = hs.length := by
  have h : (decide ((x.map PyData.int).length = hs.length) && _) = true := h
  rw [Bool.and_eq_true] at h
  have := of_decide_eq_true h.1
  simpa using this
theorem row_len {m : Nat} {x : List Int} (h : rowB m (T x) = true) : x.length = m := by
  have h : (decide (((x.map PyData.int).length : Int) = m) && _) = true := h
  rw [Bool.and_eq_true] at h
  have := of_decide_eq_true h.1
  simp [-po_comp] at this
  omega
theorem Bd.shp (B : Bd b many rules form th bk wh tu) (h : shF many rules form th bk wh tu = true) : Shp b many rules form th bk wh tu := by
  unfold shF at h
  simp only [Bool.and_eq_true, decide_eq_true_eq, List.all_eq_true] at h
  obtain ⟨h0, ⟨h1, h2⟩, ⟨h3, h4⟩, ⟨h5, h6⟩, ⟨h7, h8⟩⟩ := h
  have h0 : (decide ((form.map PyData.int).length ≤ 6) && (form.map PyData.int).all on1) = true := h0
  rw [Bool.and_eq_true] at h0
  have l6 := of_decide_eq_true h0.1
  refine ⟨B.m14, B.r14, by simpa using l6, fun h hh => ?_, B.hb, B.ru, h1, fun r hr => ⟨thg_len (h2 r hr), B.th r hr⟩, h3, fun r hr => ⟨row_len (h4 r hr), B.bk r hr⟩, h5, fun r hr => ⟨row_len (h6 r hr), B.wh r hr⟩, h7, fun r hr => ⟨row_len (h8 r hr), B.tu r hr⟩⟩
  have := List.all_eq_true.mp h0.2 (.int h) (List.mem_map.mpr ⟨h, hh, rfl⟩)
  exact of_decide_eq_true this
theorem isnt_i (i : Int) : isntD (.int i) .none = some (.bool true) := rfl
theorem isnt_n : isntD .none .none = some (.bool false) := rfl
def wS : Nat → Str
  | 0 => "shape"
  | 1 => "form"
  | 2 => "rule"
  | 3 => "round"
  | 4 => "maker"
  | _ => "turn"
abbrev NP (w n : Nat) : Exn := ⟨"NoPaper", [("number", .int (n : Nat)), ("word", .str (wS w))]⟩
def oth (o : Option Nat) (w : Nat) (z : Option (Nat × Nat)) : Option (Nat × Nat) := match o with
  | some i => some (w, i)
  | none => z
def resF (many : Nat) (rules : List (List Int)) (form : List Int) (th bk wh tu : List (List Int)) : Option (Nat × Nat) :=
  if shF many rules form th bk wh tu = true then oth (nf form) 1 (oth ((List.range rules.length).find? (tR form th rules)) 2 (oth ((List.range bk.length).find? (tB form th bk)) 3 (oth ((List.range many).find? (tM' many rules th bk wh)) 4 (oth ((List.range form.length).find? (tT many rules form bk tu)) 5 none)))) else some (0, 0)
theorem lets_ok (B : Bd b many rules form th bk wh tu) (hX : ∀ w n z, resF many rules form th bk wh tu = some (w, n) → X (NP w n) z) : Wp X (m_lets_paper [.v (gD many rules), .v (pD form th bk wh tu)]) fun rv _ => rv = .v (.bool true) ∧ resF many rules form th bk wh tu = none := by
  have m14 := B.m14
  have r14 := B.r14
  have f14 := B.f14
  have ln := B.ln
  refine po_fnK fun Y K hY hK _ => ?_
  unfold b_lets_paper
  refine po_step fun K1 h1 r1 _ _ => ?_
  simp [-po_comp]
  refine po_mono (shaped_ok (by omega) (by omega) ln.1 ln.2.1 ln.2.2.1 ln.2.2.2 (by omega)) ?_
  rintro _ _ rfl
  cases c0 : shF many rules form th bk wh tu with
  | false =>
    simp [-po_comp]
    exact hY _ _ _ rfl (hX 0 0 _ (by rw [resF, if_neg (by rw [c0]; decide)]))
  | true =>
    have S := B.shp c0
    simp [-po_comp]
    refine h1 _ ?_
    refine po_step fun K2 h2 _ _ _ => ?_
    simp [-po_comp]
    refine ⟨T form, rfl, ?_⟩
    refine po_mono (no_form_ok f14) ?_
    rintro _ _ rfl
    simp [-po_comp]
    refine h2 _ ?_
    refine po_step fun K3 h3 _ _ _ => ?_
    cases c1 : nf form with
    | some i =>
      simp [-po_comp, oN, isnt_i]
      exact hY _ _ _ rfl (hX 1 i _ (by rw [resF, if_pos c0, c1]; rfl))
    | none =>
      simp [-po_comp, oN, isnt_n]
      refine h3 _ ?_
      refine po_step fun K4 h4 _ _ _ => ?_
      simp [-po_comp]
      refine po_mono (no_rule_ok S) ?_
      rintro _ _ rfl
      simp [-po_comp]
      refine h4 _ ?_
      refine po_step fun K5 h5 _ _ _ => ?_
      cases c2 : (List.range rules.length).find? (tR form th rules) with
      | some i =>
        simp [-po_comp, oN, isnt_i]
        exact hY _ _ _ rfl (hX 2 i _ (by rw [resF, if_pos c0, c1, c2]; rfl))
      | none =>
        simp [-po_comp, oN, isnt_n]
        refine h5 _ ?_
        refine po_step fun K6 h6 _ _ _ => ?_
        simp [-po_comp]
        refine po_mono (no_round_ok S) ?_
        rintro _ _ rfl
        simp [-po_comp]
        refine h6 _ ?_
        refine po_step fun K7 h7 _ _ _ => ?_
        cases c3 : (List.range bk.length).find? (tB form th bk) with
        | some i =>
          simp [-po_comp, oN, isnt_i]
          exact hY _ _ _ rfl (hX 3 i _ (by rw [resF, if_pos c0, c1, c2, c3]; rfl))
        | none =>
          simp [-po_comp, oN, isnt_n]
          refine h7 _ ?_
          refine po_step fun K8 h8 _ _ _ => ?_
          simp [-po_comp]
          refine po_mono (no_maker_ok S) ?_
          rintro _ _ rfl
          simp [-po_comp]
          refine h8 _ ?_
          refine po_step fun K9 h9 _ _ _ => ?_
          cases c4 : (List.range many).find? (tM' many rules th bk wh) with
          | some i =>
            simp [-po_comp, oN, isnt_i]
            exact hY _ _ _ rfl (hX 4 i _ (by rw [resF, if_pos c0, c1, c2, c3, c4]; rfl))
          | none =>
            simp [-po_comp, oN, isnt_n]
            refine h9 _ ?_
            refine po_step fun K10 h10 _ _ _ => ?_
            simp [-po_comp]
            refine po_mono (no_turn_ok S) ?_
            rintro _ _ rfl
            simp [-po_comp]
            refine h10 _ ?_
            refine po_step fun K11 h11 _ _ _ => ?_
            cases c5 : (List.range form.length).find? (tT many rules form bk tu) with
            | some i =>
              simp [-po_comp, oN, isnt_i]
              exact hY _ _ _ rfl (hX 5 i _ (by rw [resF, if_pos c0, c1, c2, c3, c4, c5]; rfl))
            | none =>
              simp [-po_comp, oN, isnt_n]
              refine h11 _ ?_
              simp [-po_comp]
              exact hK _ _ _ rfl ⟨rfl, by rw [resF, if_pos c0, c1, c2, c3, c4, c5]; rfl⟩
end
end K22
namespace K22
open PySem Pu L2
theorem b_self : Pu.isB "NoPaper" "NoPaper" = true := by decide +kernel
theorem b_0 : Pu.isB "NoPaper" "Endless" = false := by decide +kernel
theorem b_1 : Pu.isB "NoPaper" "NoFit" = false := by decide +kernel
theorem b_2 : Pu.isB "NoPaper" "NoName" = false := by decide +kernel
theorem b_3 : Pu.isB "NoPaper" "NoRow" = false := by decide +kernel
theorem b_4 : Pu.isB "NoPaper" "NoTable" = false := by decide +kernel
theorem b_5 : Pu.isB "NoPaper" "NoText" = false := by decide +kernel
theorem b_6 : Pu.isB "NoPaper" "NoThing" = false := by decide +kernel
theorem b_7 : Pu.isB "NoPaper" "TooGreat" = false := by decide +kernel
def hD : Option (Nat × Nat) → D
  | none => .none
  | some p => .tuple [.str (wS p.1), .int (p.2 : Nat)]
section
variable {X : Exn → En → Prop} {b many : Nat} {rules : List (List Int)} {form : List Int} {th bk wh tu : List (List Int)}
theorem heard_ok (B : Bd b many rules form th bk wh tu) : Wp X (m__law_heard [.v (gD many rules), .v (pD form th bk wh tu)]) fun rv _ => rv = .v (hD (resF many rules form th bk wh tu)) := by
  refine po_fnK fun Y K hY hK _ => ?_
  unfold b__law_heard
  refine po_step fun K1 h1 _ _ _ => ?_
  simp [-po_comp]
  refine h1 _ ?_
  refine po_step fun K2 h2 _ _ _ => ?_
  simp [-po_comp]
  refine h2 _ ?_
  refine po_step fun K3 h3 _ _ _ => ?_
  simp [-po_comp]
  refine po_mono (lets_ok B fun w n z hr => ?_) ?_
  · refine ⟨rfl, h3 _ ?_⟩
    have ex : exOf (NP w n) = .dict [(.str "NoPaper", .none), (.str "number", .int (n : Nat)), (.str "word", .str (wS w))] := rfl
    rw [ex]
    refine po_step fun K4 h4 _ _ _ => ?_
    have ei : isD (.dict [(.str "NoPaper", .none), (.str "number", .int (n : Nat)), (.str "word", .str (wS w))]) .none = some (.bool false) := rfl
    simp [-po_comp, ei]
    refine h4 _ ?_
    refine po_step fun K5 h5 _ _ _ => ?_
    simp [-po_comp, b_0, b_1, b_2, b_3, b_4, b_5, b_6, b_7]
    refine h5 _ ?_
    refine po_step fun K6 h6 _ _ _ => ?_
    simp [-po_comp, b_self]
    refine h6 _ ?_
    have f1 : fldD fxt "word" (.dict [(.str "NoPaper", .none), (.str "number", .int (n : Nat)), (.str "word", .str (wS w))]) = some (.str (wS w)) := rfl
    have f2 : fldD fxt "number" (.dict [(.str "NoPaper", .none), (.str "number", .int (n : Nat)), (.str "word", .str (wS w))]) = some (.int (n : Nat)) := rfl
    refine po_step fun K7 h7 _ _ _ => ?_
    simp [-po_comp, f2]
    refine h7 _ ?_
    simp [-po_comp, f1, f2]
    exact hK _ _ _ rfl (by rw [hr]; rfl)
  · rintro _ _ ⟨rfl, hr⟩
    simp [-po_comp]
    refine h3 _ ?_
    refine po_step fun K4 h4 r4 _ _ => ?_
    have ei : isD .none .none = some (.bool true) := rfl
    have et : isntD (.bool true) (.bool true) = some (.bool false) := rfl
    simp [-po_comp, ei, et]
    exact ⟨.none, rfl, r4 _ _ (hK _ _ _ rfl (by rw [hr]; rfl))⟩
theorem hD_ne (o : Option (Nat × Nat)) : neD (hD o) (hD o) = some (.bool false) := by
  cases o with
  | none => rfl
  | some p =>
    obtain ⟨w, n⟩ := p
    have hw : PyData.strOk (wS w) = true := by
      match w with
      | 0 => decide +kernel
      | 1 => decide +kernel
      | 2 => decide +kernel
      | 3 => decide +kernel
      | 4 => decide +kernel
      | w + 5 =>
        show PyData.strOk "turn" = true
        decide +kernel
    have sh : SeqAt.shaped (.tuple [.str (wS w), .int (n : Nat)]) = true := Bool.and_eq_true_iff.mpr ⟨Bool.and_eq_true_iff.mpr ⟨hw, rfl⟩, by simp [-po_comp, PyData.depth, PyData.depthAll]⟩
    show neD (.tuple [.str (wS w), .int (n : Nat)]) (.tuple [.str (wS w), .int (n : Nat)]) = _
    rw [neD_tt sh sh]
    simp [-po_comp, PyData.eqvAll, PyData.eqv]
end
end K22
namespace K22
open PySem Pu L2
structure It where
  many : Nat
  rules : List (List Int)
  form : List Int
  th : List (List Int)
  bk : List (List Int)
  wh : List (List Int)
  tu : List (List Int)
  w : Option Nat
def wD : Option Nat → D
  | none => .none
  | some w => .str (wS w)
def res (i : It) : Option (Nat × Nat) := resF i.many i.rules i.form i.th i.bk i.wh i.tu
def smB (rs : List (List Int)) : Bool := rs.all fun r => r.all fun x => decide (x.natAbs ≤ 1000000)
def bdB (i : It) : Bool := decide (i.many ≤ 14) && (decide (i.rules.length ≤ 14) && (decide (i.form.length ≤ 14) && ((i.rules.all fun r => decide (r.length = i.many)) && (smB i.rules && (decide (i.th.length ≤ 1000) && (decide (i.bk.length ≤ 1000) && (decide (i.wh.length ≤ 1000) && (decide (i.tu.length ≤ 1000) && (smB i.th && (smB i.bk && (smB i.wh && smB i.tu)))))))))))
theorem smB_ok {rs : List (List Int)} (h : smB rs = true) : ∀ r ∈ rs, ∀ x ∈ r, x.natAbs ≤ 1000000 := fun r hr x hx => of_decide_eq_true (List.all_eq_true.mp (List.all_eq_true.mp h r hr) x hx)
theorem bdB_ok {i : It} (h : bdB i = true) : Bd 1000000 i.many i.rules i.form i.th i.bk i.wh i.tu := by
  unfold bdB at h
  simp only [Bool.and_eq_true, decide_eq_true_eq] at h
  obtain ⟨h1, h2, h3, h4, h5, h6, h7, h8, h9, g1, g2, g3, g4⟩ := h
  exact ⟨h1, h2, h3, by decide, fun r hr => ⟨of_decide_eq_true (List.all_eq_true.mp h4 r hr), smB_ok h5 r hr⟩, ⟨h6, h7, h8, h9⟩, smB_ok g1, smB_ok g2, smB_ok g3, smB_ok g4⟩
def alone (n m : Int) : List It :=
  [⟨1, [[n]], [n], [[1]], [[1]], [[0]], [[1]], none⟩,
   ⟨1, [[n * m]], [n * m], [[1]], [[1 + n * m]], [[0 - 1]], [[1 + n * m]], none⟩,
   ⟨1, [[1]], [], [[]], [], [[1]], [], none⟩,
   ⟨1, [[n]], [n * m], [[1]], [[1]], [[0]], [[m]], some 2⟩,
   ⟨1, [[1]], [n], [[0]], [[0]], [[1]], [[0]], some 3⟩,
   ⟨1, [[n]], [], [[]], [], [[1]], [], some 4⟩,
   ⟨1, [[n]], [n], [[1]], [[1]], [[1]], [[1]], some 4⟩,
   ⟨1, [[n * m]], [n], [[1]], [[1]], [[0]], [[1]], some 5⟩,
   ⟨1, [[n]], [n], [[1]], [[1]], [[0]], [[m]], some 5⟩]
def nothing : It := ⟨0, [], [], [], [], [], [], none⟩
def bes (one other : List (List Int)) (f s : Nat) : List (List Int) := one.map (fun r => r ++ List.replicate s 0) ++ other.map fun r => List.replicate f 0 ++ r
def tog (a b : It) : It := ⟨a.many + b.many, bes a.rules b.rules a.many b.many, a.form ++ b.form, bes a.th b.th a.form.length b.form.length, bes a.bk b.bk a.many b.many, bes a.wh b.wh a.rules.length b.rules.length, bes a.tu b.tu a.rules.length b.rules.length, none⟩
def more (a : It) : Nat → Nat
  | 2 => a.rules.length
  | 3 => a.form.length
  | 4 => a.many
  | _ => a.form.length
def fst (a b : It) : Option (Nat × Nat) := [2, 3, 4, 5].findSome? fun w => if a.w = some w then some (w, 0) else if b.w = some w then some (w, more a w) else none
def dv (a b : It) : Bool := a.form.all fun x => b.form.all fun y => decide (y % x = 0)
def pairB (a b : It) : Bool := bdB (tog a b) && (a.form.all (fun x => decide (1 ≤ x)) && (!dv a b || decide (res (tog a b) = fst a b)))
def chk (n m : Int) : Bool := (alone n m ++ [nothing]).all fun a => (alone n m ++ [nothing]).all fun b => pairB a b
def forms (n : Int) : List It :=
  [⟨1, [[n * n + n]], [n, n + 1], [[1, 1]], [[n + 1], [n * n]], [[0 - 1]], [[1], [n]], none⟩,
   ⟨0, [], [1], [], [[]], [], [[]], none⟩,
   ⟨1, [[n]], [n, 1], [[1, 0]], [[1], [0]], [[0]], [[1], [0]], none⟩,
   ⟨1, [[n]], [1, n], [[0, 1]], [[0], [1]], [[0]], [[0], [1]], none⟩]
def chkF (n : Int) : Bool := (forms n).all fun a => bdB a && decide (res a = some (1, 0))
def six (n : Int) (k : Nat) : It := ⟨0, [], List.replicate k n, [], List.replicate k [], [], List.replicate k [], none⟩
def chk6 (n : Int) : Bool := bdB (six n 6) && (bdB (six n 7) && (decide (res (six n 6) = some (3, 0)) && decide (res (six n 7) = some (0, 0))))
end K22
namespace K22
open PySem Pu L2
theorem ch_at {f : Nat → Bool} {a n k : Nat} (h : (List.range' a n).all f = true) (h1 : a ≤ k) (h2 : k < a + n) : f k = true := List.all_eq_true.mp h k (List.mem_range'_1.mpr ⟨h1, h2⟩)
theorem all_f : ((List.range 8).all fun k => chkF ((k : Int) + 2)) = true := by decide +kernel
theorem all_6 : ((List.range 48).all fun k => chk6 ((k : Int) + 2)) = true := by decide +kernel
theorem all_2_0 : ((List.range' 0 4).all fun k => chk ((k : Int) + 2) 2) = true := by decide +kernel
theorem all_2_4 : ((List.range' 4 4).all fun k => chk ((k : Int) + 2) 2) = true := by decide +kernel
theorem all_2_8 : ((List.range' 8 4).all fun k => chk ((k : Int) + 2) 2) = true := by decide +kernel
theorem all_2_12 : ((List.range' 12 4).all fun k => chk ((k : Int) + 2) 2) = true := by decide +kernel
theorem all_2_16 : ((List.range' 16 4).all fun k => chk ((k : Int) + 2) 2) = true := by decide +kernel
theorem all_2_20 : ((List.range' 20 4).all fun k => chk ((k : Int) + 2) 2) = true := by decide +kernel
theorem all_2_24 : ((List.range' 24 4).all fun k => chk ((k : Int) + 2) 2) = true := by decide +kernel
theorem all_2_28 : ((List.range' 28 4).all fun k => chk ((k : Int) + 2) 2) = true := by decide +kernel
theorem all_2_32 : ((List.range' 32 4).all fun k => chk ((k : Int) + 2) 2) = true := by decide +kernel
theorem all_2_36 : ((List.range' 36 4).all fun k => chk ((k : Int) + 2) 2) = true := by decide +kernel
theorem all_2_40 : ((List.range' 40 4).all fun k => chk ((k : Int) + 2) 2) = true := by decide +kernel
theorem all_2_44 : ((List.range' 44 4).all fun k => chk ((k : Int) + 2) 2) = true := by decide +kernel
theorem all_2 : ((List.range 48).all fun k => chk ((k : Int) + 2) 2) = true := by
  refine List.all_eq_true.mpr fun k hk => ?_
  have hk := List.mem_range.mp hk
  by_cases h0 : k < 4
  · exact ch_at all_2_0 (by omega) (by omega)
  by_cases h4 : k < 8
  · exact ch_at all_2_4 (by omega) (by omega)
  by_cases h8 : k < 12
  · exact ch_at all_2_8 (by omega) (by omega)
  by_cases h12 : k < 16
  · exact ch_at all_2_12 (by omega) (by omega)
  by_cases h16 : k < 20
  · exact ch_at all_2_16 (by omega) (by omega)
  by_cases h20 : k < 24
  · exact ch_at all_2_20 (by omega) (by omega)
  by_cases h24 : k < 28
  · exact ch_at all_2_24 (by omega) (by omega)
  by_cases h28 : k < 32
  · exact ch_at all_2_28 (by omega) (by omega)
  by_cases h32 : k < 36
  · exact ch_at all_2_32 (by omega) (by omega)
  by_cases h36 : k < 40
  · exact ch_at all_2_36 (by omega) (by omega)
  by_cases h40 : k < 44
  · exact ch_at all_2_40 (by omega) (by omega)
  exact ch_at all_2_44 (by omega) (by omega)
theorem all_3_0 : ((List.range' 0 4).all fun k => chk ((k : Int) + 2) 3) = true := by decide +kernel
theorem all_3_4 : ((List.range' 4 4).all fun k => chk ((k : Int) + 2) 3) = true := by decide +kernel
theorem all_3_8 : ((List.range' 8 4).all fun k => chk ((k : Int) + 2) 3) = true := by decide +kernel
theorem all_3_12 : ((List.range' 12 4).all fun k => chk ((k : Int) + 2) 3) = true := by decide +kernel
theorem all_3_16 : ((List.range' 16 4).all fun k => chk ((k : Int) + 2) 3) = true := by decide +kernel
theorem all_3_20 : ((List.range' 20 4).all fun k => chk ((k : Int) + 2) 3) = true := by decide +kernel
theorem all_3_24 : ((List.range' 24 4).all fun k => chk ((k : Int) + 2) 3) = true := by decide +kernel
theorem all_3_28 : ((List.range' 28 4).all fun k => chk ((k : Int) + 2) 3) = true := by decide +kernel
theorem all_3 : ((List.range 32).all fun k => chk ((k : Int) + 2) 3) = true := by
  refine List.all_eq_true.mpr fun k hk => ?_
  have hk := List.mem_range.mp hk
  by_cases h0 : k < 4
  · exact ch_at all_3_0 (by omega) (by omega)
  by_cases h4 : k < 8
  · exact ch_at all_3_4 (by omega) (by omega)
  by_cases h8 : k < 12
  · exact ch_at all_3_8 (by omega) (by omega)
  by_cases h12 : k < 16
  · exact ch_at all_3_12 (by omega) (by omega)
  by_cases h16 : k < 20
  · exact ch_at all_3_16 (by omega) (by omega)
  by_cases h20 : k < 24
  · exact ch_at all_3_20 (by omega) (by omega)
  by_cases h24 : k < 28
  · exact ch_at all_3_24 (by omega) (by omega)
  exact ch_at all_3_28 (by omega) (by omega)
theorem all_4_0 : ((List.range' 0 4).all fun k => chk ((k : Int) + 2) 4) = true := by decide +kernel
theorem all_4_4 : ((List.range' 4 4).all fun k => chk ((k : Int) + 2) 4) = true := by decide +kernel
theorem all_4_8 : ((List.range' 8 4).all fun k => chk ((k : Int) + 2) 4) = true := by decide +kernel
theorem all_4_12 : ((List.range' 12 4).all fun k => chk ((k : Int) + 2) 4) = true := by decide +kernel
theorem all_4_16 : ((List.range' 16 4).all fun k => chk ((k : Int) + 2) 4) = true := by decide +kernel
theorem all_4_20 : ((List.range' 20 3).all fun k => chk ((k : Int) + 2) 4) = true := by decide +kernel
theorem all_4 : ((List.range 23).all fun k => chk ((k : Int) + 2) 4) = true := by
  refine List.all_eq_true.mpr fun k hk => ?_
  have hk := List.mem_range.mp hk
  by_cases h0 : k < 4
  · exact ch_at all_4_0 (by omega) (by omega)
  by_cases h4 : k < 8
  · exact ch_at all_4_4 (by omega) (by omega)
  by_cases h8 : k < 12
  · exact ch_at all_4_8 (by omega) (by omega)
  by_cases h12 : k < 16
  · exact ch_at all_4_12 (by omega) (by omega)
  by_cases h16 : k < 20
  · exact ch_at all_4_16 (by omega) (by omega)
  exact ch_at all_4_20 (by omega) (by omega)
end K22
namespace K22
open PySem Pu L2
section
variable {X : Exn → En → Prop}
theorem beside_ok {one other : List (List Int)} {f s : Nat} (h1 : one.length ≤ 1000) (h2 : other.length ≤ 1000) (hf : f ≤ 1000) (hs : s ≤ 1000) (l1 : ∀ r ∈ one, r.length ≤ 1000) (l2 : ∀ r ∈ other, r.length ≤ 1000) : Wp X (m__law_beside [.v (TT one), .v (TT other), .v (.int f), .v (.int s)]) fun rv _ => rv = .v (TT (bes one other f s)) := by
  refine po_fnK fun Y K hY hK _ => ?_
  unfold b__law_beside
  refine po_step fun K1 h1' _ _ _ => ?_
  simp
  refine po_compM (f := fun r : List Int => T r) (g := fun r : List Int => T (r ++ List.replicate s 0)) (fun q => ∃ t, q = [.v (TT one), .v (TT other), .v (.int f), .v (.int s), .unk, t]) one [] _ ⟨_, rfl⟩ (by simp [-po_comp]; omega) ?_ ?_
  · rintro r hr q ⟨t, rfl⟩
    have := l1 r hr
    refine ⟨[.v (TT one), .v (TT other), .v (.int f), .v (.int s), .unk, .v (T r)], by simp, ?_⟩
    simp [-po_comp]
    omega
  · rintro q ⟨t, rfl⟩
    simp [-po_comp]
    refine h1' _ ?_
    simp
    refine po_compM (f := fun r : List Int => T r) (g := fun r : List Int => T (List.replicate f 0 ++ r)) (fun q => ∃ t, q = [.v (TT one), .v (TT other), .v (.int f), .v (.int s), .v (.list (one.map fun r => T (r ++ List.replicate s 0))), t]) other [] _ ⟨.unk, by simp⟩ (by simp [-po_comp]; omega) ?_ ?_
    · rintro r hr q ⟨t, rfl⟩
      have := l2 r hr
      refine ⟨[.v (TT one), .v (TT other), .v (.int f), .v (.int s), .v (.list (one.map fun r => T (r ++ List.replicate s 0))), .v (T r)], by simp, ?_⟩
      simp [-po_comp]
      omega
    · rintro q ⟨t, rfl⟩
      simp [-po_comp]
      refine ⟨by omega, hK _ _ _ rfl ?_⟩
      simp [-po_comp, bes]
      rfl
/-! ### items -/
def gA (a : It) : D := gD a.many a.rules
def pA (a : It) : D := pD a.form a.th a.bk a.wh a.tu
def itA (a : It) : D := .tuple [gA a, pA a, wD a.w]
theorem ix_i0 (a : It) : ixD (itA a) (.int 0) = some (gA a) := rfl
theorem ix_i1 (a : It) : ixD (itA a) (.int 1) = some (pA a) := rfl
theorem ix_i2 (a : It) : ixD (itA a) (.int 2) = some (wD a.w) := rfl
theorem ix_g0 (a : It) : ixD (gA a) (.int 0) = some (.int a.many) := rfl
theorem ix_g1 (a : It) : ixD (gA a) (.int 1) = some (TT a.rules) := rfl
theorem ix_p0 (a : It) : ixD (pA a) (.int 0) = some (T a.form) := rfl
theorem ix_p1 (a : It) : ixD (pA a) (.int 1) = some (TT a.th) := rfl
theorem ix_p2 (a : It) : ixD (pA a) (.int 2) = some (TT a.bk) := rfl
theorem ix_p3 (a : It) : ixD (pA a) (.int 3) = some (TT a.wh) := rfl
theorem ix_p4 (a : It) : ixD (pA a) (.int 4) = some (TT a.tu) := rfl
/-- small -/
def smI (a : It) : Prop := a.many ≤ 14 ∧ a.form.length ≤ 14 ∧ ∀ rs ∈ [a.rules, a.th, a.bk, a.wh, a.tu], rs.length ≤ 14 ∧ ∀ r ∈ rs, r.length ≤ 14
def ps (a b : It) : List D := [T (a.form ++ b.form), TT (bes a.th b.th a.form.length b.form.length), TT (bes a.bk b.bk a.many b.many), TT (bes a.wh b.wh a.rules.length b.rules.length), TT (bes a.tu b.tu a.rules.length b.rules.length)]
theorem together_ok {a b : It} (A : smI a) (B : smI b) : Wp X (m__law_together [.v (itA a), .v (itA b)]) fun rv _ => rv = .v (.tuple [gA (tog a b), pA (tog a b)]) := by
  obtain ⟨a1, a2, a3⟩ := A
  obtain ⟨b1, b2, b3⟩ := B
  have rl := a3 a.rules (by simp [-po_comp])
  have rl' := b3 b.rules (by simp [-po_comp])
  have bs : ∀ {one other : List (List Int)} {f s : Nat} {X : Exn → En → Prop}, one ∈ [a.rules, a.th, a.bk, a.wh, a.tu] → other ∈ [b.rules, b.th, b.bk, b.wh, b.tu] → f ≤ 14 → s ≤ 14 → Wp X (m__law_beside [.v (TT one), .v (TT other), .v (.int f), .v (.int s)]) fun rv _ => rv = .v (TT (bes one other f s)) := fun {one other f s X} h1 h2 hf hs =>
    beside_ok (by have := (a3 _ h1).1; omega) (by have := (b3 _ h2).1; omega) (by omega) (by omega) (fun r hr => by have := (a3 _ h1).2 r hr; omega) (fun r hr => by have := (b3 _ h2).2 r hr; omega)
  refine po_fnK fun Y K hY hK _ => ?_
  unfold b__law_together
  refine po_step fun K1 h1 _ _ _ => ?_
  simp [-po_comp, ix_i0, ix_i1, ix_i2, ix_g0, ix_g1, ix_p0]
  refine po_mono (bs (by simp [-po_comp]) (by simp [-po_comp]) a1 b1) ?_
  rintro _ _ rfl
  simp [-po_comp]
  refine h1 _ ?_
  refine po_step fun K2 h2 _ _ _ => ?_
  simp [-po_comp, ix_i0, ix_i1, ix_i2, ix_g0, ix_g1, ix_p0]
  refine h2 _ ?_
  refine po_step fun K3 h3 _ _ _ => ?_
  simp [-po_comp, ix_i0, ix_i1, ix_i2, ix_g0, ix_g1, ix_p0]
  refine h3 _ ?_
  refine po_step fun K4 h4 _ _ _ => ?_
  simp [-po_comp, ix_i0, ix_i1, ix_i2, ix_g0, ix_g1, ix_p0]
  refine h4 _ ?_
  refine po_step fun K5 h5 _ _ _ => ?_
  simp [-po_comp, ix_i0, ix_i1, ix_i2, ix_g0, ix_g1, ix_p0]
  refine ⟨by omega, h5 _ ?_⟩
  refine po_step fun K6 h6 _ _ _ => ?_
  simp [-po_comp]
  obtain ⟨W1, hW1⟩ : ∃ W : D, W = .list [.int (a.form.length : Nat), .int (a.many : Nat), .int (a.rules.length : Nat), .int (a.rules.length : Nat)] := ⟨_, rfl⟩
  obtain ⟨W2, hW2⟩ : ∃ W : D, W = .list [.int (b.form.length : Nat), .int (b.many : Nat), .int (b.rules.length : Nat), .int (b.rules.length : Nat)] := ⟨_, rfl⟩
  rw [← hW1, ← hW2]
  have e0 : (PyData.tuple (List.map PyData.int a.form ++ List.map PyData.int b.form)) = T (a.form ++ b.form) := by simp [-po_comp]
  rw [e0]
  obtain ⟨S2, hS2⟩ : ∃ S : D, S = TT (bes a.rules b.rules a.many b.many) := ⟨_, rfl⟩
  obtain ⟨S3, hS3⟩ : ∃ S : D, S = PyData.tuple [PyData.int (↑a.many + ↑b.many), TT (bes a.rules b.rules a.many b.many)] := ⟨_, rfl⟩
  rw [← hS3, ← hS2]
  have stp : ∀ (k : Nat) (one other : List (List Int)) (f s : Nat) (d : D) (Y : Exn → En → Prop) (K7 : Fl → En → Prop) (q : List D), ixD (pA a) (.int (k + 1)) = some (TT one) → ixD (pA b) (.int (k + 1)) = some (TT other) → ixD W1 (.int k) = some (.int f) → ixD W2 (.int k) = some (.int s) → one ∈ [a.rules, a.th, a.bk, a.wh, a.tu] → other ∈ [b.rules, b.th, b.bk, b.wh, b.tu] → f ≤ 14 → s ≤ 14 → q.length ≤ 10 → (K7 .nx [.v (itA a), .v (itA b), .v S2, .v S3, .v W1, .v W2, .o (.l (q ++ [TT (bes one other f s)])), .v (.int k)]) →
      Wp Y ((sAppend 6 (frzM (cCall m__law_beside (aCons (Pu.bin ixD (Pu.bin ixD (getS 0) (M.ret (PyData.int 1))) (Pu.bin addD (getS 7) (M.ret (PyData.int 1)))) (aCons (Pu.bin ixD (Pu.bin ixD (getS 1) (M.ret (PyData.int 1))) (Pu.bin addD (getS 7) (M.ret (PyData.int 1)))) (aCons (Pu.bin ixD (getS 4) (getS 7)) (aCons (Pu.bin ixD (getS 5) (getS 7)) aNil))))))) [.v (itA a), .v (itA b), .v S2, .v S3, .v W1, .v W2, .o (.l q), .v (.int k)]) K7 := fun k one other f s d Y K7 q g1 g2 g3 g4 g5 g6 g7 g8 g9 hk => by
    simp [-po_comp, ix_i1, g1, g2, g3, g4]
    refine po_mono (bs g5 g6 g7 g8) ?_
    rintro _ _ rfl
    simp [-po_comp]
    exact ⟨by omega, hk⟩
  refine po_rngK (fun i r => ∃ s7, r = [.v (itA a), .v (itA b), .v S2, .v S3, .v W1, .v W2, .o (.l ((ps a b).take (i + 1))), s7] ∧ s7.isIo = false) 4 _ ⟨_, rfl, rfl⟩ ?_ ?_
  · rintro i r hi ⟨s7, rfl, q7⟩
    refine ⟨[.v (itA a), .v (itA b), .v S2, .v S3, .v W1, .v W2, .o (.l ((ps a b).take (i + 1))), .v (.int (0 + (i : Nat)))], by simp [-po_comp, q7], fun K7 h7 _ _ _ => ?_⟩
    rw [Int.zero_add]
    match i, hi with
    | 0, _ => exact stp 0 a.th b.th a.form.length b.form.length .none _ _ _ (ix_p1 a) (ix_p1 b) (by rw [hW1]; rfl) (by rw [hW2]; rfl) (by simp [-po_comp]) (by simp [-po_comp]) a2 b2 (by simp [-po_comp, ps]) (h7 _ ⟨_, rfl, rfl⟩)
    | 1, _ => exact stp 1 a.bk b.bk a.many b.many .none _ _ _ (ix_p2 a) (ix_p2 b) (by rw [hW1]; rfl) (by rw [hW2]; rfl) (by simp [-po_comp]) (by simp [-po_comp]) a1 b1 (by simp [-po_comp, ps]) (h7 _ ⟨_, rfl, rfl⟩)
    | 2, _ => exact stp 2 a.wh b.wh a.rules.length b.rules.length .none _ _ _ (ix_p3 a) (ix_p3 b) (by rw [hW1]; rfl) (by rw [hW2]; rfl) (by simp [-po_comp]) (by simp [-po_comp]) rl.1 rl'.1 (by simp [-po_comp, ps]) (h7 _ ⟨_, rfl, rfl⟩)
    | 3, _ => exact stp 3 a.tu b.tu a.rules.length b.rules.length .none _ _ _ (ix_p4 a) (ix_p4 b) (by rw [hW1]; rfl) (by rw [hW2]; rfl) (by simp [-po_comp]) (by simp [-po_comp]) rl.1 rl'.1 (by simp [-po_comp, ps]) (h7 _ ⟨_, rfl, rfl⟩)
    | n + 4, h => omega
  · rintro r ⟨s7, rfl, q7⟩
    refine h6 _ ?_
    simp [-po_comp]
    refine hK _ _ _ rfl ?_
    rw [hS3]
    simp [-po_comp, gA, pA, tog, ps]
end
end K22
namespace K22
open PySem Pu L2
section
variable {X : Exn → En → Prop}
theorem alone_ok {n m : Nat} (hn : n ≤ 100) (hm : m ≤ 100) : Wp X (m__law_alone [.v (.int n), .v (.int m)]) fun rv _ => rv = .o (.l ((alone n m).map itA)) := by
  have mo : mulOk (n : Int) (m : Int) := mulOk_r ⟨by omega, by omega⟩
  refine po_fnK fun Y K hY hK _ => ?_
  unfold b__law_alone
  refine po_step fun K1 h1 _ _ _ => ?_
  simp [-po_comp]
  refine h1 _ ?_
  refine po_step fun K2 h2 _ _ _ => ?_
  simp [-po_comp]
  refine ⟨mo, h2 _ ?_⟩
  refine po_step fun K3 h3 _ _ _ => ?_
  simp [-po_comp]
  refine h3 _ ?_
  refine po_step fun K4 h4 _ _ _ => ?_
  simp [-po_comp]
  refine ⟨mo, h4 _ ?_⟩
  refine po_step fun K5 h5 _ _ _ => ?_
  simp [-po_comp]
  first | refine h5 _ ?_ | refine ⟨mo, h5 _ ?_⟩
  refine po_step fun K6 h6 _ _ _ => ?_
  simp [-po_comp]
  first | refine h6 _ ?_ | refine ⟨mo, h6 _ ?_⟩
  refine po_step fun K7 h7 _ _ _ => ?_
  simp [-po_comp]
  first | refine h7 _ ?_ | refine ⟨mo, h7 _ ?_⟩
  refine po_step fun K8 h8 _ _ _ => ?_
  simp [-po_comp]
  first | refine h8 _ ?_ | refine ⟨mo, h8 _ ?_⟩
  refine po_step fun K9 h9 _ _ _ => ?_
  simp [-po_comp]
  first | refine h9 _ ?_ | refine ⟨mo, h9 _ ?_⟩
  refine po_step fun K10 h10 _ _ _ => ?_
  simp [-po_comp]
  first | refine h10 _ ?_ | refine ⟨mo, h10 _ ?_⟩
  refine po_step fun K11 h11 _ _ _ => ?_
  simp [-po_comp]
  first | refine h11 _ ?_ | refine ⟨mo, h11 _ ?_⟩
  simp [-po_comp]
  exact hK _ _ _ rfl rfl
theorem forms_ok {n m : Nat} (hn : n ≤ 100) : Wp X (m__law_forms [.v (.int n), .v (.int m)]) fun rv _ => rv = .o (.l ((forms n).map fun a => .tuple [gA a, pA a])) := by
  have mo : mulOk (n : Int) (n : Int) := mulOk_r ⟨by omega, by omega⟩
  refine po_fnK fun Y K hY hK _ => ?_
  unfold b__law_forms
  refine po_step fun K1 h1 _ _ _ => ?_
  simp [-po_comp]
  refine ⟨mo, h1 _ ?_⟩
  refine po_step fun K2 h2 _ _ _ => ?_
  simp [-po_comp]
  refine h2 _ ?_
  refine po_step fun K3 h3 _ _ _ => ?_
  simp [-po_comp]
  refine h3 _ ?_
  refine po_step fun K4 h4 _ _ _ => ?_
  simp [-po_comp]
  refine h4 _ ?_
  simp [-po_comp]
  exact hK _ _ _ rfl rfl
/-! ### what is first -/
def okw (o : Option Nat) : Prop := o = none ∨ o = some 2 ∨ o = some 3 ∨ o = some 4 ∨ o = some 5
theorem eqw {o : Option Nat} (ho : okw o) {k : Nat} (hk : k = 2 ∨ k = 3 ∨ k = 4 ∨ k = 5) : eqD (wD o) (.str (wS k)) = some (.bool (decide (o = some k))) := by
  rcases ho with rfl | rfl | rfl | rfl | rfl <;> rcases hk with rfl | rfl | rfl | rfl <;> first | rfl | exact if_pos ⟨by decide +kernel, by decide +kernel⟩ | (simp [-po_comp, wD]; decide +kernel)
def fw (a b : It) (w : Nat) : Option (Nat × Nat) := if a.w = some w then some (w, 0) else if b.w = some w then some (w, more a w) else none
theorem first_ok {a b : It} (ha : okw a.w) (hb : okw b.w) : Wp X (m__law_first [.v (itA a), .v (itA b)]) fun rv _ => rv = .v (hD (fst a b)) := by
  refine po_fnK fun Y K hY hK _ => ?_
  unfold b__law_first
  refine po_step fun K1 h1 _ _ _ => ?_
  simp [-po_comp, oDict, prs, ix_i0, ix_i1, ix_g0, ix_g1, ix_p0]
  refine h1 _ ?_
  obtain ⟨kv, hkv⟩ : ∃ kv : List (Key × D), kv = pK (pK (pK (pK [] (.inr "rule") (.int (a.rules.length : Nat))) (.inr "round") (.int (a.form.length : Nat))) (.inr "maker") (.int (a.many : Nat))) (.inr "turn") (.int (a.form.length : Nat)) := ⟨_, rfl⟩
  try rw [← hkv]
  refine po_step fun K2 h2 r2 _ _ => ?_
  have vk : ∀ k, k = 2 ∨ k = 3 ∨ k = 4 ∨ k = 5 → vK kv (.inr (wS k)) = some (.int (more a k : Nat)) := fun k hk => by
    subst hkv
    rcases hk with rfl | rfl | rfl | rfl <;> rfl
  simp [-po_comp]
  have el : [PyData.str (Str.ofString "rule"), PyData.str (Str.ofString "round"), PyData.str (Str.ofString "maker"), PyData.str (Str.ofString "turn")] = [2, 3, 4, 5].map fun w : Nat => PyData.str (wS w) := rfl
  rw [el]
  have ef : fst a b = [2, 3, 4, 5].findSome? (fw a b) := rfl
  refine po_forK (f := fun w : Nat => PyData.str (wS w)) (fun done r => ∃ s3, r = [.v (itA a), .v (itA b), .o (.d kv), s3] ∧ s3.isIo = false ∧ ∀ w ∈ done, fw a b w = none) [2, 3, 4, 5] _ ⟨_, rfl, rfl, fun w hw => (by cases hw)⟩ ?_ ?_
  · rintro done w rest r e ⟨s3, rfl, q3, hd⟩
    have hw : w = 2 ∨ w = 3 ∨ w = 4 ∨ w = 5 := by
      have : w ∈ [2, 3, 4, 5] := by rw [e]; simp [-po_comp]
      simpa using this
    refine ⟨[.v (itA a), .v (itA b), .o (.d kv), .v (.str (wS w))], by simp [-po_comp, q3], fun K3 h3 rt3 _ _ => ?_⟩
    have hnone : done.findSome? (fw a b) = none := List.findSome?_eq_none_iff.mpr hd
    have fin : ∀ p, fw a b w = some p → fst a b = some p := fun p hp => by
      rw [ef, e, List.findSome?_append, hnone, List.findSome?_cons, hp]
      rfl
    refine po_step fun K4 h4 r4 _ _ => ?_
    simp [-po_comp, ix_i2, eqw ha hw]
    by_cases c1 : a.w = some w
    · simp [-po_comp, c1]
      refine r4 _ _ (rt3 _ _ (r2 _ _ (hK _ _ _ rfl ?_)))
      rw [fin (w, 0) (by simp [-po_comp, fw, c1])]
      rfl
    · simp [-po_comp, c1]
      refine h4 _ ?_
      simp [-po_comp, ix_i2, eqw hb hw]
      by_cases c2 : b.w = some w
      · simp [-po_comp, c2, keyD]
        rw [vk w hw]
        simp [-po_comp]
        refine rt3 _ _ (r2 _ _ (hK _ _ _ rfl ?_))
        rw [fin (w, more a w) (by simp [-po_comp, fw, c1, c2])]
        rfl
      · simp [-po_comp, c2]
        refine h3 _ ⟨_, rfl, rfl, fun x hx => ?_⟩
        rcases List.mem_append.mp hx with hx | hx
        · exact hd x hx
        · rw [List.mem_singleton.mp hx]
          simp [-po_comp, fw, c1, c2]
  · rintro r ⟨s3, rfl, q3, hd⟩
    refine h2 _ ?_
    simp [-po_comp]
    refine hK _ _ _ rfl ?_
    rw [ef, List.findSome?_eq_none_iff.mpr hd]
    rfl
theorem divide_ok {a b : It} (hp : ∀ x ∈ a.form, 1 ≤ x) (la : a.form.length ≤ 1000) (lb : b.form.length ≤ 1000) : Wp X (m__law_divide [.v (T a.form), .v (T b.form)]) fun rv _ => rv = .v (.bool (dv a b)) := by
  refine po_fnK fun Y K hY hK _ => ?_
  unfold b__law_divide
  simp
  refine po_compF (f := fun x : Int => PyData.int x) (g := fun x : Int => PyData.int x) (p := fun x => !(b.form.all fun y => decide (y % x = 0))) (fun q => ∃ s t, q = [.v (T a.form), .v (T b.form), s, t] ∧ t.own = none) a.form [] _ ⟨_, _, rfl, rfl⟩ (by simp [-po_comp]; omega) ?_ ?_
  · rintro x hx q ⟨s, t, rfl, ht⟩
    have hx1 := hp x hx
    have hx0 : ¬ x = 0 := by omega
    refine ⟨[.v (T a.form), .v (T b.form), .v (.int x), t], by simp, ?_⟩
    simp [-po_comp, po_comp, ht]
    refine po_compF (f := fun x : Int => PyData.int x) (g := fun x : Int => PyData.int x) (p := fun y => !decide (y % x = 0)) (fun q => ∃ t, q = [.v (T a.form), .v (T b.form), .v (.int x), t]) b.form [] _ ⟨_, rfl⟩ (by simp [-po_comp]; omega) ?_ ?_
    · rintro y hy q ⟨t, rfl⟩
      refine ⟨[.v (T a.form), .v (T b.form), .v (.int x), .v (.int y)], by simp, ?_⟩
      simp [-po_comp, hx0]
      rw [Int.fmod_eq_emod_of_nonneg _ (by omega)]
    · rintro q ⟨t, rfl⟩
      have e1 : neD (.list ((b.form.filter fun y => !decide (y % x = 0)).map fun x => PyData.int x)) (.list []) = some (.bool (!decide ((b.form.filter fun y => !decide (y % x = 0)) = []))) := neD_L _ []
      have e2 : decide ((b.form.filter fun y => !decide (y % x = 0)) = []) = b.form.all fun y => decide (y % x = 0) := by
        rw [Bool.eq_iff_iff]
        simp [-po_comp, List.filter_eq_nil_iff]
      simp [-po_comp]
      rw [e1, e2]
      simp [-po_comp]
      exact ⟨fun _ => ⟨_, _, ⟨rfl, rfl⟩, by simpa using ht⟩, fun y hy h0 => ⟨_, _, ⟨rfl, rfl⟩, by simpa using ht⟩⟩
  · rintro q ⟨s, t, rfl, ht⟩
    simp [-po_comp]
    rw [eqD_nil]
    simp [-po_comp]
    refine hK _ _ _ rfl ?_
    congr 2
    rw [Bool.eq_iff_iff]
    simp [-po_comp, dv, List.filter_eq_nil_iff]
end
end K22
namespace K22
open PySem Pu L2
theorem alone_mem {n m : Int} {a : It} (h : a ∈ alone n m ++ [nothing]) : smI a ∧ okw a.w := by
  simp only [alone, nothing, List.cons_append, List.nil_append, List.mem_cons, List.not_mem_nil, or_false] at h
  rcases h with rfl | rfl | rfl | rfl | rfl | rfl | rfl | rfl | rfl | rfl <;> exact ⟨by simp [-po_comp, smI], by simp [-po_comp, okw]⟩
theorem dom {m : Nat} (hm : m = 2 ∨ m = 3 ∨ m = 4) : ∃ q : Nat, 0 < q ∧ q ≤ 48 ∧ (99 : Int).fdiv (m : Nat) - 1 = q ∧ ∀ n : Nat, 2 ≤ n → n < 2 + q → chk n m = true := by
  rcases hm with rfl | rfl | rfl
  · refine ⟨48, by decide, by decide, by decide, fun n h1 h2 => ?_⟩
    have := List.all_eq_true.mp all_2 (n - 2) (List.mem_range.mpr (by omega))
    have e : ((n - 2 : Nat) : Int) + 2 = n := by omega
    rw [e] at this
    exact this
  · refine ⟨32, by decide, by decide, by decide, fun n h1 h2 => ?_⟩
    have := List.all_eq_true.mp all_3 (n - 2) (List.mem_range.mpr (by omega))
    have e : ((n - 2 : Nat) : Int) + 2 = n := by omega
    rw [e] at this
    exact this
  · refine ⟨23, by decide, by decide, by decide, fun n h1 h2 => ?_⟩
    have := List.all_eq_true.mp all_4 (n - 2) (List.mem_range.mpr (by omega))
    have e : ((n - 2 : Nat) : Int) + 2 = n := by omega
    rw [e] at this
    exact this
theorem dom6 {n : Nat} (h1 : 2 ≤ n) (h2 : n < 50) : chk6 n = true := by
  have := List.all_eq_true.mp all_6 (n - 2) (List.mem_range.mpr (by omega))
  have e : ((n - 2 : Nat) : Int) + 2 = n := by omega
  rw [e] at this
  exact this
theorem domF {n : Nat} (h1 : 2 ≤ n) (h2 : n < 10) : chkF n = true := by
  have := List.all_eq_true.mp all_f (n - 2) (List.mem_range.mpr (by omega))
  have e : ((n - 2 : Nat) : Int) + 2 = n := by omega
  rw [e] at this
  exact this
theorem hear {X : Exn → En → Prop} {a : It} (h : bdB a = true) : Wp X (m__law_heard [.v (gA a), .v (pA a)]) fun rv _ => rv = .v (hD (res a)) := heard_ok (bdB_ok h)
theorem law_true (ns : List Int) (h : ns.length ≤ 63) (hb : ∀ z ∈ ns, Builtin.Int.intBits z ≤ 1048576) : ∃ r, m_law [.v (.list (ns.map .int))] = .ok (.v (.bool true)) r := by
  refine po_true ?_
  refine po_fnK fun Y K hY hK _ => ?_
  unfold b_law
  refine po_step fun K1 h1 r1 _ _ => ?_
  obtain ⟨x, n, e1, e2, hn4⟩ : ∃ (x : Int) (n : Nat), minD (.int 3) (.int (ns.length : Nat)) = some (.int x) ∧ maxD (.int 1) (.int x) = some (.int n) ∧ n ≤ 3 := by
    refine ⟨if ((ns.length : Nat) : Int) < 3 then (ns.length : Nat) else 3, (if (1 : Int) < (if ((ns.length : Nat) : Int) < 3 then ((ns.length : Nat) : Int) else 3) then (if ((ns.length : Nat) : Int) < 3 then ((ns.length : Nat) : Int) else 3) else 1).toNat, rfl, ?_, ?_⟩
    · show some (PyData.int (if (1 : Int) < (if ((ns.length : Nat) : Int) < 3 then ((ns.length : Nat) : Int) else 3) then (if ((ns.length : Nat) : Int) < 3 then ((ns.length : Nat) : Int) else 3) else 1)) = _
      congr 2
      split <;> split <;> omega
    · split <;> split <;> omega
  simp [-po_comp, e1, e2]
  refine ⟨by omega, ?_⟩
  obtain ⟨S0, hS0⟩ : ∃ S : D, S = .list (ns.map .int) := ⟨_, rfl⟩
  rw [← hS0]
  refine po_rngK (fun i r => ∃ s1 s2 s3 s4 s5 s6 s7 s8 s9 s10 s11 s12, r = [.v S0, s1, s2, s3, s4, s5, s6, s7, s8, s9, s10, s11, s12] ∧ s1.isIo = false ∧ s2.isIo = false ∧ s3.isIo = false ∧ s4.isIo = false ∧ s5.isIo = false ∧ s6.isIo = false ∧ s7.isIo = false ∧ s8.isIo = false ∧ s9.isIo = false ∧ s10.isIo = false ∧ s11.isIo = false ∧ s12.isIo = false) n _ ⟨_, _, _, _, _, _, _, _, _, _, _, _, rfl, rfl, rfl, rfl, rfl, rfl, rfl, rfl, rfl, rfl, rfl, rfl, rfl⟩ ?_ ?_
  · rintro i r hi ⟨s1, s2, s3, s4, s5, s6, s7, s8, s9, s10, s11, s12, rfl, q1, q2, q3, q4, q5, q6, q7, q8, q9, q10, q11, q12⟩
    refine ⟨[.v S0, .v (.int (0 + (i : Nat))), s2, s3, s4, s5, s6, s7, s8, s9, s10, s11, s12], by simp [-po_comp, q1], fun K2 h2 r2 _ _ => ?_⟩
    refine po_step fun K3 h3 _ _ _ => ?_
    simp [-po_comp]
    rw [hS0]
    refine po_mono (pen_ok ns i) ?_
    rintro _ _ ⟨c, rfl, hp⟩
    simp [-po_comp, q2]
    rw [← hS0]
    refine h3 _ ?_
    refine po_step fun K4 h4 _ _ _ => ?_
    simp [-po_comp]
    refine po_mono (draw_ok hp (by decide) (by decide)) ?_
    rintro _ _ ⟨m0, c, u, rfl, m1, m2, rfl, hp⟩
    obtain ⟨m, em, hm⟩ : ∃ m : Nat, 2 + m0 = (m : Int) ∧ (m = 2 ∨ m = 3 ∨ m = 4) := ⟨(2 + m0).toNat, by omega, by omega⟩
    simp [-po_comp, q3]
    rw [em]
    refine h4 _ ?_
    refine po_step fun K5 h5 _ _ _ => ?_
    obtain ⟨q, q0, q48, eq, hc⟩ := dom hm
    have m0' : ¬ m = 0 := by omega
    simp [-po_comp, m0']
    rw [eq]
    refine po_mono (draw_ok hp (by omega) (by omega)) ?_
    rintro _ _ ⟨n0, c, u, rfl, n1, n2, rfl, hp⟩
    obtain ⟨N, eN, N2, Nq⟩ : ∃ N : Nat, 2 + n0 = (N : Int) ∧ 2 ≤ N ∧ N < 2 + q := ⟨(2 + n0).toNat, by omega, by omega, by omega⟩
    simp [-po_comp, q4]
    rw [eN]
    refine h5 _ ?_
    have hc := hc N N2 Nq
    refine po_step fun K6 h6 _ _ _ => ?_
    obtain ⟨N9, e9, N91, N92⟩ : ∃ N9 : Nat, minD (.int (N : Nat)) (.int 9) = some (.int N9) ∧ 2 ≤ N9 ∧ N9 < 10 := by
      refine ⟨if 9 < N then 9 else N, ?_, ?_, ?_⟩
      · show some (PyData.int (if (9 : Int) < (N : Int) then 9 else (N : Int))) = _
        congr 2
        split <;> split <;> omega
      · split <;> omega
      · split <;> omega
    simp [-po_comp, e9]
    refine po_mono (forms_ok (by omega)) ?_
    rintro _ _ rfl
    simp [-po_comp]
    refine po_forK (f := fun a : It => PyData.tuple [gA a, pA a]) (fun _ r => ∃ s5 s6, r = [Sl.v S0, Sl.v (PyData.int ↑i), Sl.o c, Sl.v (PyData.int ↑m), Sl.v (PyData.int ↑N), s5, s6, s7, s8, s9, s10, s11, s12] ∧ s5.isIo = false ∧ s6.isIo = false) (forms N9) _ ⟨_, _, rfl, q5, q6⟩ ?_ ?_
    · rintro done a rest r e ⟨s5, s6, rfl, q5, q6⟩
      refine ⟨[Sl.v S0, Sl.v (PyData.int ↑i), Sl.o c, Sl.v (PyData.int ↑m), Sl.v (PyData.int ↑N), .v (gA a), .v (pA a), s7, s8, s9, s10, s11, s12], by simp [-po_comp, q5, q6], fun K7 h7 _ _ _ => ?_⟩
      have ha := List.all_eq_true.mp (domF N91 N92) a (by rw [e]; simp [-po_comp])
      rw [Bool.and_eq_true] at ha
      simp [-po_comp]
      refine po_mono (hear ha.1) ?_
      rintro _ _ rfl
      have er := of_decide_eq_true ha.2
      have en : neD (hD (some (1, 0))) (.tuple [.str "form", .int 0]) = some (.bool false) := hD_ne (some (1, 0))
      rw [er]
      simp [-po_comp, en]
      exact h7 _ ⟨_, _, rfl, rfl, rfl⟩
    · rintro r ⟨s5, s6, rfl, q5, q6⟩
      refine h6 _ ?_
      refine po_step fun K7 h7 _ _ _ => ?_
      simp [-po_comp]
      have el : [PyData.tuple [PyData.int 6, PyData.tuple [PyData.str (Str.ofString "round"), PyData.int 0]], PyData.tuple [PyData.int 7, PyData.tuple [PyData.str (Str.ofString "shape"), PyData.int 0]]] = [(6, some (3, 0)), (7, some (0, 0))].map fun p : Nat × Option (Nat × Nat) => PyData.tuple [.int (p.1 : Nat), hD p.2] := rfl
      rw [el]
      refine po_forK (f := fun p : Nat × Option (Nat × Nat) => PyData.tuple [.int (p.1 : Nat), hD p.2]) (fun _ r => ∃ s6 s7 s8, r = [Sl.v S0, Sl.v (PyData.int ↑i), Sl.o c, Sl.v (PyData.int ↑m), Sl.v (PyData.int ↑N), s5, s6, s7, s8, s9, s10, s11, s12] ∧ s6.isIo = false ∧ s7.isIo = false ∧ s8.isIo = false) [(6, some (3, 0)), (7, some (0, 0))] _ ⟨_, _, _, rfl, q6, q7, q8⟩ ?_ ?_
      · rintro done ⟨k, o⟩ rest r e ⟨s6, s7, s8, rfl, q6, q7, q8⟩
        refine ⟨[Sl.v S0, Sl.v (PyData.int ↑i), Sl.o c, Sl.v (PyData.int ↑m), Sl.v (PyData.int ↑N), s5, s6, .v (.int (k : Nat)), .v (hD o), s9, s10, s11, s12], by simp [-po_comp, q7, q8], fun K8 h8 _ _ _ => ?_⟩
        have hk : (k = 6 ∧ o = some (3, 0)) ∨ (k = 7 ∧ o = some (0, 0)) := by
          have : (k, o) ∈ [(6, some (3, 0)), (7, some (0, 0))] := by rw [e]; simp [-po_comp]
          simpa using this
        have hs := dom6 N2 (by omega)
        unfold chk6 at hs
        simp only [Bool.and_eq_true, decide_eq_true_eq] at hs
        have hok : bdB (six N k) = true ∧ res (six N k) = o := by
          rcases hk with ⟨rfl, rfl⟩ | ⟨rfl, rfl⟩
          · exact ⟨hs.1, hs.2.2.1⟩
          · exact ⟨hs.2.1, hs.2.2.2⟩
        have k7 : k ≤ 7 := by omega
        refine po_step fun K9 h9 _ _ _ => ?_
        simp [-po_comp, q6]
        refine ⟨by omega, h9 _ ?_⟩
        have ep : PyData.tuple [PyData.tuple (List.replicate k (PyData.int ↑N)), PyData.tuple [], PyData.tuple (List.replicate k (PyData.tuple [])), PyData.tuple [], PyData.tuple (List.replicate k (PyData.tuple []))] = pA (six N k) := by
          simp [-po_comp, pA, six, pD]
        have eg : PyData.tuple [PyData.int 0, PyData.tuple []] = gA (six N k) := rfl
        rw [ep]
        simp [-po_comp]
        rw [eg]
        refine po_mono (hear hok.1) ?_
        rintro _ _ rfl
        rw [hok.2]
        simp [-po_comp, hD_ne]
        exact h8 _ ⟨_, _, _, rfl, rfl, rfl, rfl⟩
      · rintro r ⟨s6, s7, s8, rfl, q6, q7, q8⟩
        refine h7 _ ?_
        refine po_step fun K8 h8 _ _ _ => ?_
        simp [-po_comp]
        refine po_mono (alone_ok (by omega) (by omega)) ?_
        rintro _ _ rfl
        simp [-po_comp, q9]
        refine h8 _ ?_
        refine po_step fun K9 h9 _ _ _ => ?_
        simp [-po_comp, q10]
        refine h9 _ ?_
        simp [-po_comp]
        refine ⟨by show (9 : Nat) ≤ _; decide, ?_⟩
        have en : (PyData.tuple [PyData.tuple [PyData.int 0, PyData.tuple []], PyData.tuple [PyData.tuple [], PyData.tuple [], PyData.tuple [], PyData.tuple [], PyData.tuple []], PyData.none]) = itA nothing := rfl
        rw [en]
        have eA : List.map itA (alone N m) ++ [itA nothing] = (alone N m ++ [nothing]).map itA := by simp [-po_comp]
        rw [eA]
        have la : (alone (N : Int) (m : Int)).length = 9 := rfl
        obtain ⟨AL, hAL⟩ : ∃ AL, AL = alone (N : Int) (m : Int) := ⟨_, rfl⟩
        have mem : ∀ a ∈ AL ++ [nothing], smI a ∧ okw a.w := fun a ha => alone_mem (by rw [← hAL]; exact ha)
        unfold chk at hc
        rw [← hAL] at hc la ⊢
        have prs : ∀ a ∈ AL ++ [nothing], ∀ b ∈ AL ++ [nothing], pairB a b = true := fun a ha b hb => List.all_eq_true.mp (List.all_eq_true.mp hc a ha) b hb
        refine po_forK (f := itA) (fun _ r => ∃ s5 s6 s11 s12, r = [Sl.v S0, Sl.v (PyData.int ↑i), Sl.o c, Sl.v (PyData.int ↑m), Sl.v (PyData.int ↑N), s5, s6, s7, s8, .v (.list (AL.map itA)), .v (itA nothing), s11, s12] ∧ s5.isIo = false ∧ s6.isIo = false ∧ s11.isIo = false ∧ s12.isIo = false) (AL ++ [nothing]) _ ⟨_, _, _, _, rfl, q5, q6, q11, q12⟩ ?_ ?_
        · rintro done a rest r e ⟨s5, s6, s11, s12, rfl, q5, q6, q11, q12⟩
          refine ⟨[Sl.v S0, Sl.v (PyData.int ↑i), Sl.o c, Sl.v (PyData.int ↑m), Sl.v (PyData.int ↑N), s5, s6, s7, s8, .v (.list (AL.map itA)), .v (itA nothing), .v (itA a), s12], by simp [-po_comp, q11], fun K10 h10 _ _ _ => ?_⟩
          have ha : a ∈ AL ++ [nothing] := by rw [e]; simp [-po_comp]
          have Ma := mem a ha
          simp [-po_comp, la]
          rw [← List.map_singleton (f := itA) (a := nothing), ← List.map_append]
          refine po_forK (f := itA) (fun _ r => ∃ s5 s6 s12, r = [Sl.v S0, Sl.v (PyData.int ↑i), Sl.o c, Sl.v (PyData.int ↑m), Sl.v (PyData.int ↑N), s5, s6, s7, s8, .v (.list (AL.map itA)), .v (itA nothing), .v (itA a), s12] ∧ s5.isIo = false ∧ s6.isIo = false ∧ s12.isIo = false) (AL ++ [nothing]) _ ⟨_, _, _, rfl, q5, q6, q12⟩ ?_ ?_
          · rintro done b rest r e ⟨s5, s6, s12, rfl, q5, q6, q12⟩
            refine ⟨[Sl.v S0, Sl.v (PyData.int ↑i), Sl.o c, Sl.v (PyData.int ↑m), Sl.v (PyData.int ↑N), s5, s6, s7, s8, .v (.list (AL.map itA)), .v (itA nothing), .v (itA a), .v (itA b)], by simp [-po_comp, q12], fun K11 h11 _ _ _ => ?_⟩
            have hb : b ∈ AL ++ [nothing] := by rw [e]; simp [-po_comp]
            have Mb := mem b hb
            have P := prs a ha b hb
            unfold pairB at P
            simp only [Bool.and_eq_true] at P
            obtain ⟨P1, P2, P3⟩ := P
            refine po_step fun K12 h12 _ _ _ => ?_
            simp [-po_comp]
            refine po_mono (together_ok Ma.1 Mb.1) ?_
            rintro _ _ rfl
            simp [-po_comp, q5, q6]
            refine h12 _ ?_
            simp [-po_comp, ix_i1, ix_p0]
            refine po_mono (divide_ok (fun x hx => of_decide_eq_true (List.all_eq_true.mp P2 x hx)) (by have := Ma.1.2.1; omega) (by have := Mb.1.2.1; omega)) ?_
            rintro _ _ rfl
            cases cd : dv a b with
            | false =>
              simp [-po_comp]
              exact h11 _ ⟨_, _, _, rfl, rfl, rfl, rfl⟩
            | true =>
              rw [cd] at P3
              have P3 := of_decide_eq_true (show decide (res (tog a b) = fst a b) = true from P3)
              simp [-po_comp]
              refine po_mono (hear P1) ?_
              rintro _ _ rfl
              simp [-po_comp]
              refine po_mono (first_ok Ma.2 Mb.2) ?_
              rintro _ _ rfl
              rw [P3]
              simp [-po_comp, hD_ne]
              exact h11 _ ⟨_, _, _, rfl, rfl, rfl, rfl⟩
          · rintro r ⟨s5, s6, s12, rfl, q5, q6, q12⟩
            exact h10 _ ⟨_, _, _, _, rfl, q5, q6, rfl, q12⟩
        · rintro r ⟨s5, s6, s11, s12, rfl, q5, q6, q11, q12⟩
          exact h2 _ ⟨_, _, _, _, _, _, _, _, _, _, _, _, rfl, rfl, rfl, rfl, rfl, q5, q6, q7, q8, rfl, rfl, q11, q12⟩
  · rintro r ⟨s1, s2, s3, s4, s5, s6, s7, s8, s9, s10, s11, s12, rfl, q1, q2, q3, q4, q5, q6, q7, q8, q9, q10, q11, q12⟩
    refine h1 _ ?_
    simp [-po_comp]
    exact hK _ _ _ rfl rfl
end K22
open PySem PySem.W PySem.Calls PyProof.Rows
theorem PySem.Challenge.cw_commonhouse_k22_each_condition_of_a_pape_holds : PySem.Challenge.rw_commonhouse_k22_each_condition_of_a_pape.Holds := by
  w_on; o_law
  refine HandSHeadRun.head_any (r := OpenLaw.row PySem.Challenge.rw_commonhouse_k22_each_condition_of_a_pape) (q := view (OpenLaw.row PySem.Challenge.rw_commonhouse_k22_each_condition_of_a_pape).prog [42]) (H := K22.hk) (ob := K22.ob) (M := 27800) (loose := K22.lo) (d := HandSHeadRun.topDef (OpenLaw.row PySem.Challenge.rw_commonhouse_k22_each_condition_of_a_pape).prog 42) (kwd := []) K22.ob_eq
    (by kernel_rfl) (fun s => by kernel_rfl) K22.run (by kernel_rfl) (by kernel_rfl) (by kernel_rfl) (by rfl) (by first | assumption | decide +kernel) (by decide +kernel) ⟨rfl, rfl, rfl, rfl, rfl, by decide +kernel⟩ ?hw ?hc
  case hw => w_witness2
  case hc =>
    refine Pu.walk_ofP (l := PySem.Challenge.rw_commonhouse_k22_each_condition_of_a_pape) (n := 63) (k := 8) (x := "_law_script") rfl (by decide) (by kernel_rfl) ⟨⟨rfl, by decide, by decide⟩, rfl, by decide⟩ (by kernel_rfl) ?F
    intro w mg fa h Y G hmg0
    obtain ⟨K, KX, c, l⟩ := Y
    have hmg : mg ("law" : PySem.Str) = some (.ref fa) := by
      have e : (HandSHeadRun.topDef (OpenLaw.row PySem.Challenge.rw_commonhouse_k22_each_condition_of_a_pape).prog 42).name = ("law" : PySem.Str) := by kernel_rfl
      rw [← e]
      exact hmg0
    obtain ⟨fd, hb, hF⟩ := K22.facts (P := (PySem.Challenge.rw_commonhouse_k22_each_condition_of_a_pape).prog) (w := w) KX G hmg (by rfl) c l
    have cs := l.cs KX
    exact ⟨K, fd, Pu.csN K22.ln K, _, KX, cs.1, cs.2.1, cs.2.2, hb, fun H a ns hl hb hH hS => K22.sp_law (K22.law_true ns hl hb) H a hS (Pu.tabs_start hH), hF⟩
