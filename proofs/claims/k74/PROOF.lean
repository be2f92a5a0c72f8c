import PyProof.Rows.All
import Wide.All
import OpenK.AllK
import Wide.FinOn
import HandS.Base
import HandS.Call
import HandS.List
import HandS.Comp
import HandS.Ends
import HandS.Dict
import HandS.Iter
import HandS.Text
import HandS.Exc
import HandS.ExcOwn
import HandS.Words
import HandS.WordsList
import HandS.WordsDict
import HandS.WordsExc
import HandS.Flow
import HandS.Wide
import HandS.IsInst
import HandS.Zip
import HandS.TupAny
import HandS.TupMul
import HandS.Style
import HandS.CallSlots
import HandS.Defaults
import PyProof.EqLayable
import PyProof.ReprReads
import HandS.HeadHook1
import HandS.ExcIs
import KE.KExcIs
import HandS.Lambda
import HandS.NoneIn
import KE.GoesEnum
import KE.GoesNew
import HandS.Small
import PyProof.ReprRoads
import HandS.RaiseMore
import HandS.Deep
import HandS.HeadHook3
import HandS.SetFor
import HandS.More
import KE.GoesZip
import KE.GoesMore
import HandS.ExcValue
import HandS.Strs
import HandS.SortInts
import HandS.ExcInit
import HandS.ExcField
import KE.KNestM
import KE.DataFind
import HandS.Conv
import KE.DatumOrd
import HandS.SortKw
import PyProof.StrBlock2
import HandS.Replace
import KE.SortData
import KE.KDictDisplayH
import HandS.SortOrd
import KE.KDictPairs
import KE.DataAny
import HandS.ListItems
import HandS.TupSets
import KE.KeyNested
import KE.KDictKeyed
import KE.KStateDown
import HandS.EndTab
import Lean
import HandS.Head0
import HandS.Head1
import HandS.Head2
import HandS.HeadEnd
import HandS.HeadHook2
import HandS.EndBits
import KE.GoesComp
import PySem.Challenge.RW_commonhouse_k74_names_looked_at
set_option Elab.async false
set_option linter.all false
set_option maxRecDepth 100000
set_option maxHeartbeats 2000000
set_option autoImplicit false
set_option exponentiation.threshold 2000
namespace Pu
open PySem PySem.Spec PyProof.Rows L2
/-! ### data, results, slots -/
abbrev D := PySem.PyData
structure Exn where
  name : Str
  flds : List (Str × D)
/-- an item of a deep object: data, or a list of one's own -/
inductive Im where
  | v (d : D) | l (ds : List D)
/-- a deep object: a list, a tuple, a dict of items -/
inductive Nt where
  | l (its : List Im) | u (its : List Im) | d (kvs : List (Key × Im))
def Nt.its : Nt → List Im
  | .l its => its
  | .u its => its
  | .d kvs => kvs.map (·.2)
def Im.data : Im → D
  | .v d => d
  | .l ds => .list ds
def Nt.data : Nt → Option D
  | .l its => some (.list (its.map Im.data))
  | .u its => some (.tuple (its.map Im.data))
  | .d _ => none
/-- what an owned object holds -/
inductive Ct where
  | l (ds : List D) | d (kvs : List (Key × D)) | t (kvs : List (List Key × D)) | n (t : Nt)
/-- what is handed back: data that nobody changes, or an object of one's own -/
inductive RV where
  | v (d : D) | o (c : Ct)
/-- a slot: not known, data, an owned object, an owned object of the caller's; a reference that is kept, of whose object nothing is said -/
inductive Sl where
  | unk | v (d : D) | o (c : Ct) | io (c : Ct) | pin
abbrev En := List Sl
inductive Re (α : Type) where
  | ok (a : α) (r : En) | ex (e : Exn) (r : En) | no
abbrev M (α : Type) := En → Re α
def Re.bind {α β : Type} (r : Re α) (f : α → M β) : Re β := match r with
  | .ok a r => f a r
  | .ex e r => .ex e r
  | .no => .no
def M.bind {α β : Type} (m : M α) (f : α → M β) : M β := fun r => (m r).bind f
def M.ret {α : Type} (a : α) : M α := fun r => .ok a r
def M.no {α : Type} : M α := fun _ => .no
def M.opt {α : Type} (o : Option α) : M α := fun r => match o with
  | some a => .ok a r
  | none => .no
@[simp] theorem Re.bind_ok {α β : Type} (a : α) (r : En) (f : α → M β) : (Re.ok a r).bind f = f a r := rfl
@[simp] theorem Re.bind_ex {α β : Type} (e : Exn) (r : En) (f : α → M β) : (Re.ex e r : Re α).bind f = .ex e r := rfl
@[simp] theorem Re.bind_no {α β : Type} (f : α → M β) : (Re.no : Re α).bind f = .no := rfl
@[simp] theorem M.bind_ap {α β : Type} (m : M α) (f : α → M β) (r : En) : m.bind f r = (m r).bind f := rfl
@[simp] theorem M.ret_ap {α : Type} (a : α) (r : En) : M.ret a r = .ok a r := rfl
@[simp] theorem M.no_ap {α : Type} (r : En) : (M.no : M α) r = .no := rfl
@[simp] theorem M.opt_some {α : Type} (a : α) (r : En) : M.opt (some a) r = .ok a r := rfl
@[simp] theorem M.opt_none {α : Type} (r : En) : (M.opt none : M α) r = .no := rfl
def Po {α : Type} (X : Exn → En → Prop) (r : Re α) (k : α → En → Prop) : Prop := match r with
  | .ok a r => k a r
  | .ex e r => X e r
  | .no => False
theorem Po.bind {α β : Type} {X : Exn → En → Prop} {r : Re α} {f : α → M β} {k : β → En → Prop} (h : Po X (r.bind f) k) : Po X r fun a r' => Po X (f a r') k := by
  cases r <;> exact h
theorem Po.mono {α : Type} {X X' : Exn → En → Prop} {r : Re α} {k k' : α → En → Prop} (h : Po X r k) (hX : ∀ e r, X e r → X' e r) (hk : ∀ a r, k a r → k' a r) : Po X' r k' := by
  cases r with
  | ok a r => exact hk _ _ h
  | ex e r => exact hX _ _ h
  | no => exact h
/-! ### heaps -/
/-- all stays; tables of code objects may grow -/
structure Ex (H H' : Hp) : Prop where
  at_ : ∀ a o, H a = some o → (∀ ps, o ≠ .tbl ps) → H' a = some o
  tb : ∀ a ps, H a = some (.tbl ps) → ∃ more, H' a = some (.tbl (ps ++ more))
theorem Ex.of {H H' : Hp} (h : ∀ a o, H a = some o → H' a = some o) : Ex H H' := ⟨fun a o e _ => h a o e, fun a ps e => ⟨#[], by rw [Array.append_empty]; exact h a _ e⟩⟩
theorem Ex.refl (H : Hp) : Ex H H := .of fun _ _ h => h
theorem Ex.trans {H H1 H2 : Hp} (a : Ex H H1) (b : Ex H1 H2) : Ex H H2 := ⟨fun x o h n => b.at_ x o (a.at_ x o h n) n, fun x ps h => by
  obtain ⟨m1, h1⟩ := a.tb x ps h
  obtain ⟨m2, h2⟩ := b.tb x _ h1
  exact ⟨m1 ++ m2, by rw [h2, Array.append_assoc]⟩⟩
theorem Ex.new {H : Hp} {p : Addr} {o : HO} (h : H p = none) : Ex H (upd H p o) := .of fun a u e => by
  rw [upd_ne (ne_of_none e h)]
  exact e
theorem Ex.some {H H' : Hp} {p : Addr} {o : HO} (e : Ex H H') (h : H p = some o) : ∃ o', H' p = some o' := by
  by_cases n : ∃ ps, o = .tbl ps
  · obtain ⟨ps, rfl⟩ := n
    obtain ⟨m, hm⟩ := e.tb p ps h
    exact ⟨_, hm⟩
  · exact ⟨o, e.at_ p o h fun ps z => n ⟨ps, z⟩⟩
theorem Ex.nn {H H' : Hp} {p : Addr} (e : Ex H H') (h : H' p = none) : H p = none := by
  cases h1 : H p with
  | none => rfl
  | some o =>
    obtain ⟨o', h2⟩ := e.some h1
    rw [h2] at h
    cases h
theorem Ex.mut {H H' : Hp} {p : Addr} {o : HO} (e : Ex H H') (h : H p = none) : Ex H (upd H' p o) := ⟨fun a u ha n => by
  rw [upd_ne (ne_of_none ha h)]
  exact e.at_ a u ha n, fun a ps ha => by
  rw [upd_ne (ne_of_none ha h)]
  exact e.tb a ps ha⟩
/-- the tables of code objects that are looked after -/
class TabT where
  T : PySem.W.Frag → List (Addr × Str)
theorem Ex.rd {H H' : Hp} {a : Addr} {u : HO} (e : Ex H H') (h : Rd H a u) (n : ∀ ps, u ≠ .tbl ps) : Rd H' a u := by
  rcases h with h | ⟨o, h⟩
  · exact Or.inl (e.at_ a _ h n)
  · exact Or.inr ⟨o, e.at_ a _ h fun ps z => nomatch z⟩
theorem Ex.l {K : PySem.W.Frag} {H H' : Hp} {a : Addr} {xs : List V} (e : Ex H H') (h : SqL K H a xs) : SqL K H' a xs := by
  rcases h with h | h
  · exact Or.inl (e.rd h fun ps z => nomatch z)
  · exact Or.inr h
theorem Ex.t {K : PySem.W.Frag} {H H' : Hp} {a : Addr} {xs : List V} (e : Ex H H') (h : SqT K H a xs) : SqT K H' a xs := by
  rcases h with h | h
  · exact Or.inl (e.rd h fun ps z => nomatch z)
  · exact Or.inr h
/-- an exception that was caught: its class, its dict -/
def CauO (cls : Value) (d : Option Addr) (a : Addr) : HO := .ext fun h => ∃ (oe : Obj) (vs : Array Value), h.get? a = some oe ∧ Zc cls d oe ∧ oe.data = .fields vs
theorem cau_ne {cls : Value} {d : Option Addr} {a : Addr} (ps : Array Value) : CauO cls d a ≠ .tbl ps := fun z => by
  unfold CauO at z
  cases z
/-- a tuple that is tracked -/
def SqU (H : Hp) (a : Addr) (xs : List V) : Prop := H a = some (.tup xs)
theorem SqU.s {K : PySem.W.Frag} {H : Hp} {a : Addr} {xs : List V} (h : SqU H a xs) : SqT K H a xs := .inl (.inl h)
instance {K : PySem.W.Frag} {H : Hp} {a : Addr} {xs : List V} : Coe (SqU H a xs) (SqT K H a xs) := ⟨SqU.s⟩
theorem Ex.u {H H' : Hp} {a : Addr} {xs : List V} (e : Ex H H') (h : SqU H a xs) : SqU H' a xs := e.at_ _ _ h fun ps z => nomatch z
def basicT : List String := ["int", "bool", "tuple", "list", "str", "dict"]
/-- the class nm of the program: isinstance asks its instances rightly -/
structure ExcK (K : PySem.W.Frag) (nm : Str) : Prop where
  c : ExcC K (He.ga K nm)
  t : ∀ T ∈ basicT, PySem.W.kitOne K (.ref (He.ga K nm)) (.type T) = some false
/-- a key as data -/
def kyD : Key → D
  | .inl i => .int i
  | .inr s => .str s
mutual
/-- v stands for the data d, by what is frozen -/
inductive Rp (K : PySem.W.Frag) (H : Hp) : V → D → Prop
  | non : Rp K H .non .none
  | bl (b : Bool) : Rp K H (.bl b) (.bool b)
  | int (i : Int) : Rp K H (.int i) (.int i)
  | str (x : Str) : Rp K H (.str x) (.str x)
  | lst {a : Addr} {xs : List V} {ds : List D} : SqL K H a xs → RpAll K H xs ds → Rp K H (.ref a) (.list ds)
  | tup {a : Addr} {xs : List V} {ds : List D} : SqU H a xs → RpAll K H xs ds → Rp K H (.ref a) (.tuple ds)
  | emp {a : Addr} : H a = some (.dK []) → Rp K H (.ref a) (.dict [])
  | exc0 {a : Addr} {nm : Str} : H a = some (CauO (.ref (He.ga K nm)) none a) → ExcK K nm → Rp K H (.ref a) (.dict [(.str nm, .none)])
  | excF {a dd : Addr} {nm : Str} {fs : List (Str × V)} {kv : List (D × D)} : H a = some (CauO (.ref (He.ga K nm)) (some dd) a) → H dd = some (.xd fs) → ExcK K nm → kv.map (·.1) = fs.map (fun p => PyData.str p.1) → RpAll K H (fs.map (·.2)) (kv.map (·.2)) → Rp K H (.ref a) (.dict ((.str nm, .none) :: kv))
  | dct {a : Addr} {es : List (List Key × V)} {kv : List (List Key × D)} {dd : List (D × D)} : H a = some (.dT es) → es.map (·.1) = kv.map (·.1) → RpAll K H (es.map (·.2)) (kv.map (·.2)) → kv ≠ [] → dd = kv.map (fun q => (PyData.tuple (q.1.map kyD), q.2)) → Rp K H (.ref a) (.dict dd)
  | fnv {nm : Str} : Rp K H (.ref (He.ga K nm)) (.dict [(.bool true, .str nm)])
  | dci {a : Addr} {od : Obj} {ks : List (Int × V)} {kv : List (Int × D)} {dd : List (D × D)} : H a = some (.frz od (.dK (ks.map fun p => ((Sum.inl p.1 : Key), p.2)))) → ks.map (·.1) = kv.map (·.1) → RpAll K H (ks.map (·.2)) (kv.map (·.2)) → kv ≠ [] → dd = kv.map (fun q => (PyData.int q.1, q.2)) → Rp K H (.ref a) (.dict dd)
inductive RpAll (K : PySem.W.Frag) (H : Hp) : List V → List D → Prop
  | nil : RpAll K H [] []
  | cons {v : V} {vs : List V} {d : D} {ds : List D} : Rp K H v d → RpAll K H vs ds → RpAll K H (v :: vs) (d :: ds)
end
mutual
theorem rp_dp0 {K : PySem.W.Frag} {H : Hp} : ∀ {v : V} {d : D}, Rp K H v d → d.hasDict = false → Dp K H v d
  | _, _, .non, _ => .non
  | _, _, .bl b, _ => .bl b
  | _, _, .int i, _ => .int i
  | _, _, .str x, _ => .str x
  | _, _, .lst h a, e => .lst h (rpa_dpa0 a (by simpa [PyData.hasDict] using e))
  | _, _, .tup h a, e => .tup h (rpa_dpa0 a (by simpa [PyData.hasDict] using e))
  | _, _, .emp _, e => by simp [PyData.hasDict] at e
  | _, _, .exc0 _ _, e => by simp [PyData.hasDict] at e
  | _, _, .excF _ _ _ _ _, e => by simp [PyData.hasDict] at e
  | _, _, .dci _ _ _ _ _, e => by simp [PyData.hasDict] at e
  | _, _, .fnv, e => by simp [PyData.hasDict] at e
  | _, _, .dct _ _ _ _ _, e => by simp [PyData.hasDict] at e
theorem rpa_dpa0 {K : PySem.W.Frag} {H : Hp} : ∀ {vs : List V} {ds : List D}, RpAll K H vs ds → PyData.hasDictAll ds = false → DpAll K H vs ds
  | _, _, .nil, _ => .nil
  | _, _, .cons h t, e => by
    simp only [PyData.hasDictAll, Bool.or_eq_false_iff] at e
    exact .cons (rp_dp0 h e.1) (rpa_dpa0 t e.2)
end
theorem rp_dp {K : PySem.W.Frag} {H : Hp} {v : V} {d : D} (h : Rp K H v d) (s : SeqAt.shaped d = true) : Dp K H v d := rp_dp0 h (PyData.hasDict_of_canLay d (SeqAt.canLay_of_shaped s))
mutual
theorem dp_mono {K : PySem.W.Frag} {H H' : Hp} (e : Ex H H') : ∀ {v : V} {d : D}, Rp K H v d → Rp K H' v d
  | _, _, .non => .non
  | _, _, .bl b => .bl b
  | _, _, .int i => .int i
  | _, _, .str x => .str x
  | _, _, .lst h a => .lst (e.l h) (dpa_mono e a)
  | _, _, .tup h a => .tup (e.u h) (dpa_mono e a)
  | _, _, .emp h => .emp (e.at_ _ _ h fun ps z => nomatch z)
  | _, _, .exc0 h x => .exc0 (e.at_ _ _ h cau_ne) x
  | _, _, .excF h h2 x y a => .excF (e.at_ _ _ h cau_ne) (e.at_ _ _ h2 fun ps z => nomatch z) x y (dpa_mono e a)
  | _, _, .dci h x a n w => .dci (e.at_ _ _ h fun ps z => nomatch z) x (dpa_mono e a) n w
  | _, _, .fnv => .fnv
  | _, _, .dct h x a n w => .dct (e.at_ _ _ h fun ps z => nomatch z) x (dpa_mono e a) n w
theorem dpa_mono {K : PySem.W.Frag} {H H' : Hp} (e : Ex H H') : ∀ {vs : List V} {ds : List D}, RpAll K H vs ds → RpAll K H' vs ds
  | _, _, .nil => .nil
  | _, _, .cons h t => .cons (dp_mono e h) (dpa_mono e t)
end
theorem dpa_len {K : PySem.W.Frag} {H : Hp} : ∀ {vs : List V} {ds : List D}, RpAll K H vs ds → vs.length = ds.length
  | _, _, .nil => rfl
  | _, _, .cons _ t => congrArg Nat.succ (dpa_len t)
theorem dpa_get {K : PySem.W.Frag} {H : Hp} : ∀ {vs : List V} {ds : List D} {i : Nat} {d : D}, RpAll K H vs ds → ds[i]? = some d → ∃ v, vs[i]? = some v ∧ Rp K H v d
  | _, _, _, _, .nil, e => by simp at e
  | _, _, 0, _, .cons h _, e => by
    simp at e
    subst e
    exact ⟨_, rfl, h⟩
  | _, _, i + 1, d, .cons _ t, e => by
    obtain ⟨v, h1, h2⟩ := dpa_get (i := i) (d := d) t (by simpa using e)
    exact ⟨v, by simpa using h1, h2⟩
theorem dpa_app {K : PySem.W.Frag} {H : Hp} : ∀ {vs ws : List V} {ds es : List D}, RpAll K H vs ds → RpAll K H ws es → RpAll K H (vs ++ ws) (ds ++ es)
  | _, _, _, _, .nil, h => h
  | _, _, _, _, .cons h t, q => .cons h (dpa_app t q)
theorem dpa_take {K : PySem.W.Frag} {H : Hp} : ∀ (n : Nat) {vs : List V} {ds : List D}, RpAll K H vs ds → RpAll K H (vs.take n) (ds.take n)
  | 0, _, _, _ => .nil
  | _ + 1, _, _, .nil => .nil
  | n + 1, _, _, .cons h t => .cons h (dpa_take n t)
theorem dpa_drop {K : PySem.W.Frag} {H : Hp} : ∀ (n : Nat) {vs : List V} {ds : List D}, RpAll K H vs ds → RpAll K H (vs.drop n) (ds.drop n)
  | 0, _, _, h => h
  | _ + 1, _, _, .nil => .nil
  | n + 1, _, _, .cons _ t => dpa_drop n t
theorem dpa_set {K : PySem.W.Frag} {H : Hp} {v : V} {d : D} (h : Rp K H v d) : ∀ (i : Nat) {vs : List V} {ds : List D}, RpAll K H vs ds → RpAll K H (vs.set i v) (ds.set i d)
  | _, _, _, .nil => .nil
  | 0, _, _, .cons _ t => .cons h t
  | i + 1, _, _, .cons q t => .cons q (dpa_set h i t)
theorem dpa_rev {K : PySem.W.Frag} {H : Hp} : ∀ {vs : List V} {ds : List D}, RpAll K H vs ds → RpAll K H vs.reverse ds.reverse
  | _, _, .nil => .nil
  | _, _, .cons h t => by
    rw [List.reverse_cons, List.reverse_cons]
    exact dpa_app (dpa_rev t) (.cons h .nil)
theorem dpa_erase {K : PySem.W.Frag} {H : Hp} : ∀ (i : Nat) {vs : List V} {ds : List D}, RpAll K H vs ds → RpAll K H (vs.eraseIdx i) (ds.eraseIdx i)
  | _, _, _, .nil => .nil
  | 0, _, _, .cons _ t => t
  | i + 1, _, _, .cons q t => .cons q (dpa_erase i t)
theorem dpa_rep {K : PySem.W.Frag} {H : Hp} {vs : List V} {ds : List D} (h : RpAll K H vs ds) : ∀ n : Nat, RpAll K H (List.replicate n vs).flatten (List.replicate n ds).flatten
  | 0 => .nil
  | n + 1 => by
    rw [List.replicate_succ, List.replicate_succ, List.flatten_cons, List.flatten_cons]
    exact dpa_app h (dpa_rep h n)
theorem dpa_ints {K : PySem.W.Frag} {H : Hp} : ∀ (ns : List Int), RpAll K H (ns.map V.int) (ns.map PyData.int)
  | [] => .nil
  | n :: ns => .cons (.int n) (dpa_ints ns)
/-- the pairs of a dict -/
inductive KvAll (K : PySem.W.Frag) (F : Hp) {κ : Type} : List (κ × V) → List (κ × D) → Prop
  | nil : KvAll K F [] []
  | cons {k : κ} {v : V} {d : D} {ks : List (κ × V)} {kvs : List (κ × D)} : Rp K F v d → KvAll K F ks kvs → KvAll K F ((k, v) :: ks) ((k, d) :: kvs)
theorem KvAll.mono {K : PySem.W.Frag} {F F' : Hp} {κ : Type} (e : Ex F F') : ∀ {ks : List (κ × V)} {kvs : List (κ × D)}, KvAll K F ks kvs → KvAll K F' ks kvs
  | _, _, .nil => .nil
  | _, _, .cons h t => .cons (dp_mono e h) (KvAll.mono e t)
/-- the values within an object -/
def valsO : Option HO → Option (List V)
  | some (.lst vs) => some vs
  | some (.tup vs) => some vs
  | some (.dK ks) => some (ks.map (·.2))
  | _ => none
/-- b is the inner list at place i of the object at a -/
def InnAt (H : Hp) (a : Addr) (c : Ct) (i : Nat) (b : Addr) : Prop := match c with
  | .n t => ∃ vs ds, valsO (H a) = some vs ∧ vs[i]? = some (.ref b) ∧ t.its[i]? = some (.l ds)
  | _ => False
def Inn (H : Hp) (a : Addr) (c : Ct) (b : Addr) : Prop := ∃ i, InnAt H a c i b
theorem Inn.cg {H H' : Hp} {a b : Addr} {c : Ct} (h : Inn H a c b) (e : H' a = H a) : Inn H' a c b := by
  obtain ⟨i, h⟩ := h
  refine ⟨i, ?_⟩
  cases c with
  | n t =>
    obtain ⟨vs, ds, h1, h2, h3⟩ := h
    exact ⟨vs, ds, by rw [e]; exact h1, h2, h3⟩
  | _ => exact h
theorem inn_l {H : Hp} {a b : Addr} {ds : List D} : ¬ Inn H a (.l ds) b := fun ⟨_, h⟩ => h
theorem inn_d {H : Hp} {a b : Addr} {ds : List (Key × D)} : ¬ Inn H a (.d ds) b := fun ⟨_, h⟩ => h
theorem inn_t {H : Hp} {a b : Addr} {ds : List (List Key × D)} : ¬ Inn H a (.t ds) b := fun ⟨_, h⟩ => h
/-- v stands for the item -/
def ItOk (K : PySem.W.Frag) (F H : Hp) (v : V) : Im → Prop
  | .v d => Rp K F v d
  | .l ds => ∃ b vs, v = .ref b ∧ H b = some (.lst vs) ∧ RpAll K F vs ds
inductive ItAll (K : PySem.W.Frag) (F H : Hp) : List V → List Im → Prop
  | nil : ItAll K F H [] []
  | cons {v : V} {vs : List V} {i : Im} {is : List Im} : ItOk K F H v i → ItAll K F H vs is → ItAll K F H (v :: vs) (i :: is)
theorem ItAll.len {K : PySem.W.Frag} {F H : Hp} : ∀ {vs : List V} {is : List Im}, ItAll K F H vs is → vs.length = is.length
  | _, _, .nil => rfl
  | _, _, .cons _ t => congrArg Nat.succ t.len
theorem ItAll.get {K : PySem.W.Frag} {F H : Hp} : ∀ {vs : List V} {is : List Im} {j : Nat} {i : Im}, ItAll K F H vs is → is[j]? = some i → ∃ v, vs[j]? = some v ∧ ItOk K F H v i
  | _, _, _, _, .nil, e => by simp at e
  | _, _, 0, _, .cons h _, e => by
    simp at e
    subst e
    exact ⟨_, rfl, h⟩
  | _, _, j + 1, i, .cons _ t, e => by
    obtain ⟨v, h1, h2⟩ := ItAll.get (j := j) (i := i) t (by simpa using e)
    exact ⟨v, by simpa using h1, h2⟩
theorem ItAll.mono {K : PySem.W.Frag} {F F' H H' : Hp} (e : Ex F F') : ∀ {vs : List V} {is : List Im}, ItAll K F H vs is → (∀ (j : Nat) (b : Addr) (ds : List D), vs[j]? = some (.ref b) → is[j]? = some (.l ds) → H' b = H b) → ItAll K F' H' vs is
  | _, _, .nil, _ => .nil
  | _, _, @ItAll.cons _ _ _ v vs i is h t, q => by
    refine .cons ?_ (ItAll.mono e t fun j b ds h1 h2 => q (j + 1) b ds (by simpa using h1) (by simpa using h2))
    cases i with
    | v d => exact dp_mono e h
    | l ds =>
      obtain ⟨b, ws, rfl, h1, h2⟩ := h
      exact ⟨b, ws, rfl, (q 0 b ds rfl rfl).trans h1, dpa_mono e h2⟩
/-- the object at a is the deep one, its values vs -/
def NtAt (H : Hp) (a : Addr) (vs : List V) : Nt → Prop
  | .l _ => H a = some (.lst vs)
  | .u _ => H a = some (.tup vs)
  | .d kvs => ∃ ks, H a = some (.dK ks) ∧ ks.map (·.1) = kvs.map (·.1) ∧ vs = ks.map (·.2)
theorem NtAt.vals {H : Hp} {a : Addr} {vs : List V} {t : Nt} (h : NtAt H a vs t) : valsO (H a) = some vs := by
  cases t with
  | l is => have h : H a = some (.lst vs) := h; rw [h]; rfl
  | u is => have h : H a = some (.tup vs) := h; rw [h]; rfl
  | d kvs =>
    obtain ⟨ks, h1, _, rfl⟩ := h
    rw [h1]; rfl
/-- the object at a holds c -/
def CtOk (K : PySem.W.Frag) (F H : Hp) (a : Addr) : Ct → Prop
  | .l ds => ∃ vs, H a = some (.lst vs) ∧ RpAll K F vs ds
  | .d kvs => ∃ ks, H a = some (.dK ks) ∧ KvAll K F ks kvs
  | .t kvs => ∃ ks, H a = some (.dT ks) ∧ KvAll K F ks kvs
  | .n t => ∃ vs, NtAt H a vs t ∧ ItAll K F H vs t.its ∧ ∀ (i j : Nat) (b : Addr), i ≠ j → InnAt H a (.n t) i b → InnAt H a (.n t) j b → False
/-- an inner list is there -/
theorem CtOk.innl {K : PySem.W.Frag} {F H : Hp} {a : Addr} {c : Ct} (h : CtOk K F H a c) {i : Nat} {b : Addr} (n : InnAt H a c i b) : ∃ ws, H b = some (.lst ws) := by
  cases c with
  | n t =>
    obtain ⟨vs, h1, h2, h3⟩ := h
    obtain ⟨us, ds, g1, g2, g3⟩ := n
    rw [h1.vals] at g1
    cases g1
    obtain ⟨w, w1, b', ws, rfl, w2, w3⟩ := h2.get g3
    rw [g2] at w1
    cases w1
    exact ⟨ws, w2⟩
  | _ => exact n.elim
theorem CtOk.inn {K : PySem.W.Frag} {F H : Hp} {a : Addr} {c : Ct} (h : CtOk K F H a c) {b : Addr} (n : Inn H a c b) : ∃ ws, H b = some (.lst ws) := h.innl n.choose_spec
theorem CtOk.mono {K : PySem.W.Frag} {F F' H H' : Hp} {a : Addr} {c : Ct} (h : CtOk K F H a c) (e : Ex F F') (eH : H' a = H a) (eI : ∀ b, Inn H a c b → H' b = H b) : CtOk K F' H' a c := by
  cases c with
  | n t =>
    obtain ⟨vs, h1, h2, h3⟩ := h
    refine ⟨vs, ?_, h2.mono e fun j b ds g1 g2 => eI b ⟨j, vs, ds, h1.vals, g1, g2⟩, fun i j b ne g1 g2 => h3 i j b ne ?_ ?_⟩
    · cases t with
      | l is => exact eH.trans h1
      | u is => exact eH.trans h1
      | d kvs =>
        obtain ⟨ks, z1, z2, z3⟩ := h1
        exact ⟨ks, eH.trans z1, z2, z3⟩
    · obtain ⟨us, ds, x1, x2, x3⟩ := g1
      exact ⟨us, ds, by rw [← eH]; exact x1, x2, x3⟩
    · obtain ⟨us, ds, x1, x2, x3⟩ := g2
      exact ⟨us, ds, by rw [← eH]; exact x1, x2, x3⟩
  | l ds =>
    obtain ⟨vs, h1, h2⟩ := h
    exact ⟨vs, eH.trans h1, dpa_mono e h2⟩
  | d kvs =>
    obtain ⟨ks, h1, h2⟩ := h
    exact ⟨ks, eH.trans h1, KvAll.mono e h2⟩
  | t kvs =>
    obtain ⟨ks, h1, h2⟩ := h
    exact ⟨ks, eH.trans h1, KvAll.mono e h2⟩
theorem CtOk.there' {K : PySem.W.Frag} {F H : Hp} {a : Addr} {c : Ct} (h : CtOk K F H a c) : ∃ o, H a = some o ∧ ∀ ps, o ≠ .tbl ps := by
  cases c with
  | n t =>
    obtain ⟨vs, h1, h2⟩ := h
    cases t with
    | l is => exact ⟨_, h1, fun ps z => nomatch z⟩
    | u is => exact ⟨_, h1, fun ps z => nomatch z⟩
    | d kvs =>
      obtain ⟨ks, z1, _⟩ := h1
      exact ⟨_, z1, fun ps z => nomatch z⟩
  | l ds =>
    obtain ⟨vs, h1, h2⟩ := h
    exact ⟨_, h1, fun ps z => nomatch z⟩
  | d kvs =>
    obtain ⟨ks, h1, h2⟩ := h
    exact ⟨_, h1, fun ps z => nomatch z⟩
  | t kvs =>
    obtain ⟨ks, h1, h2⟩ := h
    exact ⟨_, h1, fun ps z => nomatch z⟩
theorem CtOk.there {K : PySem.W.Frag} {F H : Hp} {a : Addr} {c : Ct} (h : CtOk K F H a c) : ∃ o, H a = some o := by
  obtain ⟨o, h1, _⟩ := h.there'
  exact ⟨o, h1⟩
theorem tabs_upd {T : List (Addr × Str)} {H : Hp} {a : Addr} {o u : HO} (t : LamX.Tabs T H) (h1 : H a = some u) (n1 : ∀ ps, u ≠ .tbl ps) (n2 : ∀ c q, u ≠ LamX.CodeO c q) : LamX.Tabs T (upd H a o) := by
  intro p hp
  obtain ⟨ps, e1, e2, e3⟩ := t p hp
  refine ⟨ps, ?_, e2, fun pos cv hcv => ?_⟩
  · rw [upd_ne fun z => n1 ps (by rw [z, h1] at e1; exact Option.some.inj e1)]
    exact e1
  · obtain ⟨c, g1, g2⟩ := e3 pos cv hcv
    refine ⟨c, g1, ?_⟩
    rw [upd_ne fun z => n2 c p.2 (by rw [z, h1] at g2; rw [z]; exact Option.some.inj g2)]
    exact g2
theorem tabs_lst {T : List (Addr × Str)} {H : Hp} {a : Addr} {o : HO} {vs : List V} (t : LamX.Tabs T H) (h : H a = some (.lst vs)) : LamX.Tabs T (upd H a o) := tabs_upd t h (fun ps z => nomatch z) (fun c q z => by unfold LamX.CodeO at z; cases z)
theorem tabs_new {T : List (Addr × Str)} {H : Hp} {a : Addr} {o : HO} (t : LamX.Tabs T H) (h : H a = none) : LamX.Tabs T (upd H a o) := t.ext fun b u e => by rw [upd_ne (ne_of_none e h)]; exact e
theorem tabs_put {T : List (Addr × Str)} {K : PySem.W.Frag} {F H : Hp} {a : Addr} {c : Ct} {o : HO} (t : LamX.Tabs T H) (h : CtOk K F H a c) : LamX.Tabs T (upd H a o) := by
  have key : ∃ u, H a = some u ∧ (∀ ps, u ≠ .tbl ps) ∧ ∀ c q, u ≠ LamX.CodeO c q := by
    cases c with
    | n t =>
      obtain ⟨vs, h1, h2⟩ := h
      cases t with
      | l is => exact ⟨_, h1, (fun ps z => nomatch z), (fun c q z => by unfold LamX.CodeO at z; cases z)⟩
      | u is => exact ⟨_, h1, (fun ps z => nomatch z), (fun c q z => by unfold LamX.CodeO at z; cases z)⟩
      | d kvs =>
        obtain ⟨ks, z1, _⟩ := h1
        exact ⟨_, z1, (fun ps z => nomatch z), (fun c q z => by unfold LamX.CodeO at z; cases z)⟩
    | l ds =>
      obtain ⟨vs, h1, h2⟩ := h
      exact ⟨_, h1, ⟨(fun ps z => nomatch z), (fun c q z => by unfold LamX.CodeO at z; cases z)⟩⟩
    | d kvs =>
      obtain ⟨ks, h1, h2⟩ := h
      exact ⟨_, h1, ⟨(fun ps z => nomatch z), (fun c q z => by unfold LamX.CodeO at z; cases z)⟩⟩
    | t kvs =>
      obtain ⟨ks, h1, h2⟩ := h
      exact ⟨_, h1, ⟨(fun ps z => nomatch z), (fun c q z => by unfold LamX.CodeO at z; cases z)⟩⟩
  obtain ⟨u, h1, n1, n2⟩ := key
  intro p hp
  obtain ⟨ps, e1, e2, e3⟩ := t p hp
  refine ⟨ps, ?_, e2, fun pos cv hcv => ?_⟩
  · rw [upd_ne fun z => n1 ps (by rw [z, h1] at e1; exact Option.some.inj e1)]
    exact e1
  · obtain ⟨c, g1, g2⟩ := e3 pos cv hcv
    refine ⟨c, g1, ?_⟩
    rw [upd_ne fun z => n2 c p.2 (by rw [z, h1] at g2; rw [z]; exact Option.some.inj g2)]
    exact g2
/-- the owned object of a slot -/
def Sl.own : Sl → Option Ct
  | .o c => some c
  | .io c => some c
  | _ => none
def SlOk (K : PySem.W.Frag) (pa : Addr) (H0 F H : Hp) (v : V) : Sl → Prop
  | .unk => True
  | .v d => Rp K F v d
  | .o c => ∃ a, v = .ref a ∧ F a = none ∧ H0 a = none ∧ CtOk K F H a c
  | .io c => v = .ref pa ∧ F pa = none ∧ H0 pa = none ∧ CtOk K F H pa c
  | .pin => v = .ref pa
theorem SlOk.owned {K : PySem.W.Frag} {pa : Addr} {H0 F H : Hp} {v : V} {s : Sl} {c : Ct} (h : SlOk K pa H0 F H v s) (e : s.own = some c) : ∃ a, v = .ref a ∧ F a = none ∧ H0 a = none ∧ CtOk K F H a c := by
  cases s with
  | unk => cases e
  | pin => cases e
  | v d => cases e
  | o c' => cases e; exact h
  | io c' => cases e; exact ⟨pa, h⟩
/-- p is no slot's object, nor within one -/
def Nob (H : Hp) (st : L2.St) (r : En) (p : Addr) : Prop := ∀ (i : Nat) (s : Sl) (c : Ct) (a : Addr), r[i]? = some s → s.own = some c → st[i]? = some (some (.ref a)) → a ≠ p ∧ ¬ Inn H a c p
variable [TabT]
/-- THE STATE: what must stand as it was (H0), what was frozen at the start (F0), what is frozen by now (F), the heap, the slots -/
structure Ok (K : PySem.W.Frag) (pa : Nat → Addr) (H0 F0 F H : Hp) (st : L2.St) (r : En) : Prop where
  hH : Ex H0 H
  fF : Ex F0 F
  fH : Ex F H
  sep : ∀ a, H0 a ≠ none → F a ≠ none → F0 a ≠ none
  len : st.length = r.length
  sl : ∀ (i : Nat) (s : Sl), r[i]? = some s → s ≠ .unk → ∃ v, st[i]? = some (some v) ∧ SlOk K (pa i) H0 F H v s
  tb : LamX.Tabs (TabT.T K) H
  dis : ∀ (i j : Nat) (s q : Sl) (c c' : Ct) (a : Addr), i ≠ j → r[i]? = some s → r[j]? = some q → s.own = some c → q.own = some c' → st[i]? = some (some (.ref a)) → st[j]? = some (some (.ref a)) → False
  inn : ∀ (i : Nat) (s : Sl) (c : Ct) (a b : Addr), r[i]? = some s → s.own = some c → st[i]? = some (some (.ref a)) → Inn H a c b → F b = none ∧ H0 b = none ∧ ∀ (j : Nat) (q : Sl) (c' : Ct) (a' : Addr), r[j]? = some q → q.own = some c' → st[j]? = some (some (.ref a')) → a' ≠ b ∧ (j ≠ i → ¬ Inn H a' c' b)
section
variable {K : PySem.W.Frag} {pa : Nat → Addr} {H0 F0 F H F' H' : Hp} {st : L2.St} {r : En}
theorem ne_none {α : Type} {o : Option α} {a : α} (h : o = some a) : o ≠ none := by
  rw [h]
  exact fun z => nomatch z
theorem none_of_not {α : Type} {o : Option α} (h : ¬ o ≠ none) : o = none := by
  cases o with
  | none => rfl
  | some a => exact absurd (ne_none rfl) h
/-- new objects only, some of them frozen -/
theorem Ok.grow (k : Ok K pa H0 F0 F H st r) (eH : Ex H H') (eF : Ex F F') (fh : Ex F' H') (new : ∀ a, F' a ≠ none → H a ≠ none → F a ≠ none) (tb : LamX.Tabs (TabT.T K) H') : Ok K pa H0 F0 F' H' st r where
  hH := k.hH.trans eH
  fF := k.fF.trans eF
  fH := fh
  sep := fun a h1 h2 => k.sep a h1 (new a h2 (by
    cases q : H0 a with
    | none => exact absurd q h1
    | some o =>
      obtain ⟨o', q'⟩ := k.hH.some q
      exact ne_none q'))
  len := k.len
  sl := fun i s h n => by
    obtain ⟨v, h1, h2⟩ := k.sl i s h n
    refine ⟨v, h1, ?_⟩
    have own : ∀ a c, F a = none → CtOk K F H a c → F' a = none ∧ CtOk K F' H' a c := fun a c hf hc => by
      obtain ⟨o, ho, hnt⟩ := hc.there'
      refine ⟨none_of_not fun z => new a z (ne_none ho) hf, hc.mono eF ((eH.at_ a o ho hnt).trans ho.symm) fun b hb => ?_⟩
      obtain ⟨ws, hw⟩ := hc.inn hb
      exact (eH.at_ b _ hw fun ps z => nomatch z).trans hw.symm
    cases s with
    | unk => trivial
    | pin => exact h2
    | v d => exact dp_mono eF h2
    | o c =>
      obtain ⟨a, e1, e2, e3, e4⟩ := h2
      obtain ⟨z1, z2⟩ := own a c e2 e4
      exact ⟨a, e1, z1, e3, z2⟩
    | io c =>
      obtain ⟨e1, e2, e3, e4⟩ := h2
      obtain ⟨z1, z2⟩ := own _ c e2 e4
      exact ⟨e1, z1, e3, z2⟩
  tb := tb
  dis := k.dis
  inn := fun i s c a b h1 h2 h3 h4 => by
    have own : ∀ (j : Nat) (q : Sl) (c' : Ct) (a' : Addr), r[j]? = some q → q.own = some c' → st[j]? = some (some (.ref a')) → H' a' = H a' ∧ CtOk K F H a' c' := fun j q c' a' g1 g2 g3 => by
      obtain ⟨v, w1, w2⟩ := k.sl j q g1 (by
        intro z
        subst z
        cases g2)
      obtain ⟨a2, z1, z2, z3, z4⟩ := w2.owned g2
      rw [g3] at w1
      cases w1
      cases z1
      obtain ⟨o, ho, hnt⟩ := z4.there'
      exact ⟨(eH.at_ _ o ho hnt).trans ho.symm, z4⟩
    obtain ⟨e1, ok1⟩ := own i s c a h1 h2 h3
    have h5 : Inn H a c b := h4.cg e1.symm
    obtain ⟨f1, f2, f3⟩ := k.inn i s c a b h1 h2 h3 h5
    obtain ⟨ws, hw⟩ := ok1.inn h5
    refine ⟨none_of_not fun z => new b z (ne_none hw) f1, f2, fun j q c' a' g1 g2 g3 => ?_⟩
    obtain ⟨y1, y2⟩ := f3 j q c' a' g1 g2 g3
    exact ⟨y1, fun nj n => y2 nj (n.cg (own j q c' a' g1 g2 g3).1.symm)⟩
/-- a new tracked object that nobody freezes -/
theorem Ok.lay (k : Ok K pa H0 F0 F H st r) {p : Addr} {o : HO} (n : H p = none) : Ok K pa H0 F0 F (upd H p o) st r :=
  k.grow (Ex.new n) (Ex.refl F) (k.fH.mut (k.fH.nn n)) (fun _ h _ => h) (k.tb.ext fun a u e => by rw [upd_ne (ne_of_none e n)]; exact e)
/-- a new object, frozen at once -/
theorem Ok.layF (k : Ok K pa H0 F0 F H st r) {p : Addr} {o : HO} (n : H p = none) : Ok K pa H0 F0 (upd F p o) (upd H p o) st r := by
  have nF := k.fH.nn n
  refine k.grow (Ex.new n) (Ex.new nF) ⟨fun a u e nt => ?_, fun a ps e => ?_⟩ (fun a h1 h2 => ?_) (k.tb.ext fun a u e => by rw [upd_ne (ne_of_none e n)]; exact e)
  · by_cases ha : a = p
    · subst ha
      rw [upd_same] at e ⊢
      exact e
    · rw [upd_ne ha] at e ⊢
      exact k.fH.at_ a u e nt
  · by_cases ha : a = p
    · subst ha
      rw [upd_same] at e ⊢
      exact ⟨#[], by rw [Array.append_empty]; exact e⟩
    · rw [upd_ne ha] at e ⊢
      exact k.fH.tb a ps e
  · by_cases ha : a = p
    · subst ha
      exact absurd n h2
    · rw [upd_ne ha] at h1
      exact h1
/-- a tracked object that is nobody's is frozen -/
theorem Ok.frz (k : Ok K pa H0 F0 F H st r) {p : Addr} {o : HO} (h : H p = some o) (n0 : H0 p = none) (nO : Nob H st r p) (nF : F p = none) : Ok K pa H0 F0 (upd F p o) H st r where
  hH := k.hH
  fF := k.fF.trans (Ex.new nF)
  fH := ⟨fun a u e nt => by
    by_cases ha : a = p
    · subst ha
      rw [upd_same] at e
      rw [h]
      exact e
    · rw [upd_ne ha] at e
      exact k.fH.at_ a u e nt, fun a ps e => by
    by_cases ha : a = p
    · subst ha
      rw [upd_same] at e
      rw [h]
      exact ⟨#[], by rw [Array.append_empty]; exact e⟩
    · rw [upd_ne ha] at e
      exact k.fH.tb a ps e⟩
  sep := fun a h1 h2 => by
    by_cases ha : a = p
    · subst ha
      exact absurd n0 h1
    · rw [upd_ne ha] at h2
      exact k.sep a h1 h2
  len := k.len
  sl := fun i s h1 n => by
    obtain ⟨v, h2, h3⟩ := k.sl i s h1 n
    refine ⟨v, h2, ?_⟩
    cases s with
    | unk => trivial
    | pin => exact h3
    | v d => exact dp_mono (Ex.new nF) h3
    | o c =>
      obtain ⟨a, e1, e2, e3, e4⟩ := h3
      have ne : a ≠ p := (nO i _ c a h1 rfl (by rw [h2, e1])).1
      exact ⟨a, e1, by rw [upd_ne ne]; exact e2, e3, e4.mono (Ex.new nF) rfl fun _ _ => rfl⟩
    | io c =>
      obtain ⟨e1, e2, e3, e4⟩ := h3
      have ne : pa i ≠ p := (nO i _ c _ h1 rfl (by rw [h2, e1])).1
      exact ⟨e1, by rw [upd_ne ne]; exact e2, e3, e4.mono (Ex.new nF) rfl fun _ _ => rfl⟩
  tb := k.tb
  dis := k.dis
  inn := fun i s c a b h1 h2 h3 h4 => by
    obtain ⟨f1, f2, f3⟩ := k.inn i s c a b h1 h2 h3 h4
    have ne : b ≠ p := fun z => (nO i s c a h1 h2 h3).2 (z ▸ h4)
    exact ⟨by rw [upd_ne ne]; exact f1, f2, f3⟩
/-- a new address is nobody's -/
theorem Ok.nobody (k : Ok K pa H0 F0 F H st r) {p : Addr} (n : H p = none) : Nob H st r p := fun i s c a h1 h2 h3 => by
  obtain ⟨v, e1, e2⟩ := k.sl i s h1 (by
    intro z
    subst z
    cases h2)
  obtain ⟨a', z1, _, _, z4⟩ := e2.owned h2
  rw [h3] at e1
  cases e1
  cases z1
  refine ⟨fun z => ?_, fun z => ?_⟩
  · subst z
    obtain ⟨o, ho⟩ := z4.there
    rw [n] at ho
    cases ho
  · obtain ⟨ws, hw⟩ := z4.inn z
    rw [n] at hw
    cases hw
/-- another frame to be kept -/
theorem Ok.frame (k : Ok K pa H0 F0 F H st r) {H0' : Hp} (h1 : Ex H0' H) (h2 : ∀ a, H0' a ≠ none → F a ≠ none → F0 a ≠ none) (h3 : ∀ (i : Nat) (s : Sl) (c : Ct) (a : Addr), r[i]? = some s → s.own = some c → st[i]? = some (some (.ref a)) → H0' a = none ∧ ∀ b, Inn H a c b → H0' b = none) : Ok K pa H0' F0 F H st r where
  hH := h1
  fF := k.fF
  fH := k.fH
  sep := h2
  len := k.len
  sl := fun i s e n => by
    obtain ⟨v, e1, e2⟩ := k.sl i s e n
    refine ⟨v, e1, ?_⟩
    cases s with
    | unk => trivial
    | pin => exact e2
    | v d => exact e2
    | o c =>
      obtain ⟨a, z1, z2, z3, z4⟩ := e2
      exact ⟨a, z1, z2, (h3 i _ c a e rfl (by rw [e1, z1])).1, z4⟩
    | io c =>
      obtain ⟨z1, z2, z3, z4⟩ := e2
      exact ⟨z1, z2, (h3 i _ c (pa i) e rfl (by rw [e1, z1])).1, z4⟩
  tb := k.tb
  dis := k.dis
  inn := fun i s c a b g1 g2 g3 g4 => by
    obtain ⟨f1, f2, f3⟩ := k.inn i s c a b g1 g2 g3 g4
    exact ⟨f1, (h3 i s c a g1 g2 g3).2 b g4, f3⟩
end
end Pu
namespace Pu
open PySem PySem.Spec PyProof.Rows L2
variable [TabT]
/-! ### slots changed -/
def Sl.isIo : Sl → Bool
  | .io _ => true
  | .pin => true
  | _ => false
def Sl.put (c : Ct) : Sl → Sl
  | .io _ => .io c
  | _ => .o c
section
variable {K : PySem.W.Frag} {pa : Nat → Addr} {H0 F0 F H F' H' : Hp} {st : L2.St} {r : En}
theorem Ok.lookup (k : Ok K pa H0 F0 F H st r) {i : Nat} {s : Sl} (h : r[i]? = some s) (n : s ≠ .unk) : ∃ v, st[i]? = some (some v) ∧ SlOk K (pa i) H0 F H v s := k.sl i s h n
theorem Ok.val (k : Ok K pa H0 F0 F H st r) {i : Nat} {d : D} (h : r[i]? = some (.v d)) : ∃ v, st[i]? = some (some v) ∧ Rp K F v d := k.sl i _ h (fun z => nomatch z)
theorem Ok.ownd (k : Ok K pa H0 F0 F H st r) {i : Nat} {s : Sl} {c : Ct} (h : r[i]? = some s) (hc : s.own = some c) : ∃ a, st[i]? = some (some (.ref a)) ∧ F a = none ∧ H0 a = none ∧ CtOk K F H a c := by
  obtain ⟨v, e1, e2⟩ := k.sl i s h (by
    intro z
    subst z
    cases hc)
  obtain ⟨a, rfl, z⟩ := e2.owned hc
  exact ⟨a, e1, z⟩
/-- the object at a, with what is within it, is no slot's -/
def Away (H0 F H : Hp) (st : L2.St) (r : En) (a : Addr) (c : Ct) : Prop := Nob H st r a ∧ ∀ b, Inn H a c b → F b = none ∧ H0 b = none ∧ a ≠ b ∧ Nob H st r b
omit [TabT] in
theorem Away.l {a : Addr} {ds : List D} (h : Nob H st r a) : Away H0 F H st r a (.l ds) := ⟨h, fun _ z => (inn_l z).elim⟩
omit [TabT] in
theorem Away.d {a : Addr} {ds : List (Key × D)} (h : Nob H st r a) : Away H0 F H st r a (.d ds) := ⟨h, fun _ z => (inn_d z).elim⟩
omit [TabT] in
theorem Away.t {a : Addr} {ds : List (List Key × D)} (h : Nob H st r a) : Away H0 F H st r a (.t ds) := ⟨h, fun _ z => (inn_t z).elim⟩
omit [TabT] in
theorem Nob.cg {a : Addr} (h : Nob H st r a) (e : ∀ (i : Nat) (s : Sl) (c : Ct) (b : Addr), r[i]? = some s → s.own = some c → st[i]? = some (some (.ref b)) → H' b = H b) : Nob H' st r a := fun i s c b h1 h2 h3 => by
  obtain ⟨g1, g2⟩ := h i s c b h1 h2 h3
  exact ⟨g1, fun n => g2 (n.cg (e i s c b h1 h2 h3).symm)⟩
omit [TabT] in
theorem Nob.upd {a : Addr} {o : HO} (h : Nob H st r a) : Nob (upd H a o) st r a := h.cg fun i s c b h1 h2 h3 => upd_ne (h i s c b h1 h2 h3).1
omit [TabT] in
/-- fewer slots -/
theorem Nob.unk {a : Addr} (h : Nob H st r a) {i : Nat} {x : Option V} : Nob H (st.set i x) (r.set i .unk) a := fun j s c b hj hc hst => by
  by_cases e : i = j
  · subst e
    rw [List.getElem?_set_self'] at hj
    cases hr : r[i]? with
    | none =>
      rw [hr] at hj
      cases hj
    | some z =>
      rw [hr] at hj
      cases hj
      cases hc
  · rw [List.getElem?_set_ne e] at hj hst
    exact h j s c b hj hc hst
/-- a slot is stored -/
theorem Ok.set (k : Ok K pa H0 F0 F H st r) {i : Nat} {v : V} {s : Sl} (hi : ∀ q, r[i]? = some q → q.isIo = false) (hs : s.isIo = false) (ok : SlOk K (pa i) H0 F H v s)
    (hd : ∀ (a : Addr) (c : Ct), s.own = some c → v = .ref a → Away H0 F H (st.set i none) (r.set i .unk) a c) : Ok K pa H0 F0 F H (st.set i (some v)) (r.set i s) where
  hH := k.hH
  fF := k.fF
  fH := k.fH
  sep := k.sep
  len := by rw [List.length_set, List.length_set, k.len]
  sl := fun j q h n => by
    by_cases e : i = j
    · subst e
      rw [List.getElem?_set_self'] at h
      by_cases hl : i < r.length
      · rw [List.getElem?_eq_getElem hl] at h
        cases h
        refine ⟨v, ?_, ok⟩
        rw [List.getElem?_set_self (by rw [k.len]; exact hl)]
      · rw [List.getElem?_eq_none (by omega)] at h
        cases h
    · rw [List.getElem?_set_ne e] at h
      obtain ⟨w, z1, z2⟩ := k.sl j q h n
      exact ⟨w, by rw [List.getElem?_set_ne e]; exact z1, z2⟩
  tb := k.tb
  dis := fun j1 j2 q1 q2 c1 c2 a ne h1 h2 o1 o2 s1 s2 => by
    by_cases e1 : i = j1
    · subst e1
      have e2 : i ≠ j2 := ne
      rw [List.getElem?_set_ne e2] at h2 s2
      rw [List.getElem?_set_self'] at h1 s1
      by_cases hl : i < r.length
      · rw [List.getElem?_eq_getElem hl] at h1
        rw [List.getElem?_eq_getElem (by rw [k.len]; exact hl)] at s1
        cases h1
        cases s1
        exact ((hd a c1 o1 rfl).1 j2 q2 c2 a (by rw [List.getElem?_set_ne e2]; exact h2) o2 (by rw [List.getElem?_set_ne e2]; exact s2)).1 rfl
      · rw [List.getElem?_eq_none (by omega)] at h1
        cases h1
    · rw [List.getElem?_set_ne e1] at h1 s1
      by_cases e2 : i = j2
      · subst e2
        rw [List.getElem?_set_self'] at h2 s2
        by_cases hl : i < r.length
        · rw [List.getElem?_eq_getElem hl] at h2
          rw [List.getElem?_eq_getElem (by rw [k.len]; exact hl)] at s2
          cases h2
          cases s2
          exact ((hd a c2 o2 rfl).1 j1 q1 c1 a (by rw [List.getElem?_set_ne e1]; exact h1) o1 (by rw [List.getElem?_set_ne e1]; exact s1)).1 rfl
        · rw [List.getElem?_eq_none (by omega)] at h2
          cases h2
      · rw [List.getElem?_set_ne e2] at h2 s2
        exact k.dis j1 j2 q1 q2 c1 c2 a ne h1 h2 o1 o2 s1 s2
  inn := by
    have old : ∀ (j : Nat) (q : Sl) (x : Option V), i ≠ j → (r.set i s)[j]? = some q → (st.set i (some v))[j]? = some x → r[j]? = some q ∧ st[j]? = some x ∧ (r.set i .unk)[j]? = some q ∧ (st.set i none)[j]? = some x := fun j q x e h1 h2 => by
      rw [List.getElem?_set_ne e] at h1 h2
      exact ⟨h1, h2, by rw [List.getElem?_set_ne e]; exact h1, by rw [List.getElem?_set_ne e]; exact h2⟩
    have new : ∀ (q : Sl) (x : Option V), (r.set i s)[i]? = some q → (st.set i (some v))[i]? = some x → q = s ∧ x = some v := fun q x h1 h2 => by
      rw [List.getElem?_set_self'] at h1 h2
      cases hr : r[i]? with
      | none =>
        rw [hr] at h1
        cases h1
      | some z =>
        cases hs : st[i]? with
        | none =>
          rw [hs] at h2
          cases h2
        | some y =>
          rw [hr] at h1
          rw [hs] at h2
          cases h1
          cases h2
          exact ⟨rfl, rfl⟩
    intro j q c a b h1 h2 h3 h4
    by_cases e : i = j
    · subst e
      obtain ⟨rfl, hx⟩ := new q _ h1 h3
      cases hx
      obtain ⟨n1, n2⟩ := hd a c h2 rfl
      obtain ⟨g1, g2, g3, g4⟩ := n2 b h4
      refine ⟨g1, g2, fun j q' c' a' w1 w2 w3 => ?_⟩
      by_cases e : i = j
      · subst e
        obtain ⟨rfl, hx⟩ := new q' _ w1 w3
        cases hx
        exact ⟨g3, fun z => absurd rfl z⟩
      · obtain ⟨y1, y2, y3, y4⟩ := old j q' _ e w1 w3
        obtain ⟨u1, u2⟩ := g4 j q' c' a' y3 w2 y4
        exact ⟨u1, fun _ => u2⟩
    · obtain ⟨x1, x2, x3, x4⟩ := old j q _ e h1 h3
      obtain ⟨g1, g2, g3⟩ := k.inn j q c a b x1 h2 x2 h4
      refine ⟨g1, g2, fun j2 q' c' a' w1 w2 w3 => ?_⟩
      by_cases e2 : i = j2
      · subst e2
        obtain ⟨rfl, hx⟩ := new q' _ w1 w3
        cases hx
        obtain ⟨n1, n2⟩ := hd a' c' w2 rfl
        refine ⟨fun z => (n1 j q c a x3 h2 x4).2 (z ▸ h4), fun _ n => ?_⟩
        exact ((n2 b n).2.2.2 j q c a x3 h2 x4).2 h4
      · obtain ⟨y1, y2, y3, y4⟩ := old j2 q' _ e2 w1 w3
        exact g3 j2 q' c' a' y1 w2 y2
theorem Ok.setV (k : Ok K pa H0 F0 F H st r) {i : Nat} {v : V} {d : D} (hi : ∀ q, r[i]? = some q → q.isIo = false) (ok : Rp K F v d) : Ok K pa H0 F0 F H (st.set i (some v)) (r.set i (.v d)) :=
  k.set (s := .v d) hi rfl ok fun _ _ z => nomatch z
/-- a slot is forgotten -/
theorem Ok.forget (k : Ok K pa H0 F0 F H st r) {i : Nat} {x : Option V} : Ok K pa H0 F0 F H (st.set i x) (r.set i .unk) where
  hH := k.hH
  fF := k.fF
  fH := k.fH
  sep := k.sep
  len := by rw [List.length_set, List.length_set, k.len]
  sl := fun j q h n => by
    by_cases e : i = j
    · subst e
      rw [List.getElem?_set_self'] at h
      by_cases hl : i < r.length
      · rw [List.getElem?_eq_getElem hl] at h
        cases h
        exact absurd rfl n
      · rw [List.getElem?_eq_none (by omega)] at h
        cases h
    · rw [List.getElem?_set_ne e] at h
      obtain ⟨w, z1, z2⟩ := k.sl j q h n
      exact ⟨w, by rw [List.getElem?_set_ne e]; exact z1, z2⟩
  tb := k.tb
  dis := fun j1 j2 q1 q2 c1 c2 a ne h1 h2 o1 o2 s1 s2 => by
    have no : ∀ (j : Nat) (q : Sl) (c : Ct), (r.set i .unk)[j]? = some q → q.own = some c → i ≠ j := fun j q c h o e => by
      subst e
      rw [List.getElem?_set_self'] at h
      by_cases hl : i < r.length
      · rw [List.getElem?_eq_getElem hl] at h
        cases h
        cases o
      · rw [List.getElem?_eq_none (by omega)] at h
        cases h
    have e1 := no j1 q1 c1 h1 o1
    have e2 := no j2 q2 c2 h2 o2
    rw [List.getElem?_set_ne e1] at h1 s1
    rw [List.getElem?_set_ne e2] at h2 s2
    exact k.dis j1 j2 q1 q2 c1 c2 a ne h1 h2 o1 o2 s1 s2
  inn := by
    have no : ∀ (j : Nat) (q : Sl) (c : Ct), (r.set i .unk)[j]? = some q → q.own = some c → i ≠ j := fun j q c h o e => by
      subst e
      rw [List.getElem?_set_self'] at h
      by_cases hl : i < r.length
      · rw [List.getElem?_eq_getElem hl] at h
        cases h
        cases o
      · rw [List.getElem?_eq_none (by omega)] at h
        cases h
    intro j q c a b h1 h2 h3 h4
    have e1 := no j q c h1 h2
    rw [List.getElem?_set_ne e1] at h1 h3
    obtain ⟨g1, g2, g3⟩ := k.inn j q c a b h1 h2 h3 h4
    refine ⟨g1, g2, fun j2 q' c' a' w1 w2 w3 => ?_⟩
    have e2 := no j2 q' c' w1 w2
    rw [List.getElem?_set_ne e2] at w1 w3
    exact g3 j2 q' c' a' w1 w2 w3
/-- an owned object is changed -/
theorem Ok.put (k : Ok K pa H0 F0 F H st r) {i : Nat} {s : Sl} {c c' : Ct} {a : Addr} {o : HO} (h : r[i]? = some s) (hc : s.own = some c) (ha : st[i]? = some (some (.ref a))) (new : CtOk K F (upd H a o) a c')
    (newI : ∀ b, Inn (upd H a o) a c' b → Inn H a c b ∨ (F b = none ∧ H0 b = none ∧ a ≠ b ∧ Nob H st r b) := by intro b hb; first | exact (inn_l hb).elim | exact (inn_d hb).elim | exact (inn_t hb).elim) : Ok K pa H0 F0 F (upd H a o) st (r.set i (s.put c')) := by
  obtain ⟨a', z1, z2, z3, z4⟩ := k.ownd h hc
  rw [ha] at z1
  cases z1
  have hl : i < r.length := (List.getElem?_eq_some_iff.mp h).1
  have po : (s.put c').own = some c' := by cases s <;> rfl
  have other : ∀ (j : Nat) (q : Sl) (c2 : Ct) (b : Addr), i ≠ j → r[j]? = some q → q.own = some c2 → st[j]? = some (some (.ref b)) → b ≠ a := fun j q c2 b e hq hq2 hb z => by
    subst z
    exact k.dis i j s q c c2 b e h hq hc hq2 ha hb
  have get : ∀ (j : Nat) (q : Sl) (c2 : Ct), (r.set i (s.put c'))[j]? = some q → q.own = some c2 → (i = j ∧ q = s.put c' ∧ c2 = c') ∨ (i ≠ j ∧ r[j]? = some q) := fun j q c2 hq ho => by
    by_cases e : i = j
    · subst e
      rw [List.getElem?_set_self hl] at hq
      cases hq
      rw [po] at ho
      cases ho
      exact .inl ⟨rfl, rfl, rfl⟩
    · rw [List.getElem?_set_ne e] at hq
      exact .inr ⟨e, hq⟩
  refine ⟨k.hH.mut z3, k.fF, k.fH.mut z2, k.sep, by rw [List.length_set, k.len], fun j q hq n => ?_, tabs_put k.tb z4, fun j1 j2 q1 q2 c1 c2 b ne h1 h2 o1 o2 s1 s2 => ?_, fun j q c2 b b2 hq ho hst hin => ?_⟩
  · by_cases e : i = j
    · subst e
      rw [List.getElem?_set_self hl] at hq
      cases hq
      obtain ⟨v, w1, w2⟩ := k.sl i s h (by
        intro z
        subst z
        cases hc)
      rw [ha] at w1
      cases w1
      refine ⟨_, ha, ?_⟩
      cases s with
      | unk => cases hc
      | pin => cases hc
      | v d => cases hc
      | o c1 => exact ⟨a, rfl, z2, z3, new⟩
      | io c1 =>
        obtain ⟨y1, y2, y3, y4⟩ := w2
        cases y1
        exact ⟨rfl, z2, z3, new⟩
    · rw [List.getElem?_set_ne e] at hq
      obtain ⟨v, w1, w2⟩ := k.sl j q hq n
      refine ⟨v, w1, ?_⟩
      cases q with
      | unk => trivial
      | pin => exact w2
      | v d => exact w2
      | o c1 =>
        obtain ⟨b, y1, y2, y3, y4⟩ := w2
        have nb : b ≠ a := other j _ c1 b e hq rfl (by rw [w1, y1])
        exact ⟨b, y1, y2, y3, y4.mono (Ex.refl F) (upd_ne nb) fun b2 hb2 => upd_ne fun z => ((k.inn j _ c1 b b2 hq rfl (by rw [w1, y1]) hb2).2.2 i s c a h hc ha).1 z.symm⟩
      | io c1 =>
        obtain ⟨y1, y2, y3, y4⟩ := w2
        have nb : pa j ≠ a := other j _ c1 (pa j) e hq rfl (by rw [w1, y1])
        exact ⟨y1, y2, y3, y4.mono (Ex.refl F) (upd_ne nb) fun b2 hb2 => upd_ne fun z => ((k.inn j _ c1 _ b2 hq rfl (by rw [w1, y1]) hb2).2.2 i s c a h hc ha).1 z.symm⟩
  · have get : ∀ (j : Nat) (q : Sl) (c2 : Ct), (r.set i (s.put c'))[j]? = some q → q.own = some c2 → ∃ q' c3, r[j]? = some q' ∧ q'.own = some c3 := fun j q c2 hq ho => by
      by_cases e : i = j
      · subst e
        exact ⟨s, c, h, hc⟩
      · rw [List.getElem?_set_ne e] at hq
        exact ⟨q, c2, hq, ho⟩
    obtain ⟨q1', c1', g1, g2⟩ := get j1 q1 c1 h1 o1
    obtain ⟨q2', c2', g3, g4⟩ := get j2 q2 c2 h2 o2
    exact k.dis j1 j2 q1' q2' c1' c2' b ne g1 g3 g2 g4 s1 s2
  · -- what is within
    have far : ∀ (j : Nat) (q : Sl) (c3 : Ct) (b3 b4 : Addr), i ≠ j → r[j]? = some q → q.own = some c3 → st[j]? = some (some (.ref b3)) → Inn (upd H a o) b3 c3 b4 → Inn H b3 c3 b4 := fun j q c3 b3 b4 e g1 g2 g3 g4 => g4.cg (upd_ne (other j q c3 b3 e g1 g2 g3)).symm
    rcases get j q c2 hq ho with ⟨rfl, rfl, rfl⟩ | ⟨e, hq'⟩
    · rw [ha] at hst
      cases hst
      rcases newI b2 hin with hi | ⟨f1, f2, f3, f4⟩
      · obtain ⟨f1, f2, f3⟩ := k.inn i s c a b2 h hc ha hi
        refine ⟨f1, f2, fun j2 q2 c3 b3 g1 g2 g3 => ?_⟩
        rcases get j2 q2 c3 g1 g2 with ⟨rfl, rfl, rfl⟩ | ⟨e, g1⟩
        · rw [ha] at g3
          cases g3
          exact ⟨(f3 i s c a h hc ha).1, fun z => absurd rfl z⟩
        · obtain ⟨y1, y2⟩ := f3 j2 q2 c3 b3 g1 g2 g3
          exact ⟨y1, fun nj n => y2 nj (far j2 q2 c3 b3 b2 e g1 g2 g3 n)⟩
      · refine ⟨f1, f2, fun j2 q2 c3 b3 g1 g2 g3 => ?_⟩
        rcases get j2 q2 c3 g1 g2 with ⟨rfl, rfl, rfl⟩ | ⟨e, g1⟩
        · rw [ha] at g3
          cases g3
          exact ⟨f3, fun z => absurd rfl z⟩
        · obtain ⟨y1, y2⟩ := f4 j2 q2 c3 b3 g1 g2 g3
          exact ⟨y1, fun _ n => y2 (far j2 q2 c3 b3 b2 e g1 g2 g3 n)⟩
    · have hin2 := far j q c2 b b2 e hq' ho hst hin
      obtain ⟨f1, f2, f3⟩ := k.inn j q c2 b b2 hq' ho hst hin2
      refine ⟨f1, f2, fun j2 q2 c3 b3 g1 g2 g3 => ?_⟩
      rcases get j2 q2 c3 g1 g2 with ⟨rfl, rfl, rfl⟩ | ⟨e2, g1⟩
      · rw [ha] at g3
        cases g3
        obtain ⟨y1, y2⟩ := f3 i s c a h hc ha
        refine ⟨y1, fun _ n => ?_⟩
        rcases newI b2 n with hi | ⟨_, _, _, f4⟩
        · exact y2 (fun z => e z) hi
        · exact (f4 j q c2 b hq' ho hst).2 hin2
      · obtain ⟨y1, y2⟩ := f3 j2 q2 c3 b3 g1 g2 g3
        exact ⟨y1, fun nj n => y2 nj (far j2 q2 c3 b3 b2 e2 g1 g2 g3 n)⟩
/-- a slot's object is no other slot's -/
theorem Ok.away (k : Ok K pa H0 F0 F H st r) {i : Nat} {s : Sl} {c : Ct} {a : Addr} (h : r[i]? = some s) (hc : s.own = some c) (ha : st[i]? = some (some (.ref a))) {x : Option V} : Away H0 F H (st.set i x) (r.set i .unk) a c := by
  have hl : i < r.length := (List.getElem?_eq_some_iff.mp h).1
  have old : ∀ (j : Nat) (q : Sl) (c2 : Ct) (b : Addr), (r.set i .unk)[j]? = some q → q.own = some c2 → (st.set i x)[j]? = some (some (.ref b)) → i ≠ j ∧ r[j]? = some q ∧ st[j]? = some (some (.ref b)) := fun j q c2 b hj hc2 hst => by
    by_cases e : i = j
    · subst e
      rw [List.getElem?_set_self hl] at hj
      cases hj
      cases hc2
    · rw [List.getElem?_set_ne e] at hj hst
      exact ⟨e, hj, hst⟩
  refine ⟨fun j q c2 b hj hc2 hst => ?_, fun b hb => ?_⟩
  · obtain ⟨e, hj, hst⟩ := old j q c2 b hj hc2 hst
    refine ⟨fun z => ?_, fun z => ((k.inn j q c2 b a hj hc2 hst z).2.2 i s c a h hc ha).1 rfl⟩
    subst z
    exact k.dis i j s q c c2 b e h hj hc hc2 ha hst
  · obtain ⟨g1, g2, g3⟩ := k.inn i s c a b h hc ha hb
    refine ⟨g1, g2, (g3 i s c a h hc ha).1, fun j q c2 b2 hj hc2 hst => ?_⟩
    obtain ⟨e, hj, hst⟩ := old j q c2 b2 hj hc2 hst
    obtain ⟨y1, y2⟩ := g3 j q c2 b2 hj hc2 hst
    exact ⟨y1, y2 fun z => e z.symm⟩
/-- an owned list is frozen -/
theorem Ok.freeze (k : Ok K pa H0 F0 F H st r) {i : Nat} {ds : List D} (h : r[i]? = some (.o (.l ds))) : ∃ F', Ok K pa H0 F0 F' H st (r.set i (.v (.list ds))) ∧ Ex F F' := by
  obtain ⟨a, z1, z2, z3, vs, z4, z5⟩ := k.ownd h rfl
  have hl : i < r.length := (List.getElem?_eq_some_iff.mp h).1
  have k2 : Ok K pa H0 F0 F H (st.set i none) (r.set i .unk) := k.forget
  have nO : Nob H (st.set i none) (r.set i .unk) a := (k.away h rfl z1).1
  have k3 := k2.frz z4 z3 nO z2
  refine ⟨upd F a (.lst vs), ?_, Ex.new z2⟩
  have k4 := k3.setV (i := i) (v := .ref a) (d := .list ds) (fun q hq => by
    rw [List.getElem?_set_self hl] at hq
    cases hq
    rfl) (.lst (.inl (.inl upd_same)) (dpa_mono (Ex.new z2) z5))
  rw [List.set_set, List.set_set] at k4
  have e : st.set i (some (.ref a)) = st := by
    apply List.ext_getElem?
    intro j
    by_cases e : i = j
    · subst e
      rw [List.getElem?_set_self (by rw [k.len]; exact hl), z1]
    · rw [List.getElem?_set_ne e]
  rw [e] at k4
  exact k4
/-- objects that are nobody's are frozen -/
theorem Ok.frzS (k : Ok K pa H0 F0 F H st r) (S : Addr → Bool) (h1 : ∀ b, S b = true → ∃ o, H b = some o) (n0 : ∀ b, S b = true → H0 b = none) (nF : ∀ b, S b = true → F b = none) (nO : ∀ b, S b = true → Nob H st r b) :
    Ok K pa H0 F0 (fun b => if S b = true then H b else F b) H st r ∧ Ex F (fun b => if S b = true then H b else F b) := by
  have ne : ∀ {b o}, F b = some o → ¬ S b = true := fun {b o} e z => by
    rw [nF b z] at e
    cases e
  have eF : Ex F (fun b => if S b = true then H b else F b) := ⟨fun b o e nt => by
    show (if S b = true then H b else F b) = _
    rw [if_neg (ne e)]
    exact e, fun b ps e => ⟨#[], by
    show (if S b = true then H b else F b) = _
    rw [if_neg (ne e), Array.append_empty]
    exact e⟩⟩
  refine ⟨⟨k.hH, k.fF.trans eF, ⟨fun b o e nt => ?_, fun b ps e => ?_⟩, fun b z1 z2 => ?_, k.len, fun i s h n => ?_, k.tb, k.dis, fun i s c a b g1 g2 g3 g4 => ?_⟩, eF⟩
  · have e : (if S b = true then H b else F b) = some o := e
    by_cases hb : S b = true
    · rw [if_pos hb] at e
      exact e
    · rw [if_neg hb] at e
      exact k.fH.at_ b o e nt
  · have e : (if S b = true then H b else F b) = some (.tbl ps) := e
    by_cases hb : S b = true
    · rw [if_pos hb] at e
      exact ⟨#[], by rw [Array.append_empty]; exact e⟩
    · rw [if_neg hb] at e
      exact k.fH.tb b ps e
  · have z2 : (if S b = true then H b else F b) ≠ none := z2
    by_cases hb : S b = true
    · exact absurd (n0 b hb) z1
    · rw [if_neg hb] at z2
      exact k.sep b z1 z2
  · obtain ⟨v, w1, w2⟩ := k.sl i s h n
    refine ⟨v, w1, ?_⟩
    have far : ∀ (c : Ct) (a : Addr), s.own = some c → v = .ref a → ¬ S a = true := fun c a g1 g2 z => by
      subst g2
      exact (nO a z i s c a h g1 w1).1 rfl
    cases s with
    | unk => trivial
    | pin => exact w2
    | v d => exact dp_mono eF w2
    | o c =>
      obtain ⟨a, e1, e2, e3, e4⟩ := w2
      exact ⟨a, e1, by
        show (if S a = true then H a else F a) = none
        rw [if_neg (far c a rfl e1)]
        exact e2, e3, e4.mono eF rfl fun _ _ => rfl⟩
    | io c =>
      obtain ⟨e1, e2, e3, e4⟩ := w2
      exact ⟨e1, by
        show (if S (pa i) = true then H (pa i) else F (pa i)) = none
        rw [if_neg (far c _ rfl e1)]
        exact e2, e3, e4.mono eF rfl fun _ _ => rfl⟩
  · obtain ⟨f1, f2, f3⟩ := k.inn i s c a b g1 g2 g3 g4
    have hb : ¬ S b = true := fun z => (nO b z i s c a g1 g2 g3).2 g4
    exact ⟨by
      show (if S b = true then H b else F b) = none
      rw [if_neg hb]
      exact f1, f2, f3⟩
theorem its_rp {K : PySem.W.Frag} {F H F' : Hp} (e : Ex F F') : ∀ {vs : List V} {is : List Im}, ItAll K F H vs is → (∀ (j : Nat) (b : Addr) (ds : List D), vs[j]? = some (.ref b) → is[j]? = some (.l ds) → F' b = H b) → RpAll K F' vs (is.map Im.data)
  | _, _, .nil, _ => .nil
  | _, _, @ItAll.cons _ _ _ v vs i is h t, q => by
    refine .cons ?_ (its_rp e t fun j b ds h1 h2 => q (j + 1) b ds (by simpa using h1) (by simpa using h2))
    cases i with
    | v d => exact dp_mono e h
    | l ds =>
      obtain ⟨b, ws, rfl, h1, h2⟩ := h
      exact .lst (.inl (.inl ((q 0 b ds rfl rfl).trans h1))) (dpa_mono e h2)
/-- a deep object as data, within a heap where it stands -/
theorem nt_rp {K : PySem.W.Frag} {F H F' : Hp} {a : Addr} {t : Nt} {d : D} (h : CtOk K F H a (.n t)) (e : Ex F F') (hd : t.data = some d) (ha : F' a = H a) (hi : ∀ b, Inn H a (.n t) b → F' b = H b) : Rp K F' (.ref a) d := by
  obtain ⟨vs, h1, h2, h3⟩ := h
  have h4 := its_rp e h2 fun j b ds g1 g2 => hi b ⟨j, vs, ds, h1.vals, g1, g2⟩
  cases t with
  | l its =>
    cases hd
    exact .lst (.inl (.inl (ha.trans h1))) h4
  | u its =>
    cases hd
    exact .tup (ha.trans h1) h4
  | d kvs => cases hd
open Classical in
/-- a deep object is frozen -/
theorem Ok.freezeN (k : Ok K pa H0 F0 F H st r) {i : Nat} {t : Nt} {d : D} (h : r[i]? = some (.o (.n t))) (hd : t.data = some d) : ∃ F', Ok K pa H0 F0 F' H st (r.set i (.v d)) ∧ Ex F F' := by
  obtain ⟨a, z1, z2, z3, z4⟩ := k.ownd h rfl
  have hl : i < r.length := (List.getElem?_eq_some_iff.mp h).1
  have aw := k.away (x := none) h rfl z1
  have k2 : Ok K pa H0 F0 F H (st.set i none) (r.set i .unk) := k.forget
  have hS : ∀ b, decide (b = a ∨ Inn H a (.n t) b) = true → b = a ∨ Inn H a (.n t) b := fun b hb => of_decide_eq_true hb
  obtain ⟨k3, eF⟩ := k2.frzS (fun b => decide (b = a ∨ Inn H a (.n t) b)) (fun b hb => by
      rcases hS b hb with rfl | hb
      · exact z4.there
      · obtain ⟨ws, hw⟩ := z4.inn hb
        exact ⟨_, hw⟩) (fun b hb => by
      rcases hS b hb with rfl | hb
      · exact z3
      · exact (aw.2 b hb).2.1) (fun b hb => by
      rcases hS b hb with rfl | hb
      · exact z2
      · exact (aw.2 b hb).1) (fun b hb => by
      rcases hS b hb with rfl | hb
      · exact aw.1
      · exact (aw.2 b hb).2.2.2)
  refine ⟨_, ?_, eF⟩
  have rp := nt_rp z4 eF hd (if_pos (decide_eq_true (.inl rfl))) fun b hb => if_pos (decide_eq_true (.inr hb))
  have k4 := k3.setV (i := i) (v := .ref a) (d := d) (fun q hq => by
    rw [List.getElem?_set_self hl] at hq
    cases hq
    rfl) rp
  rw [List.set_set, List.set_set] at k4
  have e : st.set i (some (.ref a)) = st := by
    apply List.ext_getElem?
    intro j
    by_cases e : i = j
    · subst e
      rw [List.getElem?_set_self (by rw [k.len]; exact hl), z1]
    · rw [List.getElem?_set_ne e]
  rw [e] at k4
  exact k4
end
/-! ### readings -/
structure Cc where
  K : PySem.W.Frag
  mg : Str → Option Value
  W : WX
def ExOk (c : Cc) (F H : Hp) (e : Exn) (cls : Value) (dd : Option Addr) : Prop := cls = .ref (He.ga c.K e.name) ∧
  ((e.flds = [] ∧ dd = none) ∨ ∃ d fs, dd = some d ∧ F d = some (.xd fs) ∧ fs.map (·.1) = e.flds.map (·.1) ∧ RpAll c.K F (fs.map (·.2)) (e.flds.map (·.2)))
def XW (c : Cc) (pa : Nat → Addr) (H0 F0 F : Hp) : Exn → En → Prop := fun e r' => ∀ F' H' st' cls dd, Ok c.K pa H0 F0 F' H' st' r' → Ex F F' → ExOk c F' H' e cls dd → c.W cls dd st' H'
theorem XW.mono {c : Cc} {pa : Nat → Addr} {H0 F0 F F1 : Hp} (e : Ex F F1) : ∀ x r, XW c pa H0 F0 F x r → XW c pa H0 F0 F1 x r := fun x r h F' H' st' cls dd ok ex => h F' H' st' cls dd ok (e.trans ex)
/-- a value, or a new object of one's own -/
def RvOk (K : PySem.W.Frag) (H0 F H : Hp) (st : L2.St) (r : En) (v : V) : RV → Prop
  | .v d => Rp K F v d
  | .o c => ∃ a, v = .ref a ∧ F a = none ∧ H0 a = none ∧ CtOk K F H a c ∧ Away H0 F H st r a c
def tM (c : Cc) (m : M D) : TE := fun st H Q => ∃ pa H0 F0 F r, Ok c.K pa H0 F0 F H st r ∧ Po (XW c pa H0 F0 F) (m r) fun d r' => ∀ F' H' v, Ok c.K pa H0 F0 F' H' st r' → Ex F F' → Rp c.K F' v d → Q v H'
def tO (c : Cc) (m : M RV) : TE := fun st H Q => ∃ pa H0 F0 F r, Ok c.K pa H0 F0 F H st r ∧ Po (XW c pa H0 F0 F) (m r) fun d r' => ∀ F' H' v, Ok c.K pa H0 F0 F' H' st r' → Ex F F' → RvOk c.K H0 F' H' st r' v d → Q v H'
def tT (c : Cc) (m : M Bool) : TT := fun st H Q => ∃ pa H0 F0 F r, Ok c.K pa H0 F0 F H st r ∧ Po (XW c pa H0 F0 F) (m r) fun b r' => ∀ F' H', Ok c.K pa H0 F0 F' H' st r' → Ex F F' → Q b H'
def tA (c : Cc) (m : M (List D)) : TA := fun st H Q => ∃ pa H0 F0 F r, Ok c.K pa H0 F0 F H st r ∧ Po (XW c pa H0 F0 F) (m r) fun ds r' => ∀ F' H' vs, Ok c.K pa H0 F0 F' H' st r' → Ex F F' → RpAll c.K F' vs ds → Q vs H'
inductive Fl where
  | nx | bk | ct | rt (r : RV)
def flEnd (K : PySem.W.Frag) (pa : Nat → Addr) (H0 F0 F : Hp) (Dd : Ends) (r' : En) : Fl → Prop
  | .nx => ∀ F' H' st', Ok K pa H0 F0 F' H' st' r' → Ex F F' → Dd.nx st' H'
  | .bk => ∀ F' H' st', Ok K pa H0 F0 F' H' st' r' → Ex F F' → Dd.bk st' H'
  | .ct => ∀ F' H' st', Ok K pa H0 F0 F' H' st' r' → Ex F F' → Dd.ct st' H'
  | .rt rv => ∀ F' H' st' v, Ok K pa H0 F0 F' H' st' r' → Ex F F' → RvOk K H0 F' H' st' r' v rv → Dd.rt v H'
def sM (c : Cc) (m : M Fl) : TS := fun Dd st H => ∃ pa H0 F0 F r, Ok c.K pa H0 F0 F H st r ∧ Po (XW c pa H0 F0 F) (m r) fun fl r' => flEnd c.K pa H0 F0 F Dd r' fl
theorem flEnd.mono {K : PySem.W.Frag} {pa : Nat → Addr} {H0 F0 F F1 : Hp} {Dd : Ends} {r' : En} {fl : Fl} (e : Ex F F1) (h : flEnd K pa H0 F0 F Dd r' fl) : flEnd K pa H0 F0 F1 Dd r' fl := by
  cases fl with
  | nx => exact fun F' H' st' k ex => h F' H' st' k (e.trans ex)
  | bk => exact fun F' H' st' k ex => h F' H' st' k (e.trans ex)
  | ct => exact fun F' H' st' k ex => h F' H' st' k (e.trans ex)
  | rt rv => exact fun F' H' st' v k ex => h F' H' st' v k (e.trans ex)
section
variable {X : Cx} {c : Cc}
theorem pe_cq {e : Expr} {t t' : TE} (h : PE X e t) (i : ∀ st H Q, t' st H Q → t st H Q) : PE X e t' := ⟨fun pins s st H Q I q => h.run pins s st H Q I (i st H Q q)⟩
theorem pt_cq {e : Expr} {t t' : TT} (h : PT X e t) (i : ∀ st H Q, t' st H Q → t st H Q) : PT X e t' := ⟨fun pins s st H Q I q => h.run pins s st H Q I (i st H Q q)⟩
theorem pw_cq {e : Expr} {t t' : TT} (h : PW X e t) (i : ∀ st H Q, t' st H Q → t st H Q) : PW X e t' := ⟨fun wh pins s st H Q I q => h.run wh pins s st H Q I (i st H Q q)⟩
theorem pa_cq {e : List Expr} {t t' : TA} (h : PA X e t) (i : ∀ st H Q, t' st H Q → t st H Q) : PA X e t' := ⟨fun pos pins s st H Q I q => h.run pos pins s st H Q I (i st H Q q)⟩
theorem ps_cq {e : Stmt} {t t' : TS} (h : PS X e t) (i : ∀ Dd st H, t' Dd st H → t Dd st H) : PS X e t' := ⟨fun pins s st H Dd I q => h.run pins s st H Dd I (i Dd st H q)⟩
theorem pss_cq {e : List Stmt} {t t' : TS} (h : PSs X e t) (i : ∀ Dd st H, t' Dd st H → t Dd st H) : PSs X e t' := ⟨fun pins s st H Dd I q => h.run pins s st H Dd I (i Dd st H q)⟩
/-! ### the chaining of two parts -/
theorem seqM {α : Type} {pa : Nat → Addr} {H0 F0 F H : Hp} {st : L2.St} {r : En} {ma : M D} {f : D → M α} {k : α → En → Prop} {Q : VK} (ok : Ok c.K pa H0 F0 F H st r) (po : Po (XW c pa H0 F0 F) (ma.bind f r) k)
    (h : ∀ d r1 F1 H1 v, Ok c.K pa H0 F0 F1 H1 st r1 → Ex F F1 → Rp c.K F1 v d → Po (XW c pa H0 F0 F1) (f d r1) k → Q v H1) : tM c ma st H Q :=
  ⟨pa, H0, F0, F, r, ok, (Po.bind po).mono (fun _ _ x => x) fun d r1 q F1 H1 v k1 e1 dp => h d r1 F1 H1 v k1 e1 dp (q.mono (XW.mono e1) fun _ _ x => x)⟩
theorem seqO {α : Type} {pa : Nat → Addr} {H0 F0 F H : Hp} {st : L2.St} {r : En} {ma : M RV} {f : RV → M α} {k : α → En → Prop} {Q : VK} (ok : Ok c.K pa H0 F0 F H st r) (po : Po (XW c pa H0 F0 F) (ma.bind f r) k)
    (h : ∀ d r1 F1 H1 v, Ok c.K pa H0 F0 F1 H1 st r1 → Ex F F1 → RvOk c.K H0 F1 H1 st r1 v d → Po (XW c pa H0 F0 F1) (f d r1) k → Q v H1) : tO c ma st H Q :=
  ⟨pa, H0, F0, F, r, ok, (Po.bind po).mono (fun _ _ x => x) fun d r1 q F1 H1 v k1 e1 dp => h d r1 F1 H1 v k1 e1 dp (q.mono (XW.mono e1) fun _ _ x => x)⟩
theorem seqT {α : Type} {pa : Nat → Addr} {H0 F0 F H : Hp} {st : L2.St} {r : En} {ma : M Bool} {f : Bool → M α} {k : α → En → Prop} {Q : Bool → Hp → Prop} (ok : Ok c.K pa H0 F0 F H st r) (po : Po (XW c pa H0 F0 F) (ma.bind f r) k)
    (h : ∀ d r1 F1 H1, Ok c.K pa H0 F0 F1 H1 st r1 → Ex F F1 → Po (XW c pa H0 F0 F1) (f d r1) k → Q d H1) : tT c ma st H Q :=
  ⟨pa, H0, F0, F, r, ok, (Po.bind po).mono (fun _ _ x => x) fun d r1 q F1 H1 k1 e1 => h d r1 F1 H1 k1 e1 (q.mono (XW.mono e1) fun _ _ x => x)⟩
theorem seqA {α : Type} {pa : Nat → Addr} {H0 F0 F H : Hp} {st : L2.St} {r : En} {ma : M (List D)} {f : List D → M α} {k : α → En → Prop} {Q : List V → Hp → Prop} (ok : Ok c.K pa H0 F0 F H st r) (po : Po (XW c pa H0 F0 F) (ma.bind f r) k)
    (h : ∀ d r1 F1 H1 vs, Ok c.K pa H0 F0 F1 H1 st r1 → Ex F F1 → RpAll c.K F1 vs d → Po (XW c pa H0 F0 F1) (f d r1) k → Q vs H1) : tA c ma st H Q :=
  ⟨pa, H0, F0, F, r, ok, (Po.bind po).mono (fun _ _ x => x) fun d r1 q F1 H1 v k1 e1 dp => h d r1 F1 H1 v k1 e1 dp (q.mono (XW.mono e1) fun _ _ x => x)⟩
theorem againM {pa : Nat → Addr} {H0 F0 F F1 H : Hp} {st : L2.St} {r : En} {m : M D} {Q : VK} (ok : Ok c.K pa H0 F0 F1 H st r) (e : Ex F F1) (po : Po (XW c pa H0 F0 F1) (m r) fun d r' => ∀ F' H' v, Ok c.K pa H0 F0 F' H' st r' → Ex F F' → Rp c.K F' v d → Q v H') : tM c m st H Q :=
  ⟨pa, H0, F0, F1, r, ok, po.mono (fun _ _ x => x) fun d r' q F' H' v k e' => q F' H' v k (e.trans e')⟩
theorem againT {pa : Nat → Addr} {H0 F0 F F1 H : Hp} {st : L2.St} {r : En} {m : M Bool} {Q : Bool → Hp → Prop} (ok : Ok c.K pa H0 F0 F1 H st r) (e : Ex F F1) (po : Po (XW c pa H0 F0 F1) (m r) fun d r' => ∀ F' H', Ok c.K pa H0 F0 F' H' st r' → Ex F F' → Q d H') : tT c m st H Q :=
  ⟨pa, H0, F0, F1, r, ok, po.mono (fun _ _ x => x) fun d r' q F' H' k e' => q F' H' k (e.trans e')⟩
theorem againS {pa : Nat → Addr} {H0 F0 F F1 H : Hp} {st : L2.St} {r : En} {m : M Fl} {Dd : Ends} (ok : Ok c.K pa H0 F0 F1 H st r) (e : Ex F F1) (po : Po (XW c pa H0 F0 F1) (m r) fun fl r' => flEnd c.K pa H0 F0 F Dd r' fl) : sM c m Dd st H :=
  ⟨pa, H0, F0, F1, r, ok, po.mono (fun _ _ x => x) fun d r' q => q.mono e⟩
/-! ### names and constants -/
def getS (i : Nat) : M D := fun r => match r[i]? with
  | some (.v d) => .ok d r
  | _ => .no
theorem getS_po {i : Nat} {r : En} {Xp : Exn → En → Prop} {k : D → En → Prop} (h : Po Xp (getS i r) k) : ∃ d, r[i]? = some (.v d) ∧ k d r := by
  unfold getS at h
  split at h
  · exact ⟨_, by assumption, h⟩
  · exact h.elim
theorem e_var (i : Nat) {x : Str} {pos : Pos} (hN : X.N[i]? = some x := by rfl) (hv : Vis X.env.scope x := by first | exact Or.inl rfl | exact Or.inr (Or.inl rfl) | exact Or.inr (Or.inr rfl)) (hd : (x == ("__debug__" : Str)) = false := by decide)
    (hcd : (x == ("__classdict__" : Str)) = false := by decide) : PE X (.Name x pos) (tM c (getS i)) :=
  pe_cq (pe_var (i := i) hN hv hd hcd) fun st H Q ⟨pa, H0, F0, F, r, ok, po⟩ => by
    obtain ⟨d, h1, h2⟩ := getS_po po
    obtain ⟨v, e1, e2⟩ := ok.val h1
    exact ⟨v, e1, h2 F H v ok (Ex.refl F) e2⟩
theorem e_cst {e : Expr} {v : V} {d : D} (h : PE X e (tC v)) (hr : ∀ F, Rp c.K F v d) : PE X e (tM c (M.ret d)) :=
  pe_cq h fun st H Q ⟨pa, H0, F0, F, r, ok, po⟩ => po F H v ok (Ex.refl F) (hr F)
theorem e_int {i j pos} : PE X (.Constant (.int i) j pos) (tM c (M.ret (.int i))) := e_cst pe_int fun _ => .int i
theorem e_bl {b j pos} : PE X (.Constant (.bool b) j pos) (tM c (M.ret (.bool b))) := e_cst pe_bl fun _ => .bl b
theorem e_non {j pos} : PE X (.Constant .none j pos) (tM c (M.ret .none)) := e_cst pe_non fun _ => .non
theorem e_str {x j pos} : PE X (.Constant (.str x) j pos) (tM c (M.ret (.str x))) := e_cst pe_str fun _ => .str x
theorem e_globI {x : Str} {i : Int} {t : Tok} {pos : Pos} (hm : X.mg x = some (.int i t)) (hg : Gl X x := by rfl) (hd : (x == ("__debug__" : Str)) = false := by decide) : PE X (.Name x pos) (tM c (M.ret (.int i))) := e_cst (pe_glob (v := .int i) hg hm ⟨_, rfl⟩ hd) fun _ => .int i
/-! ### a value from an owned one -/
def RV.data : RV → Option D
  | .v d => some d
  | .o (.l ds) => some (.list ds)
  | .o (.d _) => none
  | .o (.t _) => none
  | .o (.n t) => t.data
theorem opt_po' {α : Type} {o : Option α} {r : En} {Xp : Exn → En → Prop} {k : α → En → Prop} (h : Po Xp (M.opt o r) k) : ∃ a, o = some a ∧ k a r := by
  cases o with
  | none => exact h.elim
  | some a => exact ⟨a, rfl, h⟩
def frzM (m : M RV) : M D := m.bind fun rv => M.opt rv.data
open Classical in
theorem Ok.frzRv {K : PySem.W.Frag} {pa : Nat → Addr} {H0 F0 F H : Hp} {st : L2.St} {r : En} (k : Ok K pa H0 F0 F H st r) {a : Addr} {t : Nt} {d : D} (z : F a = none ∧ H0 a = none ∧ CtOk K F H a (.n t) ∧ Away H0 F H st r a (.n t)) (hd : t.data = some d) : ∃ F', Ok K pa H0 F0 F' H st r ∧ Ex F F' ∧ Rp K F' (.ref a) d := by
  obtain ⟨z1, z2, z4, z5⟩ := z
  have hS : ∀ b, decide (b = a ∨ Inn H a (.n t) b) = true → b = a ∨ Inn H a (.n t) b := fun b hb => of_decide_eq_true hb
  obtain ⟨k3, eF⟩ := k.frzS (fun b => decide (b = a ∨ Inn H a (.n t) b)) (fun b hb => by
      rcases hS b hb with rfl | hb
      · exact z4.there
      · obtain ⟨ws, hw⟩ := z4.inn hb
        exact ⟨_, hw⟩) (fun b hb => by
      rcases hS b hb with rfl | hb
      · exact z2
      · exact (z5.2 b hb).2.1) (fun b hb => by
      rcases hS b hb with rfl | hb
      · exact z1
      · exact (z5.2 b hb).1) (fun b hb => by
      rcases hS b hb with rfl | hb
      · exact z5.1
      · exact (z5.2 b hb).2.2.2)
  exact ⟨_, k3, eF, nt_rp z4 eF hd (if_pos (decide_eq_true (.inl rfl))) fun b hb => if_pos (decide_eq_true (.inr hb))⟩
theorem e_val {e : Expr} {m : M RV} (h : PE X e (tO c m)) : PE X e (tM c (frzM m)) :=
  pe_cq h fun st H Q ⟨pa, H0, F0, F, r, ok, po⟩ => seqO ok po fun rv r1 F1 H1 v k1 e1 dp q => by
    cases rv with
    | v d => exact q F1 H1 v k1 e1 dp
    | o ct =>
      cases ct with
      | l ds =>
        obtain ⟨a, rfl, z1, z2, ⟨vs, z3, z4⟩, z5⟩ := dp
        have k2 := k1.frz z3 z2 z5.1 z1
        exact q _ H1 _ k2 (e1.trans (Ex.new z1)) (.lst (.inl (.inl upd_same)) (dpa_mono (Ex.new z1) z4))
      | t kvs => exact q.elim
      | d kvs => exact q.elim
      | n t =>
        obtain ⟨d, hd, q⟩ := opt_po' q
        obtain ⟨a, rfl, z⟩ := dp
        obtain ⟨F2, k2, eF, rp⟩ := k1.frzRv z hd
        exact q F2 H1 _ k2 (e1.trans eF) rp
theorem o_val {e : Expr} {m : M D} (h : PE X e (tM c m)) : PE X e (tO c (m.bind fun d => M.ret (.v d))) :=
  pe_cq h fun st H Q ⟨pa, H0, F0, F, r, ok, po⟩ => seqM ok po fun d r1 F1 H1 v k1 e1 dp q => q F1 H1 v k1 e1 dp
/-! ### argument lists -/
def aNil : M (List D) := M.ret []
def aCons (m : M D) (ms : M (List D)) : M (List D) := m.bind fun d => ms.bind fun ds => M.ret (d :: ds)
theorem a_nil : PA X [] (tA c aNil) := pa_cq pa_nil fun st H Q ⟨pa, H0, F0, F, r, ok, po⟩ => po F H [] ok (Ex.refl F) .nil
theorem a_cons {e : Expr} {es : List Expr} {m : M D} {ms : M (List D)} (h : PE X e (tM c m)) (hr : PA X es (tA c ms)) (hs : starEach (e :: es) X.env = (false, eval e X.env) :: starEach es X.env := by rfl) : PA X (e :: es) (tA c (aCons m ms)) :=
  pa_cq (pa_cons h hr hs) fun st H Q ⟨pa, H0, F0, F, r, ok, po⟩ => seqM ok po fun d r1 F1 H1 v k1 e1 dp q => seqA k1 q fun ds r2 F2 H2 vs k2 e2 dps q2 => q2 F2 H2 _ k2 (e1.trans e2) (.cons (dp_mono e2 dp) dps)
/-! ### displays -/
def szC (n : Nat) {α : Type} (a : α) : Option α := if n ≤ 16777216 then some a else none
theorem szC_po {α : Type} {n : Nat} {a : α} {r : En} {Xp : Exn → En → Prop} {k : α → En → Prop} (h : Po Xp (M.opt (szC n a) r) k) : n ≤ sizeLine ∧ k a r := by
  unfold szC at h
  split at h
  · exact ⟨by rw [sizeLine_eq]; assumption, h⟩
  · exact h.elim
def eTup (ms : M (List D)) : M D := ms.bind fun ds => M.opt (szC ds.length (.tuple ds))
def oLst (ms : M (List D)) : M RV := ms.bind fun ds => M.opt (szC ds.length (.o (.l ds)))
theorem e_tup {es : List Expr} {x1 : Nat} {pos : Pos} {ms : M (List D)} (h : PA X es (tA c ms)) : PE X (.Tuple es x1 pos) (tM c (eTup ms)) :=
  pe_cq (pe_tup h) fun st H Q ⟨pa, H0, F0, F, r, ok, po⟩ => seqA ok po fun ds r1 F1 H1 vs k1 e1 dps q => by
    obtain ⟨hz, q⟩ := szC_po q
    refine ⟨by rw [dpa_len dps]; exact hz, fun p np => ?_⟩
    have nF := k1.fH.nn np
    exact q _ _ _ (k1.layF np) (e1.trans (Ex.new nF)) (.tup upd_same (dpa_mono (Ex.new nF) dps))
theorem o_lst {es : List Expr} {pos : Pos} {ms : M (List D)} (h : PA X es (tA c ms)) : PE X (.List es pos) (tO c (oLst ms)) :=
  pe_cq (pe_lst h) fun st H Q ⟨pa, H0, F0, F, r, ok, po⟩ => seqA ok po fun ds r1 F1 H1 vs k1 e1 dps q => by
    obtain ⟨hz, q⟩ := szC_po q
    refine ⟨by rw [dpa_len dps]; exact hz, fun p np => ?_⟩
    have nF := k1.fH.nn np
    exact q F1 _ _ (k1.lay np) e1 ⟨p, rfl, nF, k1.hH.nn np, ⟨vs, upd_same, dps⟩, .l (k1.nobody np).upd⟩
/-! ### operators on data: g tells the answer -/
/-- nothing new, or one new frozen object -/
def NewF (F H F' H' : Hp) : Prop := (F' = F ∧ H' = H) ∨ ∃ p o, H p = none ∧ F' = upd F p o ∧ H' = upd H p o
theorem NewF.ok {K : PySem.W.Frag} {pa : Nat → Addr} {H0 F0 F H F' H' : Hp} {st : L2.St} {r : En} (n : NewF F H F' H') (k : Ok K pa H0 F0 F H st r) : Ok K pa H0 F0 F' H' st r ∧ Ex F F' := by
  rcases n with ⟨rfl, rfl⟩ | ⟨p, o, np, rfl, rfl⟩
  · exact ⟨k, Ex.refl _⟩
  · exact ⟨k.layF np, Ex.new (k.fH.nn np)⟩
def rD2 (K : PySem.W.Frag) (g : D → D → Option D) : R2 := fun x y H Q => ∃ F d e z, Ex F H ∧ Rp K F x d ∧ Rp K F y e ∧ g d e = some z ∧ ∀ v F' H', NewF F H F' H' → Rp K F' v z → Q v H'
def rD1 (K : PySem.W.Frag) (g : D → Option D) : V → Hp → VK → Prop := fun x H Q => ∃ F d z, Ex F H ∧ Rp K F x d ∧ g d = some z ∧ ∀ v F' H', NewF F H F' H' → Rp K F' v z → Q v H'
def rDA (K : PySem.W.Frag) (g : List D → Option D) : List V → Hp → VK → Prop := fun xs H Q => ∃ F ds z, Ex F H ∧ RpAll K F xs ds ∧ g ds = some z ∧ ∀ v F' H', NewF F H F' H' → Rp K F' v z → Q v H'
/-- .. with a new list of one's own -/
def rDAo (K : PySem.W.Frag) (g : List D → Option (List D)) : List V → Hp → VK → Prop := fun xs H Q => ∃ F ds z, Ex F H ∧ RpAll K F xs ds ∧ g ds = some z ∧ ∀ p vs, H p = none → RpAll K F vs z → Q (.ref p) (upd H p (.lst vs))
def bin (g : D → D → Option D) (ma mb : M D) : M D := ma.bind fun x => mb.bind fun y => M.opt (g x y)
def una (g : D → Option D) (ma : M D) : M D := ma.bind fun x => M.opt (g x)
def nry (g : List D → Option D) (ms : M (List D)) : M D := ms.bind fun ds => M.opt (g ds)
def nryO (g : List D → Option (List D)) (ms : M (List D)) : M RV := ms.bind fun ds => M.opt ((g ds).map fun z => .o (.l z))
theorem opt_po {α : Type} {o : Option α} {r : En} {Xp : Exn → En → Prop} {k : α → En → Prop} (h : Po Xp (M.opt o r) k) : ∃ a, o = some a ∧ k a r := by
  cases o with
  | none => exact h.elim
  | some a => exact ⟨a, rfl, h⟩
theorem op_end {pa : Nat → Addr} {H0 F0 F H : Hp} {st : L2.St} {r r' : En} {d : D} {Q : VK} (k : Ok c.K pa H0 F0 F H st r) (q : ∀ F' H' v, Ok c.K pa H0 F0 F' H' st r → Ex F F' → Rp c.K F' v d → Q v H') :
    ∀ v F' H', NewF F H F' H' → Rp c.K F' v d → Q v H' := fun v F' H' n dp => by
  obtain ⟨k2, e2⟩ := n.ok k
  exact q F' H' v k2 e2 dp
theorem bin_ok {g : D → D → Option D} {ta tb : M D} {st : L2.St} {H : Hp} {Q : VK} (h : tM c (bin g ta tb) st H Q) : tOp (rD2 c.K g) (tM c ta) (tM c tb) st H Q := by
  obtain ⟨pa, H0, F0, F, r, ok, po⟩ := h
  refine seqM ok po fun d r1 F1 H1 v k1 e1 dp q => seqM k1 q fun d2 r2 F2 H2 v2 k2 e2 dp2 q2 => ?_
  obtain ⟨z, hz, q3⟩ := opt_po q2
  exact ⟨F2, d, d2, z, k2.fH, dp_mono e2 dp, dp2, hz, op_end (r' := r2) k2 fun F' H' v ok ex dp => q3 F' H' v ok ((e1.trans e2).trans ex) dp⟩
theorem e_op {op : Operator} {g : D → D → Option D} {a b : Expr} {ma mb : M D} {pos : Pos} (ho : OpR X (binaryOp op) (rD2 c.K g)) (ha : PE X a (tM c ma)) (hb : PE X b (tM c mb)) : PE X (.BinOp a op b pos) (tM c (bin g ma mb)) :=
  pe_cq (pe_op ho ha hb) fun _ _ _ h => bin_ok h
theorem e_cmp {op : CmpOp} {g : D → D → Option D} {a b : Expr} {ma mb : M D} {pos : Pos} (ho : OpR X (compareOp op) (rD2 c.K g)) (ha : PE X a (tM c ma)) (hb : PE X b (tM c mb)) (hm : behindInMarks op b = false := by first | exact nomark _ | rfl) : PE X (.Compare a [op] [b] pos) (tM c (bin g ma mb)) :=
  pe_cq (pe_cmpR ho ha hb hm) fun _ _ _ h => bin_ok h
theorem e_un {op : UnaryOp} {g : D → Option D} {a : Expr} {ma : M D} {pos : Pos} (ho : UnR X (unaryOp op) (rD1 c.K g)) (ha : PE X a (tM c ma)) : PE X (.UnaryOp op a pos) (tM c (una g ma)) :=
  pe_cq (pe_un ho ha) fun _ _ _ ⟨pa, H0, F0, F, r, ok, po⟩ => seqM ok po fun d r1 F1 H1 v k1 e1 dp q => by
    obtain ⟨z, hz, q3⟩ := opt_po q
    exact ⟨F1, d, z, k1.fH, dp, hz, op_end (r' := r1) k1 fun F' H' v ok ex dp => q3 F' H' v ok (e1.trans ex) dp⟩
theorem e_ix {g : D → D → Option D} {a b : Expr} {ma mb : M D} {pos : Pos} (ho : IxR X (rD2 c.K g)) (ha : PE X a (tM c ma)) (hb : PE X b (tM c mb)) (hs : PlainIx b := by exact fun _ _ => rfl) : PE X (.Subscript a b pos) (tM c (bin g ma mb)) :=
  pe_cq (pe_ix ho ha hb hs) fun _ _ _ h => bin_ok h
theorem e_callB {id : String} {g : List D → Option D} {x : Str} {e : Expr} {es : List Expr} {p pos : Pos} {ms : M (List D)} (hc : CallR X (.builtin id) (rDA c.K g)) (hm : X.mg x = none) (ha : PA X (e :: es) (tA c ms)) (hg : Gl X x := by rfl) (hv : bootBuiltins x = some (.builtin id) := by decide +kernel) (hn : x ≠ "__name__" := by decide) (hdb : (x == ("__debug__" : Str)) = false := by decide)
    (he : starEach (e :: es) X.env = (false, eval e X.env) :: starEach es X.env := by rfl) (hpl : (backTo pos (starEach es X.env)).any (·.1) = false := by rfl) : PE X (.Call (.Name x p) (e :: es) [] pos) (tM c (nry g ms)) :=
  pe_cq (pe_callB hc hg hm hv ha hn hdb he hpl) fun _ _ _ ⟨pa, H0, F0, F, r, ok, po⟩ => seqA ok po fun ds r1 F1 H1 vs k1 e1 dps q => by
    obtain ⟨z, hz, q3⟩ := opt_po q
    exact ⟨F1, ds, z, k1.fH, dps, hz, op_end (r' := r1) k1 fun F' H' v ok ex dp => q3 F' H' v ok (e1.trans ex) dp⟩
theorem e_callT {T : String} {g : List D → Option D} {x : Str} {e : Expr} {es : List Expr} {p pos : Pos} {ms : M (List D)} (hc : CallR X (.type T) (rDA c.K g)) (hm : X.mg x = none) (ha : PA X (e :: es) (tA c ms)) (hg : Gl X x := by rfl) (hv : bootBuiltins x = some (.type T) := by decide +kernel) (hn : x ≠ "__name__" := by decide) (hdb : (x == ("__debug__" : Str)) = false := by decide)
    (he : starEach (e :: es) X.env = (false, eval e X.env) :: starEach es X.env := by rfl) (hpl : (backTo pos (starEach es X.env)).any (·.1) = false := by rfl) : PE X (.Call (.Name x p) (e :: es) [] pos) (tM c (nry g ms)) :=
  pe_cq (pe_callTy hc hg hm hv ha hn hdb he hpl) fun _ _ _ ⟨pa, H0, F0, F, r, ok, po⟩ => seqA ok po fun ds r1 F1 H1 vs k1 e1 dps q => by
    obtain ⟨z, hz, q3⟩ := opt_po q
    exact ⟨F1, ds, z, k1.fH, dps, hz, op_end (r' := r1) k1 fun F' H' v ok ex dp => q3 F' H' v ok (e1.trans ex) dp⟩
theorem oA_end {pa : Nat → Addr} {H0 F0 F H : Hp} {st : L2.St} {r : En} {z : List D} {Q : VK} (k : Ok c.K pa H0 F0 F H st r) (q : ∀ F' H' v, Ok c.K pa H0 F0 F' H' st r → Ex F F' → RvOk c.K H0 F' H' st r v (.o (.l z)) → Q v H') :
    ∀ p vs, H p = none → RpAll c.K F vs z → Q (.ref p) (upd H p (.lst vs)) := fun p vs np dp => q F _ _ (k.lay np) (Ex.refl F) ⟨p, rfl, k.fH.nn np, k.hH.nn np, ⟨vs, upd_same, dp⟩, .l (k.nobody np).upd⟩
theorem o_callT {T : String} {g : List D → Option (List D)} {x : Str} {e : Expr} {es : List Expr} {p pos : Pos} {ms : M (List D)} (hc : CallR X (.type T) (rDAo c.K g)) (hm : X.mg x = none) (ha : PA X (e :: es) (tA c ms)) (hg : Gl X x := by rfl) (hv : bootBuiltins x = some (.type T) := by decide +kernel) (hn : x ≠ "__name__" := by decide) (hdb : (x == ("__debug__" : Str)) = false := by decide)
    (he : starEach (e :: es) X.env = (false, eval e X.env) :: starEach es X.env := by rfl) (hpl : (backTo pos (starEach es X.env)).any (·.1) = false := by rfl) : PE X (.Call (.Name x p) (e :: es) [] pos) (tO c (nryO g ms)) :=
  pe_cq (pe_callTy hc hg hm hv ha hn hdb he hpl) fun _ _ _ ⟨pa, H0, F0, F, r, ok, po⟩ => seqA ok po fun ds r1 F1 H1 vs k1 e1 dps q => by
    obtain ⟨z, hz, q3⟩ := opt_po q
    cases hg2 : g ds with
    | none =>
      rw [hg2] at hz
      cases hz
    | some w =>
      rw [hg2] at hz
      cases hz
      exact ⟨F1, ds, w, k1.fH, dps, hg2, oA_end k1 fun F' H' v ok ex dp => q3 F' H' v ok (e1.trans ex) dp⟩
theorem o_callB {id : String} {g : List D → Option (List D)} {x : Str} {e : Expr} {es : List Expr} {p pos : Pos} {ms : M (List D)} (hc : CallR X (.builtin id) (rDAo c.K g)) (hm : X.mg x = none) (ha : PA X (e :: es) (tA c ms)) (hg : Gl X x := by rfl) (hv : bootBuiltins x = some (.builtin id) := by decide +kernel) (hn : x ≠ "__name__" := by decide) (hdb : (x == ("__debug__" : Str)) = false := by decide)
    (he : starEach (e :: es) X.env = (false, eval e X.env) :: starEach es X.env := by rfl) (hpl : (backTo pos (starEach es X.env)).any (·.1) = false := by rfl) : PE X (.Call (.Name x p) (e :: es) [] pos) (tO c (nryO g ms)) :=
  pe_cq (pe_callB hc hg hm hv ha hn hdb he hpl) fun _ _ _ ⟨pa, H0, F0, F, r, ok, po⟩ => seqA ok po fun ds r1 F1 H1 vs k1 e1 dps q => by
    obtain ⟨z, hz, q3⟩ := opt_po q
    cases hg2 : g ds with
    | none =>
      rw [hg2] at hz
      cases hz
    | some w =>
      rw [hg2] at hz
      cases hz
      exact ⟨F1, ds, w, k1.fH, dps, hg2, oA_end k1 fun F' H' v ok ex dp => q3 F' H' v ok (e1.trans ex) dp⟩
/-! ### tests -/
def tru : D → Option Bool
  | .none => some false
  | .bool b => some b
  | .int i => some (i != 0)
  | .str x => if x.length ≤ 16777216 then some ((x.length : Int) != 0) else none
  | .list ds => some (!ds.isEmpty)
  | .tuple ds => some (!ds.isEmpty)
  | .dict _ => none
def tBool (m : M D) : M Bool := m.bind fun d => M.opt (match d with
  | .bool b => some b
  | _ => none)
def tTru (m : M D) : M Bool := m.bind fun d => M.opt (tru d)
def tNotM (m : M Bool) : M Bool := m.bind fun b => M.ret (!b)
def tAndM (m n : M Bool) : M Bool := m.bind fun b => if b = true then n else M.ret false
def tOrM (m n : M Bool) : M Bool := m.bind fun b => if b = true then M.ret true else n
theorem dpa_emp {K : PySem.W.Frag} {F : Hp} : ∀ {vs : List V} {ds : List D}, RpAll K F vs ds → (!ds.isEmpty) = !vs.isEmpty
  | _, _, .nil => rfl
  | _, _, .cons _ _ => rfl
/-- a comparison as a test -/
theorem t_cmp {op : CmpOp} {g : D → D → Option D} {a b : Expr} {ma mb : M D} {pos : Pos} (ho : OpR X (compareOp op) (rD2 c.K g)) (ha : PE X a (tM c ma)) (hb : PE X b (tM c mb)) (hm : behindInMarks op b = false := by first | exact nomark _ | rfl) : PT X (.Compare a [op] [b] pos) (tT c (tBool (bin g ma mb))) :=
  pt_cq (pt_cmpR ho ha hb hm) fun st H Q h => by
    obtain ⟨pa, H0, F0, F, r, ok, po⟩ := h
    refine bin_ok ?_
    refine seqM ok po fun d r1 F1 H1 v k1 e1 dp q => ?_
    obtain ⟨b, hb, q⟩ := opt_po q
    cases dp with
    | bl b' =>
      cases hb
      exact ⟨_, rfl, q F1 H1 k1 e1⟩
    | _ => cases hb
theorem t_tru {e : Expr} {m : M D} (h : PE X e (tM c m)) (hK : c.K = X.K := by rfl) (he : ∀ whole, isTrue e X.env whole = (do let v ← whole; standAt e.pos; holding [v] (truthy v)) := by intro _; rfl) : PT X e (tT c (tTru m)) :=
  pt_cq (pt_truth h he) fun st H Q ⟨pa, H0, F0, F, r, ok, po⟩ => seqM ok po fun d r1 F1 H1 v k1 e1 dp q => by
    obtain ⟨b, hb, q⟩ := opt_po q
    have fin := q F1 H1 k1 e1
    cases dp with
    | non => cases hb; exact ⟨_, rfl, fin⟩
    | bl b' => cases hb; exact ⟨_, rfl, fin⟩
    | int i => cases hb; exact ⟨_, rfl, fin⟩
    | str x =>
      have hb : (if x.length ≤ 16777216 then some ((x.length : Int) != 0) else none) = some b := hb
      by_cases hx : x.length ≤ 16777216
      · rw [if_pos hx] at hb
        cases hb
        exact ⟨_, ⟨by rw [sizeLine_eq]; exact hx, rfl⟩, fin⟩
      · rw [if_neg hx] at hb
        cases hb
    | lst h1 h2 =>
      cases hb
      exact ⟨_, .inl ⟨_, by rw [← hK]; exact k1.fH.l h1, dpa_emp h2⟩, fin⟩
    | tup h1 h2 =>
      cases hb
      exact ⟨_, .inr (.inl ⟨_, by rw [← hK]; exact k1.fH.t h1, dpa_emp h2⟩), fin⟩
    | _ => cases hb
theorem t_not {e : Expr} {m : M Bool} {pos : Pos} (h : PT X e (tT c m)) : PT X (.UnaryOp .Not e pos) (tT c (tNotM m)) :=
  pt_cq (pt_not h) fun st H Q ⟨pa, H0, F0, F, r, ok, po⟩ => seqT ok po fun b r1 F1 H1 k1 e1 q => q F1 H1 k1 e1
theorem w_and1 {e : Expr} {m : M Bool} {pos : Pos} (h : PT X e (tT c m)) : PW X (.BoolOp .And [e] pos) (tT c m) := pw_and1 h
theorem w_or1 {e : Expr} {m : M Bool} {pos : Pos} (h : PT X e (tT c m)) : PW X (.BoolOp .Or [e] pos) (tT c m) := pw_or1 h
theorem w_and {a b : Expr} {rest : List Expr} {m n : M Bool} {pos : Pos} (h : PT X a (tT c m)) (h2 : PW X (.BoolOp .And (b :: rest) pos) (tT c n)) : PW X (.BoolOp .And (a :: b :: rest) pos) (tT c (tAndM m n)) :=
  pw_cq (pw_and h h2) fun st H Q ⟨pa, H0, F0, F, r, ok, po⟩ => seqT ok po fun b r1 F1 H1 k1 e1 q => by
    cases b with
    | true => exact againT k1 e1 q
    | false => exact q F1 H1 k1 e1
theorem w_or {a b : Expr} {rest : List Expr} {m n : M Bool} {pos : Pos} (h : PT X a (tT c m)) (h2 : PW X (.BoolOp .Or (b :: rest) pos) (tT c n)) : PW X (.BoolOp .Or (a :: b :: rest) pos) (tT c (tOrM m n)) :=
  pw_cq (pw_or h h2) fun st H Q ⟨pa, H0, F0, F, r, ok, po⟩ => seqT ok po fun b r1 F1 H1 k1 e1 q => by
    cases b with
    | true => exact q F1 H1 k1 e1
    | false => exact againT k1 e1 q
/-! ### and, or, not as values -/
def eNot (m : M D) : M D := (tBool m).bind fun b => M.ret (.bool (!b))
def eAnd (m n : M D) : M D := (tBool m).bind fun b => if b = true then n else M.ret (.bool false)
def eOr (m n : M D) : M D := (tBool m).bind fun b => if b = true then M.ret (.bool true) else n
theorem seqB {α : Type} {pa : Nat → Addr} {H0 F0 F H : Hp} {st : L2.St} {r : En} {ma : M D} {f : Bool → M α} {k : α → En → Prop} {Q : VK} (ok : Ok c.K pa H0 F0 F H st r) (po : Po (XW c pa H0 F0 F) ((tBool ma).bind f r) k)
    (h : ∀ b r1 F1 H1, Ok c.K pa H0 F0 F1 H1 st r1 → Ex F F1 → Po (XW c pa H0 F0 F1) (f b r1) k → Q (.bl b) H1) : tM c ma st H Q := by
  have po2 : Po (XW c pa H0 F0 F) (ma.bind (fun d => (M.opt (match d with
    | .bool b => some b
    | _ => none)).bind f) r) k := by
    unfold tBool M.bind at po
    unfold M.bind
    cases hm : ma r with
    | ok d r1 =>
      rw [hm] at po
      exact po
    | ex e r1 =>
      rw [hm] at po
      exact po
    | no =>
      rw [hm] at po
      exact po
  refine seqM ok po2 fun d r1 F1 H1 v k1 e1 dp q => ?_
  cases dp with
  | bl b => exact h b r1 F1 H1 k1 e1 q
  | _ => exact q.elim
theorem e_not {e : Expr} {m : M D} {pos : Pos} (h : PE X e (tM c m)) : PE X (.UnaryOp .Not e pos) (tM c (eNot m)) :=
  pe_cq (pe_not h) fun st H Q ⟨pa, H0, F0, F, r, ok, po⟩ => seqB ok po fun b r1 F1 H1 k1 e1 q => ⟨b, rfl, q F1 H1 _ k1 e1 (.bl _)⟩
theorem e_one {op} {e : Expr} {m : M D} {pos : Pos} (h : PE X e (tM c m)) : PE X (.BoolOp op [e] pos) (tM c m) := pe_one h
theorem e_and {a b : Expr} {rest : List Expr} {m n : M D} {pos : Pos} (h : PE X a (tM c m)) (h2 : PE X (.BoolOp .And (b :: rest) pos) (tM c n)) : PE X (.BoolOp .And (a :: b :: rest) pos) (tM c (eAnd m n)) :=
  pe_cq (pe_and h h2) fun st H Q ⟨pa, H0, F0, F, r, ok, po⟩ => seqB ok po fun b r1 F1 H1 k1 e1 q => ⟨b, rfl, by
    cases b with
    | true => exact againM k1 e1 q
    | false => exact q F1 H1 _ k1 e1 (.bl _)⟩
/-- a if t else b -/
def eIf (t : M Bool) (m n : M D) : M D := t.bind fun b => if b = true then m else n
end
end Pu
namespace Pu
open PySem PySem.Spec PyProof.Rows L2
variable [TabT]
/-! ### storing -/
def setN (i : Nat) (s : Sl) (r : En) : Option En := match r[i]? with
  | some (.io _) => none
  | some .pin => none
  | some _ => some (r.set i s)
  | none => none
theorem setN_some {i : Nat} {s : Sl} {r r' : En} (h : setN i s r = some r') : r' = r.set i s ∧ ∀ q, r[i]? = some q → q.isIo = false := by
  unfold setN at h
  split at h
  · cases h
  · cases h
  · rename_i q hn hp hq
    cases h
    refine ⟨rfl, fun q' e => ?_⟩
    rw [hq] at e
    cases e
    cases q with
    | io c => exact absurd rfl (hn c)
    | pin => exact absurd rfl hp
    | _ => rfl
  · cases h
def setM (i : Nat) (s : Sl) : M Fl := fun r => match setN i s r with
  | some r' => .ok .nx r'
  | none => .no
theorem setM_po {i : Nat} {s : Sl} {r : En} {Xp : Exn → En → Prop} {k : Fl → En → Prop} (h : Po Xp (setM i s r) k) : k .nx (r.set i s) ∧ ∀ q, r[i]? = some q → q.isIo = false := by
  unfold setM at h
  cases e : setN i s r with
  | none =>
    rw [e] at h
    exact h.elim
  | some r' =>
    rw [e] at h
    obtain ⟨rfl, h2⟩ := setN_some e
    exact ⟨h, h2⟩
def slOf : RV → Sl
  | .v d => .v d
  | .o c => .o c
def sSet (i : Nat) (m : M D) : M Fl := m.bind fun d => setM i (.v d)
def sSetO (i : Nat) (m : M RV) : M Fl := m.bind fun d => setM i (slOf d)
def sNil : M Fl := M.ret .nx
def sSeq (m n : M Fl) : M Fl := m.bind fun fl => match fl with
  | .nx => n
  | f => M.ret f
def sIf (t : M Bool) (a b : M Fl) : M Fl := t.bind fun x => if x = true then a else b
def sRet (m : M RV) : M Fl := m.bind fun d => M.ret (.rt d)
def sDrop (m : M D) : M Fl := m.bind fun _ => M.ret .nx
def sDropO (m : M RV) : M Fl := m.bind fun _ => M.ret .nx
section
variable {X : Cx} {c : Cc} {K : PySem.W.Frag} {pa : Nat → Addr} {H0 F0 F H : Hp} {st0 : L2.St} {r0 : En}
theorem Ok.setRv (k : Ok K pa H0 F0 F H st0 r0) {i : Nat} {v : V} {d : RV} (hi : ∀ q, r0[i]? = some q → q.isIo = false) (h : RvOk K H0 F H st0 r0 v d) : Ok K pa H0 F0 F H (st0.set i (some v)) (r0.set i (slOf d)) := by
  cases d with
  | v d => exact k.setV hi h
  | o ct =>
    obtain ⟨a, rfl, z1, z2, z3, z4⟩ := h
    refine k.set (s := .o ct) hi rfl ⟨a, rfl, z1, z2, z3⟩ fun a' c' e0 e => ?_
    cases e
    cases e0
    exact ⟨z4.1.unk, fun b hb => by
      obtain ⟨g1, g2, g3, g4⟩ := z4.2 b hb
      exact ⟨g1, g2, g3, g4.unk⟩⟩
theorem s_set {i : Nat} {x : Str} {e : Expr} {m : M D} {pos pos' : Pos} (he : PE X e (tM c m)) (hN : X.N.Nodup) (hi : X.N[i]? = some x := by rfl) (hx : Loc X.env.scope x := by first | exact Or.inl rfl | exact Or.inr rfl)
    (hs : swapsWith e (some (.Name x pos')) pos.line X.env = pure false := by rfl) (hf : X.fn x = true ∨ X.env.scope.names.lookup x = some .local := by first | exact .inl rfl | exact .inr rfl) : PS X (.Assign [.Name x pos'] e pos) (sM c (sSet i m)) :=
  ps_cq (ps_set hN hi hx he hs hf) fun Dd st H ⟨pa, H0, F0, F, r, ok, po⟩ => seqM ok po fun d r1 F1 H1 v k1 e1 dp q => by
    obtain ⟨q, hi⟩ := setM_po q
    exact q F1 H1 _ (k1.setV hi dp) e1
theorem s_setO {i : Nat} {x : Str} {e : Expr} {m : M RV} {pos pos' : Pos} (he : PE X e (tO c m)) (hN : X.N.Nodup) (hi : X.N[i]? = some x := by rfl) (hx : Loc X.env.scope x := by first | exact Or.inl rfl | exact Or.inr rfl)
    (hs : swapsWith e (some (.Name x pos')) pos.line X.env = pure false := by rfl) (hf : X.fn x = true ∨ X.env.scope.names.lookup x = some .local := by first | exact .inl rfl | exact .inr rfl) : PS X (.Assign [.Name x pos'] e pos) (sM c (sSetO i m)) :=
  ps_cq (ps_set hN hi hx he hs hf) fun Dd st H ⟨pa, H0, F0, F, r, ok, po⟩ => seqO ok po fun d r1 F1 H1 v k1 e1 dp q => by
    obtain ⟨q, hi⟩ := setM_po q
    exact q F1 H1 _ (k1.setRv hi dp) e1
theorem ss_nil : PSs X [] (sM c sNil) := pss_cq pss_nil fun Dd st H ⟨pa, H0, F0, F, r, ok, po⟩ => po F H st ok (Ex.refl F)
theorem seqS {s1 : M Fl} {t : TS} {n : M Fl} {Dd : Ends} {st : L2.St} {H : Hp} (h : sM c (sSeq s1 n) Dd st H) (ht : ∀ Dd st H, sM c n Dd st H → t Dd st H) : sM c s1 { Dd with nx := t Dd } st H := by
  obtain ⟨pa, H0, F0, F, r, ok, po⟩ := h
  refine ⟨pa, H0, F0, F, r, ok, (Po.bind po).mono (fun _ _ x => x) fun fl r1 q => ?_⟩
  cases fl with
  | nx => exact fun F' H' st' k e => ht Dd st' H' (againS k e (q.mono (XW.mono e) fun _ _ x => x))
  | bk => exact q
  | ct => exact q
  | rt rv => exact q
theorem ss_cons {s : Stmt} {rest : List Stmt} {m n : M Fl} (h1 : PS X s (sM c m)) (h2 : PSs X rest (sM c n)) : PSs X (s :: rest) (sM c (sSeq m n)) :=
  pss_cq (pss_cons h1 h2) fun Dd st H h => seqS h fun _ _ _ x => x
theorem ss_one {s : Stmt} {m : M Fl} (h1 : PS X s (sM c m)) : PSs X [s] (sM c m) := pss_one h1
theorem s_if {t : Expr} {a b : List Stmt} {mt : M Bool} {ma mb : M Fl} {pos : Pos} (ht : PT X t (tT c mt)) (ha : PSs X a (sM c ma)) (hb : PSs X b (sM c mb)) : PS X (.If t a b pos) (sM c (sIf mt ma mb)) :=
  ps_cq (ps_if ht ha hb) fun Dd st H ⟨pa, H0, F0, F, r, ok, po⟩ => seqT ok po fun b r1 F1 H1 k1 e1 q => by
    cases b with
    | true => exact againS k1 e1 q
    | false => exact againS k1 e1 q
theorem s_ret {e : Expr} {m : M RV} {pos : Pos} (h : PE X e (tO c m)) : PS X (.Return (some e) pos) (sM c (sRet m)) :=
  ps_cq (ps_ret h) fun Dd st H ⟨pa, H0, F0, F, r, ok, po⟩ => seqO ok po fun d r1 F1 H1 v k1 e1 dp q => q F1 H1 st v k1 e1 dp
theorem s_exprO {e : Expr} {m : M RV} {pos : Pos} (h : PE X e (tO c m)) (hs : swapsWith e none pos.line X.env = pure false := by rfl) : PS X (.Expr e pos) (sM c (sDropO m)) :=
  ps_cq (ps_expr h hs) fun Dd st H ⟨pa, H0, F0, F, r, ok, po⟩ => seqO ok po fun d r1 F1 H1 v k1 e1 dp q => q F1 H1 st k1 e1
/-! ### an owned variable frozen, taken -/
def frzE (i : Nat) (r : En) : En := match r[i]? with
  | some (.o (.l ds)) => r.set i (.v (.list ds))
  | some (.o (.n t)) => (match t.data with
    | some d => r.set i (.v d)
    | none => r)
  | _ => r
def frz (i : Nat) {α : Type} (m : M α) : M α := fun r => m (frzE i r)
theorem Ok.frzE (k : Ok K pa H0 F0 F H st0 r0) (i : Nat) : ∃ F', Ok K pa H0 F0 F' H st0 (frzE i r0) ∧ Ex F F' := by
  unfold Pu.frzE
  split
  · exact k.freeze (by assumption)
  · split
    · exact k.freezeN (by assumption) (by assumption)
    · exact ⟨F, k, Ex.refl F⟩
  · exact ⟨F, k, Ex.refl F⟩
theorem s_frz (i : Nat) {s : Stmt} {m : M Fl} (h : PS X s (sM c m)) : PS X s (sM c (frz i m)) :=
  ps_cq h fun Dd st H ⟨pa, H0, F0, F, r, ok, po⟩ => by
    obtain ⟨F', k, e⟩ := ok.frzE i
    exact ⟨pa, H0, F0, F', _, k, po.mono (XW.mono e) fun _ _ q => q.mono e⟩
def takeS (i : Nat) : M RV := fun r => match r[i]? with
  | some (.v d) => .ok (.v d) r
  | some (.o ct) => .ok (.o ct) (r.set i .unk)
  | _ => .no
theorem set_same {st : L2.St} {i : Nat} {v : Option V} (h : st[i]? = some v) : st.set i v = st := by
  apply List.ext_getElem?
  intro j
  by_cases e : i = j
  · subst e
    rw [List.getElem?_set_self (List.getElem?_eq_some_iff.mp h).1, h]
  · rw [List.getElem?_set_ne e]
theorem o_take (i : Nat) {x : Str} {pos : Pos} (hN : X.N[i]? = some x := by rfl) (hv : Vis X.env.scope x := by first | exact Or.inl rfl | exact Or.inr (Or.inl rfl) | exact Or.inr (Or.inr rfl)) (hd : (x == ("__debug__" : Str)) = false := by decide)
    (hcd : (x == ("__classdict__" : Str)) = false := by decide) : PE X (.Name x pos) (tO c (takeS i)) :=
  pe_cq (pe_var (i := i) hN hv hd hcd) fun st H Q ⟨pa, H0, F0, F, r, ok, po⟩ => by
    unfold takeS at po
    split at po
    · rename_i d h
      obtain ⟨v, e1, e2⟩ := ok.val h
      exact ⟨v, e1, po F H v ok (Ex.refl F) e2⟩
    · rename_i ct h
      obtain ⟨a, z1, z2, z3, z4⟩ := ok.ownd h rfl
      have k2 := ok.forget (i := i) (x := some (V.ref a))
      rw [set_same z1] at k2
      have aw := ok.away (x := some (V.ref a)) h rfl z1
      rw [set_same z1] at aw
      exact ⟨_, z1, po F H _ k2 (Ex.refl F) ⟨a, rfl, z2, z3, z4, aw⟩⟩
    · exact po.elim
end
/-! ### targets -/
def Agr (is : List Nat) (st st' : L2.St) : Prop := st'.length = st.length ∧ ∀ j, j ∉ is → st'[j]? = st[j]?
/-- what is stored where: a datum to a target -/
abbrev Tg := D → En → Option En
abbrev Tgs := List D → En → Option En
def gM (K : PySem.W.Frag) (is : List Nat) (tg : Tg) : TG := fun v st H Q => ∃ pa H0 F0 F r d r', Ok K pa H0 F0 F H st r ∧ Rp K F v d ∧ tg d r = some r' ∧ ∀ st', Ok K pa H0 F0 F H st' r' → Agr is st st' → Q st' H
def gMs (K : PySem.W.Frag) (is : List Nat) (tg : Tgs) : TGs := fun vs st H Q => ∃ pa H0 F0 F r ds r', Ok K pa H0 F0 F H st r ∧ RpAll K F vs ds ∧ tg ds r = some r' ∧ ∀ st', Ok K pa H0 F0 F H st' r' → Agr is st st' → Q st' H
def gN (i : Nat) : Tg := fun d r => setN i (.v d) r
def gT (tg : Tgs) : Tg := fun d r => match d with
  | .tuple ds => tg ds r
  | .list ds => tg ds r
  | _ => none
def gNl : Tgs := fun ds r => match ds with
  | [] => some r
  | _ => none
def gCn (t : Tg) (ts : Tgs) : Tgs := fun ds r => match ds with
  | d :: ds => (t d r).bind fun r' => ts ds r'
  | _ => none
section
variable {X : Cx} {c : Cc}
theorem pg_cq {e : Expr} {t t' : TG} (h : PG X e t) (i : ∀ v st H Q, t' v st H Q → t v st H Q) : PG X e t' := ⟨fun pins s st H v u Q I rv q => h.run pins s st H v u Q I rv (i v st H Q q)⟩
theorem pgs_cq {e : List Expr} {t t' : TGs} (h : PGs X e t) (i : ∀ v st H Q, t' v st H Q → t v st H Q) : PGs X e t' := ⟨fun pins s st H v u Q I rv q => h.run pins s st H v u Q I rv (i v st H Q q)⟩
theorem g_name (i : Nat) {K : PySem.W.Frag} {x : Str} {pos : Pos} (hN : X.N.Nodup) (hi : X.N[i]? = some x := by rfl) (hx : Loc X.env.scope x := by first | exact Or.inl rfl | exact Or.inr rfl) (hf : X.fn x = true ∨ X.env.scope.names.lookup x = some .local := by first | exact .inl rfl | exact .inr rfl) : PG X (.Name x pos) (gM K [i] (gN i)) :=
  pg_cq (pg_name hN hi hx hf) fun v st H Q ⟨pa, H0, F0, F, r, d, r', ok, dp, e, q⟩ => by
    obtain ⟨rfl, h2⟩ := setN_some e
    exact q _ (ok.setV h2 dp) ⟨List.length_set, fun j hj => List.getElem?_set_ne (fun z => hj (by rw [z]; exact List.mem_singleton.mpr rfl))⟩
theorem g_nil {K : PySem.W.Frag} : PGs X [] (gMs K [] gNl) := pgs_cq pgs_nil fun v st H Q ⟨pa, H0, F0, F, r, ds, r', ok, dp, e, q⟩ => by
  cases dp with
  | nil =>
    cases e
    exact ⟨rfl, q st ok ⟨rfl, fun _ _ => rfl⟩⟩
  | cons _ _ => cases e
theorem g_cons {K : PySem.W.Frag} {e : Expr} {es : List Expr} {is js : List Nat} {t : Tg} {ts : Tgs} (h1 : PG X e (gM K is t)) (h2 : PGs X es (gMs K js ts)) (hs : (assignEach (e :: es) X.env).map (·.2) = assign e X.env :: (assignEach es X.env).map (·.2) := by rfl) : PGs X (e :: es) (gMs K (is ++ js) (gCn t ts)) :=
  pgs_cq (pgs_cons h1 h2 hs) fun v st H Q ⟨pa, H0, F0, F, r, ds, r', ok, dp, e, q⟩ => by
    cases dp with
    | nil => cases e
    | @cons v0 vs d ds d0 dr =>
      have e : (t d r).bind (fun r' => ts ds r') = some r' := e
      cases ht : t d r with
      | none =>
        rw [ht] at e
        cases e
      | some r1 =>
        rw [ht] at e
        refine ⟨v0, vs, rfl, pa, H0, F0, F, r, d, r1, ok, d0, ht, fun st' k1 ag => ⟨pa, H0, F0, F, r1, ds, r', k1, dr, e, fun st2 k2 ag2 => q st2 k2 ⟨ag2.1.trans ag.1, fun j hj => ?_⟩⟩⟩
        rw [ag2.2 j (fun z => hj (List.mem_append_right _ z)), ag.2 j (fun z => hj (List.mem_append_left _ z))]
theorem pg_or' {e : Expr} {t t' : TG} (h : PG X e t) (h' : PG X e t') : PG X e (fun v st H Q => t v st H Q ∨ t' v st H Q) := ⟨fun pins s st H v u Q I rv q => q.elim (h.run pins s st H v u Q I rv) (h'.run pins s st H v u Q I rv)⟩
theorem g_tup {es : List Expr} {k : Nat} {pos : Pos} {is : List Nat} {ts : Tgs} {n : Nat} (h : PGs X es (gMs X.K is ts)) (hl : ∀ ds r r', ts ds r = some r' → ds.length = n) (hc : X.calm = true := by rfl) (hn : (assignEach es X.env).length = n := by rfl) (hst : (assignEach es X.env).findIdx? (·.1) = none := by rfl) : PG X (.Tuple es k pos) (gM X.K is (gT ts)) :=
  pg_cq (pg_or' (pg_tup hc h hn hst) (pg_unl hc h hn hst)) fun v st H Q ⟨pa, H0, F0, F, r, d, r', ok, dp, e, q⟩ => by
    cases dp with
    | @tup a xs ds h1 h2 =>
      have e : ts ds r = some r' := e
      exact .inl ⟨a, xs, rfl, ok.fH.t h1, (dpa_len h2).trans (hl _ _ _ e), pa, H0, F0, F, r, ds, r', ok, h2, e, q⟩
    | @lst a xs ds h1 h2 =>
      have e : ts ds r = some r' := e
      exact .inr ⟨a, xs, rfl, ok.fH.l h1, (dpa_len h2).trans (hl _ _ _ e), pa, H0, F0, F, r, ds, r', ok, h2, e, q⟩
    | _ => cases e
theorem gNl_len : ∀ ds r r', gNl ds r = some r' → ds.length = 0 := fun ds r r' h => by
  cases ds with
  | nil => rfl
  | cons _ _ => cases h
theorem gCn_len {t : Tg} {ts : Tgs} {n : Nat} (h : ∀ ds r r', ts ds r = some r' → ds.length = n) : ∀ ds r r', gCn t ts ds r = some r' → ds.length = n + 1 := fun ds r r' e => by
  cases ds with
  | nil => cases e
  | cons d ds =>
    have e : (t d r).bind (fun r' => ts ds r') = some r' := e
    cases ht : t d r with
    | none =>
      rw [ht] at e
      cases e
    | some r1 =>
      rw [ht] at e
      exact congrArg Nat.succ (h ds r1 r' e)
/-- target = e -/
def sAsg (tg : Tg) (m : M D) : M Fl := m.bind fun d r => match tg d r with
  | some r' => .ok .nx r'
  | none => .no
theorem s_asg {tg e : Expr} {m : M D} {is : List Nat} {t : Tg} {pos : Pos} (he : PE X e (tM c m)) (hg : PG X tg (gM c.K is t)) (hs : swapsWithSole [tg] e pos.line X.env = pure false := by rfl) (hw : swappedStores [tg] e X.env = pure none := by rfl)
    (h1 : (assignEach [tg] X.env).map (·.2) = [assign tg X.env] := by rfl) : PS X (.Assign [tg] e pos) (sM c (sAsg t m)) :=
  ps_cq (ps_asg he hg hs hw h1) fun Dd st H ⟨pa, H0, F0, F, r, ok, po⟩ => seqM ok po fun d r1 F1 H1 v k1 e1 dp q => by
    cases ht : t d r1 with
    | none =>
      rw [ht] at q
      exact q.elim
    | some r2 =>
      rw [ht] at q
      exact ⟨pa, H0, F0, F1, r1, d, r2, k1, dp, ht, fun st' k2 _ => q F1 H1 st' k2 e1⟩
/-- x, y = a, b -/
def sPar (i j : Nat) (ms : M (List D)) : M Fl := ms.bind fun ds => match ds with
  | [a, b] => fun r => match (setN i (.v a) r).bind (setN j (.v b)) with
    | some r' => .ok .nx r'
    | none => .no
  | _ => M.no
end
/-! ### loops -/
def forL (tg : Tg) (b : M Fl) : List D → M Fl
  | [], r => .ok .nx r
  | x :: xs, r => match tg x r with
    | none => .no
    | some r1 => match b r1 with
      | .ok .nx r2 => forL tg b xs r2
      | .ok .ct r2 => forL tg b xs r2
      | .ok .bk r2 => .ok .nx r2
      | .ok (.rt v) r2 => .ok (.rt v) r2
      | .ex e r2 => .ex e r2
      | .no => .no
def sFor (src : M (List D)) (tg : Tg) (b : M Fl) : M Fl := src.bind fun xs => forL tg b xs
def wloop (t : M Bool) (b : M Fl) : Nat → M Fl
  | 0, _ => .no
  | n + 1, r => match t r with
    | .ok true r1 => (match b r1 with
      | .ok .nx r2 => wloop t b n r2
      | .ok .ct r2 => wloop t b n r2
      | .ok .bk r2 => .ok .nx r2
      | .ok (.rt v) r2 => .ok (.rt v) r2
      | .ex e r2 => .ex e r2
      | .no => .no)
    | .ok false r1 => .ok .nx r1
    | .ex e r1 => .ex e r1
    | .no => .no
open Classical in
noncomputable def sWhile (t : M Bool) (b : M Fl) : M Fl := fun r => if h : ∃ n, wloop t b n r ≠ .no then wloop t b (Classical.choose h) r else .no
theorem wloop_mono {t : M Bool} {b : M Fl} : ∀ {n : Nat} {r : En}, wloop t b n r ≠ .no → ∀ m, n ≤ m → wloop t b m r = wloop t b n r := by
  intro n
  induction n with
  | zero => intro r h; exact absurd rfl h
  | succ n ih =>
    intro r h m hm
    cases m with
    | zero => omega
    | succ m =>
      have hm : n ≤ m := by omega
      unfold wloop at h ⊢
      cases ht : t r with
      | no => rfl
      | ex e r1 => rfl
      | ok x r1 =>
        rw [ht] at h
        cases x with
        | false => rfl
        | true =>
          have h : (match b r1 with
            | .ok .nx r2 => wloop t b n r2
            | .ok .ct r2 => wloop t b n r2
            | .ok .bk r2 => .ok .nx r2
            | .ok (.rt v) r2 => .ok (.rt v) r2
            | .ex e r2 => .ex e r2
            | .no => .no) ≠ .no := h
          show (match b r1 with
            | .ok .nx r2 => wloop t b m r2
            | .ok .ct r2 => wloop t b m r2
            | .ok .bk r2 => .ok .nx r2
            | .ok (.rt v) r2 => .ok (.rt v) r2
            | .ex e r2 => .ex e r2
            | .no => .no) = (match b r1 with
            | .ok .nx r2 => wloop t b n r2
            | .ok .ct r2 => wloop t b n r2
            | .ok .bk r2 => .ok .nx r2
            | .ok (.rt v) r2 => .ok (.rt v) r2
            | .ex e r2 => .ex e r2
            | .no => .no)
          cases hb : b r1 with
          | no => rfl
          | ex e r2 => rfl
          | ok fl r2 =>
            rw [hb] at h
            cases fl with
            | nx => exact ih h m hm
            | ct => exact ih h m hm
            | bk => rfl
            | rt v => rfl
theorem sWhile_of {t : M Bool} {b : M Fl} {n : Nat} {r : En} {x : Re Fl} (h : wloop t b n r = x) (hx : x ≠ .no) : sWhile t b r = x := by
  have ex : ∃ n, wloop t b n r ≠ .no := ⟨n, by rw [h]; exact hx⟩
  have e : sWhile t b r = wloop t b (Classical.choose ex) r := by
    unfold sWhile
    rw [dif_pos ex]
  have sp := Classical.choose_spec ex
  rw [e]
  rcases Nat.le_total n (Classical.choose ex) with l | l
  · rw [wloop_mono (by rw [h]; exact hx) _ l, h]
  · rw [← wloop_mono sp _ l, h]
theorem sWhile_ex {t : M Bool} {b : M Fl} {r : En} {Xp : Exn → En → Prop} {k : Fl → En → Prop} (h : Po Xp (sWhile t b r) k) : ∃ n, Po Xp (wloop t b n r) k := by
  unfold sWhile at h
  split at h
  · exact ⟨_, h⟩
  · exact h.elim
/-- what is walked: its items -/
structure Yl (K : PySem.W.Frag) (F1 : Hp) (J : It) (xs : List D) : Prop where
  go : ∀ i H, i < xs.length → Ex F1 H → J.go i H
  stop : ∀ H, Ex F1 H → J.stop xs.length H
  yld : ∀ (i : Nat) (H : Hp) (x : V) (H' : Hp) (d : D), xs[i]? = some d → Ex F1 H → J.yld i H x H' → (H' = H ∧ Rp K F1 x d) ∨ ∃ T vs ds, x = .ref T ∧ H T = none ∧ H' = upd H T (.tup vs) ∧ d = .tuple ds ∧ RpAll K F1 vs ds
def iM (c : Cc) (m : M (List D)) : TI := fun st H R => ∃ pa H0 F0 F r, Ok c.K pa H0 F0 F H st r ∧ Po (XW c pa H0 F0 F) (m r) fun xs r' => ∀ F' H' J, Ok c.K pa H0 F0 F' H' st r' → Ex F F' → Yl c.K F' J xs → R J H'
theorem Yl.step {K : PySem.W.Frag} {F1 : Hp} {J : It} {xs : List D} (y : Yl K F1 J xs) {pa : Nat → Addr} {H0 F0 F H : Hp} {st : L2.St} {r : En} (k : Ok K pa H0 F0 F H st r) (e : Ex F1 F) {i : Nat} {x : V} {H' : Hp} {d : D} (hd : xs[i]? = some d) (hy : J.yld i H x H') :
    ∃ F', Ok K pa H0 F0 F' H' st r ∧ Ex F F' ∧ Rp K F' x d := by
  rcases y.yld i H x H' d hd (e.trans k.fH) hy with ⟨rfl, dp⟩ | ⟨T, vs, ds, rfl, nT, rfl, rfl, dps⟩
  · exact ⟨F, k, Ex.refl F, dp_mono e dp⟩
  · have nF := k.fH.nn nT
    exact ⟨_, k.layF nT, Ex.new nF, .tup upd_same (dpa_mono (e.trans (Ex.new nF)) dps)⟩
theorem drop_cons {α : Type} {xs : List α} {i : Nat} {x : α} (h : xs[i]? = some x) : xs.drop i = x :: xs.drop (i + 1) := by
  obtain ⟨hl, e⟩ := List.getElem?_eq_some_iff.mp h
  rw [List.drop_eq_getElem_cons hl, e]
section
variable {X : Cx} {c : Cc}
theorem pi_cq {tg e : Expr} {t t' : TI} (h : PI X tg e t) (i : ∀ st H R, t' st H R → t st H R) : PI X tg e t' := ⟨fun pins s st H R I q => h.run pins s st H R I (i st H R q)⟩
theorem s_for {tg iter : Expr} {body : List Stmt} {src : M (List D)} {is : List Nat} {t : Tg} {mb : M Fl} {pos : Pos} (hi : PI X tg iter (iM c src)) (hg : PG X tg (gM c.K is t)) (hb : PSs X body (sM c mb)) (hp : PassesOwn (model X.prog X.w) X.A X.env X.xe) (hc : X.calm = true := by rfl)
    (hs : ∀ x, foldedSetIterable iter X.env x = pure x := by intro _; rfl) : PS X (.For tg iter body [] pos) (sM c (sFor src t mb)) :=
  ps_cq (ps_for hp hc hi hg hb hs) fun Dd st H ⟨pa, H0, F0, F, r, ok, po⟩ => by
    refine ⟨pa, H0, F0, F, r, ok, (Po.bind po).mono (fun _ _ x => x) fun xs r1 q F1 H1 J k1 e1 y => ?_⟩
    refine ⟨fun i m st H => i + m = xs.length ∧ ∃ F' r', Ok c.K pa H0 F0 F' H st r' ∧ Ex F1 F' ∧ Po (XW c pa H0 F0 F') (forL t mb (xs.drop i) r') (fun fl r' => flEnd c.K pa H0 F0 F' Dd r' fl), ⟨xs.length, by omega, F1, r1, k1, Ex.refl F1, q.mono (XW.mono e1) fun _ _ x => x.mono e1⟩, fun i m st H hW => ?_⟩
    obtain ⟨hm, F', r', k, e, po⟩ := hW
    by_cases hl : i < xs.length
    · have hx : xs[i]? = some xs[i] := List.getElem?_eq_getElem hl
      rw [drop_cons hx] at po
      refine .inr ⟨y.go i H hl (e.trans k.fH), fun st2 H2 => ∃ F2 r2, Ok c.K pa H0 F0 F2 H2 st2 r2 ∧ Ex F1 F2 ∧ Po (XW c pa H0 F0 F2) (forL t mb (xs.drop (i + 1)) r2) (fun fl r' => flEnd c.K pa H0 F0 F2 Dd r' fl), fun st2 H2 ⟨F2, r2, a1, a2, a3⟩ => ⟨m - 1, by omega, by omega, F2, r2, a1, a2, a3⟩, fun x H2 hy => ?_⟩
      obtain ⟨F2, k2, e2, dp2⟩ := y.step k e hx hy
      unfold forL at po
      cases ht : t xs[i] r' with
      | none =>
        rw [ht] at po
        exact po.elim
      | some r2 =>
        rw [ht] at po
        refine ⟨pa, H0, F0, F2, r', xs[i], r2, k2, dp2, ht, fun st3 k3 _ => ?_⟩
        refine ⟨pa, H0, F0, F2, r2, k3, ?_⟩
        have po : Po (XW c pa H0 F0 F') (match mb r2 with
          | .ok .nx r2 => forL t mb (xs.drop (i + 1)) r2
          | .ok .ct r2 => forL t mb (xs.drop (i + 1)) r2
          | .ok .bk r2 => .ok .nx r2
          | .ok (.rt v) r2 => .ok (.rt v) r2
          | .ex e r2 => .ex e r2
          | .no => .no) (fun fl r' => flEnd c.K pa H0 F0 F' Dd r' fl) := po
        cases hb : mb r2 with
        | no =>
          rw [hb] at po
          exact po.elim
        | ex ee r3 =>
          rw [hb] at po
          exact XW.mono e2 _ _ po
        | ok fl r3 =>
          rw [hb] at po
          cases fl with
          | nx => exact fun F4 H4 st4 k4 e4 => ⟨F4, r3, k4, (e.trans e2).trans e4, po.mono (XW.mono (e2.trans e4)) fun _ _ x => x.mono (e2.trans e4)⟩
          | ct => exact fun F4 H4 st4 k4 e4 => ⟨F4, r3, k4, (e.trans e2).trans e4, po.mono (XW.mono (e2.trans e4)) fun _ _ x => x.mono (e2.trans e4)⟩
          | bk => exact fun F4 H4 st4 k4 e4 => po F4 H4 st4 k4 (e2.trans e4)
          | rt rv => exact fun F4 H4 st4 v k4 e4 => po F4 H4 st4 v k4 (e2.trans e4)
    · have ei : i = xs.length := by omega
      subst ei
      rw [List.drop_length] at po
      exact .inl ⟨y.stop H (e.trans k.fH), po F' H st k (Ex.refl F')⟩
theorem s_while {t : Expr} {body : List Stmt} {mt : M Bool} {mb : M Fl} {pos : Pos} (ht : PT X t (tT c mt)) (hb : PSs X body (sM c mb)) (hp : PassesOwn (model X.prog X.w) X.A X.env X.xe) : PS X (.While t body [] pos) (sM c (sWhile mt mb)) :=
  ps_cq (ps_while hp ht hb) fun Dd st H ⟨pa, H0, F0, F, r, ok, po⟩ => by
    obtain ⟨n, po⟩ := sWhile_ex po
    refine ⟨fun m st H => ∃ F' r', Ok c.K pa H0 F0 F' H st r' ∧ Ex F F' ∧ Po (XW c pa H0 F0 F') (wloop mt mb m r') (fun fl r' => flEnd c.K pa H0 F0 F' Dd r' fl), ⟨n, F, r, ok, Ex.refl F, po⟩, fun m st H hW => ?_⟩
    obtain ⟨F', r', k, e, po⟩ := hW
    cases m with
    | zero => exact po.elim
    | succ m =>
      unfold wloop at po
      refine ⟨pa, H0, F0, F', r', k, ?_⟩
      cases h1 : mt r' with
      | no =>
        rw [h1] at po
        exact po.elim
      | ex ee r1 =>
        rw [h1] at po
        exact po
      | ok x r1 =>
        rw [h1] at po
        intro F2 H2 k2 e2
        cases x with
        | false =>
          show Dd.nx st H2
          exact po F2 H2 st k2 e2
        | true =>
          show ∃ N : L2.St → Hp → Prop, _
          refine ⟨fun st2 H2 => ∃ F2 r2, Ok c.K pa H0 F0 F2 H2 st2 r2 ∧ Ex F F2 ∧ Po (XW c pa H0 F0 F2) (wloop mt mb m r2) (fun fl r' => flEnd c.K pa H0 F0 F2 Dd r' fl), fun st2 H2 ⟨F2, r2, a1, a2, a3⟩ => ⟨m, Nat.lt_succ_self m, F2, r2, a1, a2, a3⟩, ?_⟩
          refine ⟨pa, H0, F0, F2, r1, k2, ?_⟩
          have po : Po (XW c pa H0 F0 F') (match mb r1 with
            | .ok .nx r2 => wloop mt mb m r2
            | .ok .ct r2 => wloop mt mb m r2
            | .ok .bk r2 => .ok .nx r2
            | .ok (.rt v) r2 => .ok (.rt v) r2
            | .ex e r2 => .ex e r2
            | .no => .no) (fun fl r' => flEnd c.K pa H0 F0 F' Dd r' fl) := po
          cases hb : mb r1 with
          | no =>
            rw [hb] at po
            exact po.elim
          | ex ee r3 =>
            rw [hb] at po
            exact XW.mono e2 _ _ po
          | ok fl r3 =>
            rw [hb] at po
            cases fl with
            | nx => exact fun F4 H4 st4 k4 e4 => ⟨F4, r3, k4, (e.trans e2).trans e4, po.mono (XW.mono (e2.trans e4)) fun _ _ x => x.mono (e2.trans e4)⟩
            | ct => exact fun F4 H4 st4 k4 e4 => ⟨F4, r3, k4, (e.trans e2).trans e4, po.mono (XW.mono (e2.trans e4)) fun _ _ x => x.mono (e2.trans e4)⟩
            | bk => exact fun F4 H4 st4 k4 e4 => po F4 H4 st4 k4 (e2.trans e4)
            | rt rv => exact fun F4 H4 st4 v k4 e4 => po F4 H4 st4 v k4 (e2.trans e4)
end
end Pu
namespace Pu
open PySem PySem.Spec PyProof.Rows L2
variable [TabT]
/-! ### what is walked -/
theorem pi_or {X : Cx} {tg e : Expr} {t t' : TI} (h : PI X tg e t) (h' : PI X tg e t') : PI X tg e (fun st H R => t st H R ∨ t' st H R) :=
  ⟨fun pins s st H R I q => q.elim (h.run pins s st H R I) (h'.run pins s st H R I)⟩
def seqOf : D → Option (List D)
  | .list ds => some ds
  | .tuple ds => some ds
  | _ => none
def iSeq (m : M D) : M (List D) := m.bind fun d => M.opt (seqOf d)
theorem yl_list {K : PySem.W.Frag} {F : Hp} {a : Addr} {vs : List V} {ds : List D} (h : SqL K F a vs) (hr : RpAll K F vs ds) : Yl K F (Itl K a) ds where
  go := fun i H hi e => by
    have hl := dpa_len hr
    exact ⟨vs, vs[i]'(by omega), e.l h, List.getElem?_eq_getElem (by omega)⟩
  stop := fun H e => ⟨vs, e.l h, by rw [dpa_len hr]; exact Nat.le_refl _⟩
  yld := fun i H x H' d hd e hy => by
    obtain ⟨rfl, q⟩ := hy
    obtain ⟨v, h1, h2⟩ := dpa_get hr hd
    have z := q vs (e.l h)
    rw [h1] at z
    cases z
    exact .inl ⟨rfl, h2⟩
theorem yl_tup {K : PySem.W.Frag} {F : Hp} {a : Addr} {vs : List V} {ds : List D} (h : SqT K F a vs) (hr : RpAll K F vs ds) : Yl K F (Itt K a) ds where
  go := fun i H hi e => by
    have hl := dpa_len hr
    exact ⟨vs, vs[i]'(by omega), e.t h, List.getElem?_eq_getElem (by omega)⟩
  stop := fun H e => ⟨vs, e.t h, by rw [dpa_len hr]; exact Nat.le_refl _⟩
  yld := fun i H x H' d hd e hy => by
    obtain ⟨rfl, q⟩ := hy
    obtain ⟨v, h1, h2⟩ := dpa_get hr hd
    have z := q vs (e.t h)
    rw [h1] at z
    cases z
    exact .inl ⟨rfl, h2⟩
section
variable {X : Cx} {c : Cc}
theorem i_seq {tg e : Expr} {m : M D} (h : PE X e (tM c m)) (hK : c.K = X.K := by rfl) : PI X tg e (iM c (iSeq m)) :=
  pi_cq (pi_or (pi_list h) (pi_tup h)) fun st H R ⟨pa, H0, F0, F, r, ok, po⟩ => by
    have po : Po (XW c pa H0 F0 F) ((m r).bind fun d => M.opt (seqOf d)) _ := po
    cases hm : m r with
    | no =>
      rw [hm] at po
      exact po.elim
    | ex e r1 =>
      rw [hm] at po
      exact .inl ⟨pa, H0, F0, F, r, ok, by rw [hm]; exact po⟩
    | ok d r1 =>
      rw [hm] at po
      obtain ⟨xs, hx, q⟩ := opt_po (show Po (XW c pa H0 F0 F) (M.opt (seqOf d) r1) _ from po)
      cases d with
      | list ds =>
        cases hx
        refine .inl ⟨pa, H0, F0, F, r, ok, ?_⟩
        rw [hm]
        intro F' H' v k e dp
        cases dp with
        | @lst a vs _ h1 h2 => exact ⟨a, rfl, ⟨vs, by rw [← hK]; exact k.fH.l h1⟩, q F' H' _ k e (by rw [← hK]; exact yl_list h1 h2)⟩
      | tuple ds =>
        cases hx
        refine .inr ⟨pa, H0, F0, F, r, ok, ?_⟩
        rw [hm]
        intro F' H' v k e dp
        cases dp with
        | @tup a vs _ h1 h2 => exact ⟨a, rfl, ⟨vs, by rw [← hK]; exact k.fH.t h1⟩, q F' H' _ k e (by rw [← hK]; exact yl_tup h1 h2)⟩
      | _ => cases hx
/-! range -/
def rngD (lo : Int) (n : Nat) : List D := (List.range n).map fun k => .int (lo + (k : Nat))
/-- a choice that nothing can reckon out -/
noncomputable def cI {α : Type} (p : Prop) (a b : α) : α := @ite α p (Classical.propDecidable p) a b
theorem cI_eq {α : Type} (p : Prop) [Decidable p] (a b : α) : cI p a b = if p then a else b := by
  unfold cI
  by_cases h : p
  · rw [if_pos h, if_pos h]
  · rw [if_neg h, if_neg h]
noncomputable def cd (p : Prop) : Bool := @decide p (Classical.propDecidable p)
theorem cd_eq (p : Prop) [Decidable p] : cd p = decide p := by
  unfold cd
  by_cases h : p
  · exact (@decide_eq_true p (Classical.propDecidable p) h).trans (decide_eq_true h).symm
  · exact (@decide_eq_false p (Classical.propDecidable p) h).trans (decide_eq_false h).symm
noncomputable def rng1 : List D → Option (List D)
  | [.int j] => cI (-(2 ^ 62) ≤ j ∧ j < 2 ^ 62) (some (rngD 0 j.toNat)) none
  | _ => none
noncomputable def rng2 : List D → Option (List D)
  | [.int i, .int j] => cI ((-(2 ^ 62) ≤ i ∧ i < 2 ^ 62) ∧ (-(2 ^ 62) ≤ j ∧ j < 2 ^ 62)) (some (rngD i (j - i).toNat)) none
  | _ => none
def iBy (g : List D → Option (List D)) (ms : M (List D)) : M (List D) := ms.bind fun ds => M.opt (g ds)
theorem rng1_some {ds xs : List D} (h : rng1 ds = some xs) : ∃ j : Int, ds = [.int j] ∧ (-(2 ^ 62) ≤ j ∧ j < 2 ^ 62) ∧ xs = rngD 0 j.toNat := by
  unfold rng1 at h
  split at h
  · rw [cI_eq] at h
    split at h
    · cases h
      exact ⟨_, rfl, by assumption, rfl⟩
    · cases h
  · cases h
theorem rpa_one {K : PySem.W.Frag} {F : Hp} {vs : List V} {d : D} (h : RpAll K F vs [d]) : ∃ v, vs = [v] ∧ Rp K F v d := by
  cases h with
  | cons h t =>
    cases t
    exact ⟨_, rfl, h⟩
theorem rpa_two {K : PySem.W.Frag} {F : Hp} {vs : List V} {d e : D} (h : RpAll K F vs [d, e]) : ∃ v w, vs = [v, w] ∧ Rp K F v d ∧ Rp K F w e := by
  cases h with
  | cons h t =>
    obtain ⟨w, rfl, h2⟩ := rpa_one t
    exact ⟨_, w, rfl, h, h2⟩
theorem rp_int {K : PySem.W.Frag} {F : Hp} {v : V} {i : Int} (h : Rp K F v (.int i)) : v = .int i := by
  cases h
  rfl
theorem rngD_len (lo : Int) (n : Nat) : (rngD lo n).length = n := by simp [rngD]
theorem yl_rng {K : PySem.W.Frag} {F : Hp} (lo : Int) (n : Nat) : Yl K F (Itr lo n) (rngD lo n) where
  go := fun i H hi e => by
    rw [rngD_len] at hi
    exact hi
  stop := fun H e => by
    rw [rngD_len]
    exact Nat.le_refl _
  yld := fun i H x H' d hd e hy => by
    obtain ⟨rfl, rfl⟩ := hy
    refine .inl ⟨rfl, ?_⟩
    unfold rngD at hd
    rw [List.getElem?_map] at hd
    cases hr : (List.range n)[i]? with
    | none =>
      rw [hr] at hd
      cases hd
    | some k =>
      rw [hr] at hd
      cases hd
      obtain ⟨h1, h2⟩ := List.getElem?_eq_some_iff.mp hr
      rw [List.getElem_range] at h2
      subst h2
      exact .int _
theorem i_rng1 {tg a : Expr} {ms : M (List D)} {p pos : Pos} (ha : PA X [a] (tA c ms)) (hm : X.mg "range" = none) (hg : Gl X "range" := by rfl) (hs : starEach [a] X.env = [(false, eval a X.env)] := by rfl) : PI X tg (.Call (.Name "range" p) [a] [] pos) (iM c (iBy rng1 ms)) :=
  pi_cq (pi_range1 hg hm ha hs) fun st H R ⟨pa, H0, F0, F, r, ok, po⟩ => seqA ok po fun ds r1 F1 H1 vs k1 e1 dps q => by
    obtain ⟨xs, hx, q⟩ := opt_po q
    obtain ⟨j, rfl, hj, rfl⟩ := rng1_some hx
    obtain ⟨v, rfl, d⟩ := rpa_one dps
    cases rp_int d
    exact ⟨j, rfl, hj.1, hj.2, q F1 H1 _ k1 e1 (yl_rng 0 j.toNat)⟩
end
/-! ### enumerate -/
/-- the tuple at a, each item in a new pair -/
def ItE (K : PySem.W.Frag) (a : Addr) : It where
  go := fun i H => ∃ (xs : List V) (x : V), SqT K H a xs ∧ xs[i]? = some x
  yld := fun i H v H' => ∃ T x, v = .ref T ∧ H T = none ∧ H' = upd H T (.tup [.int (i : Nat), x]) ∧ ∀ xs, SqT K H a xs → xs[i]? = some x
  stop := fun i H => ∃ xs : List V, SqT K H a xs ∧ xs.length ≤ i
theorem turn_en {P : Program} {w : World} {K : PySem.W.Frag} {elts : List Expr} {kk : Nat} {tpos : Pos} (a q it : Addr) :
    Turn P w K (.Tuple elts kk tpos) (ItE K a) [q, it] q (fun i h => (∃ old, IsEnum h q it ((i : Nat) : Int) old) ∧ h.IsTupleIter it a i ∧ q ≠ it ∧ a ≠ it ∧ a ≠ q) where
  mem := List.mem_cons_self
  obj := fun i h hst b hb => by
    obtain ⟨⟨old, h1⟩, ⟨o, h2, h3, h4⟩, _⟩ := hst
    rcases List.mem_cons.mp hb with rfl | hb
    · exact ⟨_, h1, fun v z => nomatch z⟩
    · rw [List.mem_singleton.mp hb]
      exact ⟨o, h2, fun v z => by rw [h4] at z; cases z⟩
  keep := fun i h h' hst kp => by
    obtain ⟨⟨old, h1⟩, h2, h3⟩ := hst
    exact ⟨⟨old, kp q List.mem_cons_self _ h1⟩, h2.at fun o z => kp it (List.mem_cons_of_mem _ (List.mem_singleton.mpr rfl)) o z, h3⟩
  item := by
    intro X hP hw hK hc i pins s st H E I hf hst hg
    subst hP hw hK
    obtain ⟨⟨old, h1⟩, h2, h3, h4, h5⟩ := hst
    obtain ⟨xs, x, hq, hx⟩ := hg
    obtain ⟨us, rv, ht, hz⟩ := I.tuple hq
    obtain ⟨u, hu, ru⟩ := rv.get hx
    have lq : q < s.heap.objs.size := Heap.lt_size h1
    have li : it < s.heap.objs.size := by
      obtain ⟨o, z, _⟩ := h2
      exact Heap.lt_size z
    have dr : Draws X.prog X.w X.A.in1 it [it, a] us.toArray.size (fun i v => us.toArray[i]? = some v) (fun i h => h.IsTupleIter it a i ∧ h.IsTuple a us.toArray) := Draws.tuple (A := X.A.in1) (show X.A.in1.handled = none from I.ok.hd hc) it a h4 us.toArray
    have hlt : i < us.toArray.size := by
      have := (List.getElem?_eq_some_iff.mp hu).1
      simpa using this
    have nq : q ∉ [it, a] := fun z => by
      rcases List.mem_cons.mp z with z | z
      · exact h3 z
      · exact h5 (List.mem_singleton.mp z).symm
    refine wpAny_pyNext_enum_itemD dr h1 ⟨h2, ht⟩ hlt h3 nq fun y h' tk hy out hs' hT hsz hk => ?_
    have ey : y = u := by
      have z : us.toArray[i]? = some y := hy
      rw [show us.toArray[i]? = us[i]? by simp, hu] at z
      cases z
      rfl
    subst ey
    refine ⟨_, rfl, wpAny_letOwnedTupleGo_enum (s := { s with heap := h', toks := tk + 1 }) out fun h2' hen sb => ?_⟩
    have hT2 : h2'.get? s.heap.objs.size = some { cls := .type "tuple", data := .seq #[.int i tk, y] } := (sb.2 _ (Nat.ne_of_gt lq)).trans hT
    have new : ObjOk X.prog X.w (upd H s.heap.objs.size (.tup [.int (i : Nat), x])) h2' s.heap.objs.size (.tup [.int (i : Nat), x]) := by
      refine ⟨?_, [.int i tk, y], .cons ⟨_, rfl⟩ (.cons ru .nil), ⟨_, hT2, rfl, _, rfl⟩⟩
      show 2 ≤ sizeLine
      decide
    have kp : ∀ b o, b ∉ [q, it] → s.heap.get? b = some o → h2'.get? b = some o := fun b o hb z => by
      have b1 : b ≠ q := fun z => hb (by rw [z]; exact List.mem_cons_self)
      have b2 : b ≠ it := fun z => hb (by rw [z]; exact List.mem_cons_of_mem _ (List.mem_singleton.mpr rfl))
      exact (sb.2 b b1).trans (hk b o b1 b2 z)
    have J := I.turnedNew (t' := tk + 1) kp hf (Nat.le_refl _) new
    refine ⟨.ref s.heap.objs.size, _, J, rfl, ⟨_, x, rfl, I.hok.fresh (Nat.le_refl _), rfl, fun ys hy2 => by rw [I.tuple_inj hy2 hq]; exact hx⟩, ⟨⟨y, ?_⟩, ?_, h3, h4, h5⟩, fun b hb => ?_⟩
    · rw [show ((i + 1 : Nat) : Int) = (i : Int) + 1 by omega]
      exact hen
    · exact hs'.1.at fun o z => (sb.2 it (Ne.symm h3)).trans z
    · have lb : b < s.heap.objs.size := by
        rcases List.mem_cons.mp hb with z | z
        · rw [z]
          exact lq
        · rw [List.mem_singleton.mp z]
          exact li
      rw [upd_ne (Nat.ne_of_lt lb)]
      exact (hf b hb).1
  done := by
    intro X hP hw hK hc i pins s st H E I hf hst hg
    subst hP hw hK
    obtain ⟨⟨old, h1⟩, h2, h3, h4, h5⟩ := hst
    obtain ⟨xs, hq, hx⟩ := hg
    obtain ⟨us, rv, ht, hz⟩ := I.tuple hq
    obtain ⟨f0, f1, f2, f3, f4, f5⟩ := hf it (List.mem_cons_of_mem _ (List.mem_singleton.mpr rfl))
    have hl := rv.length
    have hT : s.TypeIs (.ref q) "enumerate" := ⟨_, h1, rfl⟩
    unfold pyNext
    refine wpAny_bind (wpAny_attempt (wpAny_callSpecial?_slot (name := Str.ofString "__next__") hT F.slot_enumerate_next (wpAny_call_entry F.slot_enumerate_next hT F.entry_enumerate_next ?_ (F.args_enumerate_next_1 _))))
    show wpAny _ _ (field (.ref q) 2 >>= _) _ _ _
    refine wpAny_bind (wpAny_field h1 rfl (x := .ref it) rfl ?_)
    refine wpAny_bind (wpAny_nextOf_tuple_end (I.ok.hd hc) h2 ht (by simp; omega) fun h' x he' hx' => ?_)
    obtain ⟨o, ho, hcl⟩ := hx'
    refine wpAny_bind (wpAny_isInstance (T := "StopIteration") (b := true) ⟨o, ho, hcl⟩ isSubtype_stop ?_)
    exact wpAny_pure ⟨rfl, I.turned (t' := s.toks) (fun b o hb z => he' b o hb z) f0 f1 f3 f4 f5⟩
  self := fun A i s Q E hst h => by
    obtain ⟨⟨_, h1⟩, _⟩ := hst
    exact wpAny_pyIter_enum h1 h
end Pu
namespace Pu
open PySem PySem.Spec PyProof.Rows L2 RZ
variable [TabT]
set_option maxHeartbeats 1000000 in
theorem meets_en1 {v : Value} {o : Obj} {Hh : Heap → Prop} (B : Begins v o Hh) : Meets (Builtin.«enumerate.__new__» ⟨[.type "enumerate", v], []⟩) (fun _ R s => Hh s.heap ∧
    R (.ok (.ret (.ref (s.heap.push o).objs.size))) { s with heap := (s.heap.push o).push { cls := .type "enumerate", data := .fields #[.none, .bool false, .ref s.heap.objs.size, rawInt 0, .none, .none] } }) :=
  .of_wp fun prog w A R s h => by
    obtain ⟨hp, gg, dd, tk, os⟩ := s
    obtain ⟨h1, h⟩ := h
    have hsub := sub_enumerate
    have q1 : ∀ {A' : Around} {E : Value → Shared → Prop} {Q : Value → Shared → Prop}, Q (.ref hp.objs.size) ⟨hp.push o, gg, dd, tk, os⟩ → wpAny (model prog w) A' (pyIter v) Q E ⟨hp, gg, dd, tk, os⟩ :=
      fun q => B.iter prog w _ _ ⟨hp, gg, dd, tk, os⟩ _ h1 q
    wp_walk using q1
    refine wpAny_stack_any fun sk => wpAny_pure ?_
    split
    · rename_i cc _ _ _ _ _
      cases (cc == Value.type "enumerate")
      · wp_walk using q1
        exact ⟨_, rfl, h⟩
      · wp_walk using q1
        exact ⟨_, rfl, h⟩
    · wp_walk using q1
      exact ⟨_, rfl, h⟩
theorem call_en {prog : Program} {w : World} {A : Around} {E : Value → Shared → Prop} {s : Shared} {v : Value} {o : Obj} {Hh : Heap → Prop} {Q : Value → Shared → Prop} (B : Begins v o Hh) (h1 : Hh s.heap)
    (h : ∀ h', IsEnum h' (s.heap.objs.size + 1) s.heap.objs.size 0 .none → h'.get? s.heap.objs.size = some o → (∀ b o, s.heap.get? b = some o → h'.get? b = some o) → Q (.ref (s.heap.objs.size + 1)) { s with heap := h' }) :
    wpAny (model prog w) A (call (.type "enumerate") [v]) Q E s := by
  refine callType_new F.called_enumerate (by decide) (F.typeCall_enumerate_1 _) (F.newCall_enumerate_1 _) (fun obj => F.args_object_init_2 obj _) F.entry_enumerate_new (meets_en1 B) ⟨h1, ?_⟩
  have hz : (s.heap.push o).objs.size = s.heap.objs.size + 1 := Heap.size_push ..
  show _ ∧ _
  rw [hz]
  have he : IsEnum ((s.heap.push o).push { cls := .type "enumerate", data := .fields #[.none, .bool false, .ref s.heap.objs.size, rawInt 0, .none, .none] }) (s.heap.objs.size + 1) s.heap.objs.size 0 .none := by
    have z := Heap.get?_push_size (s.heap.push o) (o := { cls := .type "enumerate", data := .fields #[.none, .bool false, .ref s.heap.objs.size, rawInt 0, .none, .none] }) rfl
    rw [hz] at z
    exact z
  exact ⟨⟨_, he, rfl⟩, h _ he (Heap.get?_push_of_some _ (Heap.get?_push_size _ B.free)) fun b o x => Heap.get?_push_of_some _ (Heap.get?_push_of_some _ x)⟩
def iEnT (K : PySem.W.Frag) (ta : TA) : TI := fun st H R => ta st H fun vs H1 => ∃ a xs, vs = [.ref a] ∧ SqT K H1 a xs ∧ R (ItE K a) H1
theorem pi_enT {X : Cx} {e : Expr} {ta : TA} {p pos tpos : Pos} {elts : List Expr} {kk : Nat} (hg : Gl X "enumerate") (hm : X.mg "enumerate" = none) (ha : PA X [e] ta) (hs : starEach [e] X.env = [(false, eval e X.env)] := by rfl) :
    PI X (.Tuple elts kk tpos) (.Call (.Name "enumerate" p) [e] [] pos) (iEnT X.K ta) := by
  refine ⟨fun pins s st H R I h => ?_⟩
  refine Call_ (ld_blt I hg hm boot_enumerate (PyProof.Rows.callWith_type1 (thn (ha.run pos pins s st H _ I h) fun us s1 hh => ?_) hs rfl))
  obtain ⟨vs, H1, I1, r1, a, xs, ex, hq, q⟩ := hh
  subst ex
  cases r1 with
  | cons ra rr =>
    cases rr
    cases ra
    obtain ⟨its, rv, ht, hz⟩ := I1.tuple hq
    have la : a < s1.heap.objs.size := ht.lt
    refine call_en (begins_tuple a its.toArray) ht fun h' hen hit kp => wpAny_pyIter_enum hen ?_
    have I2 : Inv X pins st H1 { s1 with heap := h' } := I1.kept (t' := s1.toks) kp
    refine ⟨s1.heap.objs.size + 1, [s1.heap.objs.size + 1, s1.heap.objs.size], _, _, H1, rfl, I2, turn_en a (s1.heap.objs.size + 1) s1.heap.objs.size, ⟨⟨.none, hen⟩, ⟨_, hit, rfl, rfl⟩, Nat.succ_ne_self _, Nat.ne_of_lt la, Nat.ne_of_lt (Nat.lt_succ_of_lt la)⟩, fun b hb => ?_, q⟩
    have lb : s1.heap.objs.size ≤ b := by
      rcases List.mem_cons.mp hb with z | z
      · rw [z]
        exact Nat.le_succ _
      · rw [List.mem_singleton.mp z]
        exact Nat.le_refl _
    exact I1.fpOk lb (I1.hok.fresh lb)
/-- the pairs (k, d) -/
def enF : Nat → List D → List D
  | _, [] => []
  | k, d :: ds => .tuple [.int (k : Nat), d] :: enF (k + 1) ds
theorem enF_len : ∀ (k : Nat) (ds : List D), (enF k ds).length = ds.length
  | _, [] => rfl
  | k, d :: ds => congrArg Nat.succ (enF_len (k + 1) ds)
theorem enF_get : ∀ (k : Nat) (ds : List D) (i : Nat), (enF k ds)[i]? = (ds[i]?).map fun d => .tuple [.int ((k + i : Nat) : Int), d]
  | _, [], _ => rfl
  | k, d :: ds, 0 => rfl
  | k, d :: ds, i + 1 => by
    show (enF (k + 1) ds)[i]? = (ds[i]?).map _
    rw [enF_get (k + 1) ds i, show k + 1 + i = k + (i + 1) by omega]
def enOf : List D → Option (List D)
  | [d] => (seqOf d).map (enF 0)
  | _ => none
theorem enF_some {ds : List D} {i : Nat} {d : D} (h : (enF 0 ds)[i]? = some d) : ∃ x, ds[i]? = some x ∧ d = .tuple [.int (i : Nat), x] := by
  rw [enF_get, Nat.zero_add] at h
  cases hd : ds[i]? with
  | none =>
    rw [hd] at h
    cases h
  | some x =>
    rw [hd] at h
    cases h
    exact ⟨x, rfl, rfl⟩
theorem yl_enL {K : PySem.W.Frag} {F : Hp} {a : Addr} {vs : List V} {ds : List D} (h : SqL K F a vs) (hr : RpAll K F vs ds) : Yl K F (Ite K a) (enF 0 ds) where
  go := fun i H hi e => by
    rw [enF_len] at hi
    have hl := dpa_len hr
    exact ⟨vs, vs[i]'(by omega), e.l h, List.getElem?_eq_getElem (by omega)⟩
  stop := fun H e => ⟨vs, e.l h, by rw [enF_len, dpa_len hr]; exact Nat.le_refl _⟩
  yld := fun i H x H' d hd e hy => by
    obtain ⟨T, y, rfl, nT, rfl, q⟩ := hy
    obtain ⟨dx, h1, rfl⟩ := enF_some hd
    obtain ⟨v, h2, h3⟩ := dpa_get hr h1
    have z := q vs (e.l h)
    rw [h2] at z
    cases z
    exact .inr ⟨T, _, _, rfl, nT, rfl, rfl, .cons (.int _) (.cons h3 .nil)⟩
theorem yl_enT {K : PySem.W.Frag} {F : Hp} {a : Addr} {vs : List V} {ds : List D} (h : SqT K F a vs) (hr : RpAll K F vs ds) : Yl K F (ItE K a) (enF 0 ds) where
  go := fun i H hi e => by
    rw [enF_len] at hi
    have hl := dpa_len hr
    exact ⟨vs, vs[i]'(by omega), e.t h, List.getElem?_eq_getElem (by omega)⟩
  stop := fun H e => ⟨vs, e.t h, by rw [enF_len, dpa_len hr]; exact Nat.le_refl _⟩
  yld := fun i H x H' d hd e hy => by
    obtain ⟨T, y, rfl, nT, rfl, q⟩ := hy
    obtain ⟨dx, h1, rfl⟩ := enF_some hd
    obtain ⟨v, h2, h3⟩ := dpa_get hr h1
    have z := q vs (e.t h)
    rw [h2] at z
    cases z
    exact .inr ⟨T, _, _, rfl, nT, rfl, rfl, .cons (.int _) (.cons h3 .nil)⟩
section
variable {X : Cx} {c : Cc}
theorem i_enum {e : Expr} {ms : M (List D)} {p pos tpos : Pos} {elts : List Expr} {kk : Nat} (ha : PA X [e] (tA c ms)) (hm : X.mg "enumerate" = none) (hK : c.K = X.K := by rfl) (hg : Gl X "enumerate" := by rfl) (hs : starEach [e] X.env = [(false, eval e X.env)] := by rfl) :
    PI X (.Tuple elts kk tpos) (.Call (.Name "enumerate" p) [e] [] pos) (iM c (iBy enOf ms)) :=
  pi_cq (pi_or (pi_enum hg hm ha hs) (pi_enT hg hm ha hs)) fun st H R ⟨pa, H0, F0, F, r, ok, po⟩ => by
    have po : Po (XW c pa H0 F0 F) ((ms r).bind fun ds => M.opt (enOf ds)) _ := po
    cases hm : ms r with
    | no =>
      rw [hm] at po
      exact po.elim
    | ex e r1 =>
      rw [hm] at po
      exact .inl ⟨pa, H0, F0, F, r, ok, by rw [hm]; exact po⟩
    | ok ds r1 =>
      rw [hm] at po
      obtain ⟨xs, hx, q⟩ := opt_po (show Po (XW c pa H0 F0 F) (M.opt (enOf ds) r1) _ from po)
      unfold enOf at hx
      split at hx
      · rename_i d
        cases d with
        | list ys =>
          cases hx
          refine .inl ⟨pa, H0, F0, F, r, ok, ?_⟩
          rw [hm]
          intro F' H' vs k e dps
          obtain ⟨v, rfl, dp⟩ := rpa_one dps
          cases dp with
          | @lst a us _ h1 h2 => exact ⟨a, us, rfl, by rw [← hK]; exact k.fH.l h1, q F' H' _ k e (by rw [← hK]; exact yl_enL h1 h2)⟩
        | tuple ys =>
          cases hx
          refine .inr ⟨pa, H0, F0, F, r, ok, ?_⟩
          rw [hm]
          intro F' H' vs k e dps
          obtain ⟨v, rfl, dp⟩ := rpa_one dps
          cases dp with
          | @tup a us _ h1 h2 => exact ⟨a, us, rfl, by rw [← hK]; exact k.fH.t h1, q F' H' _ k e (by rw [← hK]; exact yl_enT h1 h2)⟩
        | _ => cases hx
      · cases hx
/-! zip of two lists, of two tuples -/
def zipD (xs ys : List D) : List D := List.zipWith (fun x y => .tuple [x, y]) xs ys
def zipOf : List D → Option (List D)
  | [.list xs, .list ys] => some (zipD xs ys)
  | [.tuple xs, .tuple ys] => some (zipD xs ys)
  | _ => none
end
/-! ### list comprehensions -/
def wipeE (r : En) : List Nat → En
  | [] => r
  | i :: is => (wipeE r is).set i .unk
/-- behind the block: the block's own slots as they were -/
def backE (r : En) (q : En) : List Nat → En
  | [] => q
  | i :: is => (backE r q is).set i (r.getD i .unk)
def noOwn (r : En) (is : List Nat) : Bool := is.all fun i => match r[i]? with
  | some s => s.own.isNone
  | none => false
def compL (is : List Nat) (tg : Tg) (tt : M Bool) (te : M D) : List D → List D → M (List D)
  | [], acc, r => .ok acc r
  | x :: xs, acc, r => match tg x (wipeE r is) with
    | none => .no
    | some r1 => match tt r1 with
      | .ok true r2 => (match te r2 with
        | .ok y r3 => if acc.length < 16777216 then compL is tg tt te xs (acc ++ [y]) r3 else .no
        | _ => .no)
      | .ok false r2 => compL is tg tt te xs acc r2
      | _ => .no
def oComp (src : M (List D)) (is : List Nat) (tg : Tg) (tt : M Bool) (te : M D) : M RV := src.bind fun xs r => if noOwn r is = true then (match compL is tg tt te xs [] r with
  | .ok ys q => .ok (.o (.l ys)) (backE r (wipeE q is) is)
  | _ => .no) else .no
def yes : M Bool := M.ret true
theorem wipe_get {st : L2.St} {j : Nat} : ∀ {is : List Nat}, (wipe st is)[j]? = if j ∈ is then (if j < st.length then some none else none) else st[j]?
  | [] => by simp [wipe]
  | i :: is => by
    unfold wipe
    by_cases e : i = j
    · subst e
      rw [if_pos (List.mem_cons_self), List.getElem?_set_self']
      by_cases hl : i < st.length
      · rw [if_pos hl, List.getElem?_eq_getElem (by rw [wipe_length]; exact hl)]
        rfl
      · rw [if_neg hl, List.getElem?_eq_none (by rw [wipe_length]; omega)]
        rfl
    · rw [List.getElem?_set_ne e, wipe_get (is := is)]
      have : (j ∈ i :: is) ↔ j ∈ is := by
        rw [List.mem_cons]
        exact ⟨fun h => h.elim (fun z => absurd z.symm e) id, .inr⟩
      by_cases hj : j ∈ is
      · rw [if_pos hj, if_pos (this.mpr hj)]
      · rw [if_neg hj, if_neg (fun z => hj (this.mp z))]
theorem wipeE_len (r : En) : ∀ is : List Nat, (wipeE r is).length = r.length
  | [] => rfl
  | i :: is => by
    unfold wipeE
    rw [List.length_set, wipeE_len r is]
theorem backE_len (r q : En) : ∀ is : List Nat, (backE r q is).length = q.length
  | [] => rfl
  | i :: is => by
    unfold backE
    rw [List.length_set, backE_len r q is]
theorem backE_get {r q : En} {j : Nat} : ∀ {is : List Nat}, (backE r q is)[j]? = if j ∈ is then (if j < q.length then some (r.getD j .unk) else none) else q[j]?
  | [] => by simp [backE]
  | i :: is => by
    unfold backE
    by_cases e : i = j
    · subst e
      rw [if_pos (List.mem_cons_self), List.getElem?_set_self']
      by_cases hl : i < q.length
      · rw [if_pos hl, List.getElem?_eq_getElem (by rw [backE_len]; exact hl)]
        rfl
      · rw [if_neg hl, List.getElem?_eq_none (by rw [backE_len]; omega)]
        rfl
    · rw [List.getElem?_set_ne e, backE_get (is := is)]
      have : (j ∈ i :: is) ↔ j ∈ is := by
        rw [List.mem_cons]
        exact ⟨fun h => h.elim (fun z => absurd z.symm e) id, .inr⟩
      by_cases hj : j ∈ is
      · rw [if_pos hj, if_pos (this.mpr hj)]
      · rw [if_neg hj, if_neg (fun z => hj (this.mp z))]
section
variable {K : PySem.W.Frag} {pa : Nat → Addr} {H0 F0 F H : Hp} {st : L2.St} {r : En}
omit [TabT] in
theorem Nob.wiped {a : Addr} (h : Nob H st r a) : ∀ is : List Nat, Nob H (wipe st is) (wipeE r is) a
  | [] => h
  | i :: is => (Nob.wiped h is).unk
theorem Ok.wiped (k : Ok K pa H0 F0 F H st r) : ∀ is : List Nat, Ok K pa H0 F0 F H (wipe st is) (wipeE r is)
  | [] => k
  | i :: is => (Ok.wiped k is).forget
/-- an object that is nobody's changes -/
theorem Ok.aside (k : Ok K pa H0 F0 F H st r) {p : Addr} {o : HO} (n0 : H0 p = none) (nF : F p = none) (nO : Nob H st r p) (tb : LamX.Tabs (TabT.T K) (upd H p o)) : Ok K pa H0 F0 F (upd H p o) st r where
  hH := k.hH.mut n0
  fF := k.fF
  fH := k.fH.mut nF
  sep := k.sep
  len := k.len
  sl := fun i s h n => by
    obtain ⟨v, h1, h2⟩ := k.sl i s h n
    refine ⟨v, h1, ?_⟩
    cases s with
    | unk => trivial
    | pin => exact h2
    | v d => exact h2
    | o ct =>
      obtain ⟨a, rfl, z1, z2, z3⟩ := h2
      obtain ⟨ne, ni⟩ := nO i _ ct a h rfl (by rw [h1])
      exact ⟨a, rfl, z1, z2, z3.mono (Ex.refl F) (upd_ne ne) fun b hb => upd_ne fun z => ni (z ▸ hb)⟩
    | io ct =>
      obtain ⟨rfl, z1, z2, z3⟩ := h2
      obtain ⟨ne, ni⟩ := nO i _ ct _ h rfl (by rw [h1])
      exact ⟨rfl, z1, z2, z3.mono (Ex.refl F) (upd_ne ne) fun b hb => upd_ne fun z => ni (z ▸ hb)⟩
  tb := tb
  dis := k.dis
  inn := fun i s c a b h1 h2 h3 h4 => by
    obtain ⟨f1, f2, f3⟩ := k.inn i s c a b h1 h2 h3 (h4.cg (upd_ne (nO i s c a h1 h2 h3).1).symm)
    exact ⟨f1, f2, fun j q c' a' g1 g2 g3 => by
      obtain ⟨y1, y2⟩ := f3 j q c' a' g1 g2 g3
      exact ⟨y1, fun nj n => y2 nj (n.cg (upd_ne (nO j q c' a' g1 g2 g3).1).symm)⟩⟩
/-- the block's end -/
theorem Ok.back (k : Ok K pa H0 F0 F H st r) {F' H' : Hp} {q : En} {is : List Nat} (hn : noOwn r is = true) (e : Ex F F') (k2 : Ok K pa H0 F0 F' H' (wipe st is) (wipeE q is)) : Ok K pa H0 F0 F' H' st (backE r (wipeE q is) is) := by
  have l1 : st.length = q.length := by
    have := k2.len
    rw [wipe_length, wipeE_len] at this
    exact this
  have l2 := k.len
  have own : ∀ (j : Nat) (s : Sl) (c : Ct), (backE r (wipeE q is) is)[j]? = some s → s.own = some c → j ∉ is ∧ (wipeE q is)[j]? = some s := fun j s c h hc => by
    rw [backE_get] at h
    by_cases hj : j ∈ is
    · rw [if_pos hj] at h
      have hz := List.all_eq_true.mp hn j hj
      split at h
      · cases h
        rw [List.getD_eq_getElem?_getD] at hc
        cases hr : r[j]? with
        | none =>
          rw [hr] at hz
          cases hz
        | some x =>
          rw [hr] at hz hc
          have hz : x.own.isNone = true := hz
          have hc : x.own = some c := hc
          rw [hc] at hz
          cases hz
      · cases h
    · rw [if_neg hj] at h
      exact ⟨hj, h⟩
  refine ⟨k2.hH, k2.fF, k2.fH, k2.sep, by rw [backE_len, wipeE_len]; exact l1, fun j s h n => ?_, k2.tb, fun i j s q2 c c' a ne h1 h2 o1 o2 s1 s2 => ?_, fun i s c a b h1 h2 h3 h4 => ?_⟩
  · by_cases hj : j ∈ is
    · rw [backE_get, if_pos hj] at h
      split at h
      · cases h
        rw [List.getD_eq_getElem?_getD] at n ⊢
        have hz := List.all_eq_true.mp hn j hj
        cases hr : r[j]? with
        | none =>
          rw [hr] at hz
          cases hz
        | some x =>
          rw [hr] at n
          have n : x ≠ .unk := n
          obtain ⟨v, z1, z2⟩ := k.sl j x hr n
          refine ⟨v, z1, ?_⟩
          rw [hr] at hz
          show SlOk K (pa j) H0 F' H' v x
          cases x with
          | unk => trivial
          | pin => exact z2
          | v d => exact dp_mono e z2
          | o ct => cases hz
          | io ct => cases hz
      · cases h
    · have h2 := h
      rw [backE_get, if_neg hj] at h2
      obtain ⟨v, z1, z2⟩ := k2.sl j s h2 n
      rw [wipe_get, if_neg hj] at z1
      exact ⟨v, z1, z2⟩
  · obtain ⟨g1, g2⟩ := own i s c h1 o1
    obtain ⟨g3, g4⟩ := own j q2 c' h2 o2
    exact k2.dis i j s q2 c c' a ne g2 g4 o1 o2 (by rw [wipe_get, if_neg g1]; exact s1) (by rw [wipe_get, if_neg g3]; exact s2)
  · obtain ⟨g1, g2⟩ := own i s c h1 h2
    obtain ⟨f1, f2, f3⟩ := k2.inn i s c a b g2 h2 (by rw [wipe_get, if_neg g1]; exact h3) h4
    refine ⟨f1, f2, fun j q2 c' a' w1 w2 w3 => ?_⟩
    obtain ⟨g3, g4⟩ := own j q2 c' w1 w2
    exact f3 j q2 c' a' g4 w2 (by rw [wipe_get, if_neg g3]; exact w3)
end
theorem wipe_eq {st st' : L2.St} {is : List Nat} (hl : st'.length = st.length) (h : ∀ j, j ∉ is → st'[j]? = (wipe st is)[j]?) : wipe st' is = wipe st is := by
  apply List.ext_getElem?
  intro j
  rw [wipe_get]
  by_cases hj : j ∈ is
  · rw [if_pos hj, wipe_get, if_pos hj, hl]
  · rw [if_neg hj, h j hj]
theorem compL_cons {is : List Nat} {tg : Tg} {tt : M Bool} {te : M D} {x : D} {xs acc ys : List D} {r q : En} (h : compL is tg tt te (x :: xs) acc r = .ok ys q) :
    ∃ r1, tg x (wipeE r is) = some r1 ∧ ((∃ r2 y r3, tt r1 = .ok true r2 ∧ te r2 = .ok y r3 ∧ acc.length < 16777216 ∧ compL is tg tt te xs (acc ++ [y]) r3 = .ok ys q) ∨ ∃ r2, tt r1 = .ok false r2 ∧ compL is tg tt te xs acc r2 = .ok ys q) := by
  unfold compL at h
  split at h
  · cases h
  · rename_i r1 h1
    refine ⟨r1, h1, ?_⟩
    split at h
    · rename_i r2 h2
      split at h
      · rename_i y r3 h3
        split at h
        · exact .inl ⟨r2, y, r3, h2, h3, by assumption, h⟩
        · cases h
      · cases h
    · rename_i r2 h2
      exact .inr ⟨r2, h2, h⟩
    · cases h
abbrev Cc.nox (c : Cc) : Cc := { c with W := fun _ _ _ _ => False }
section
variable {X : Cx} {c : Cc}
/-- the block's reading from the mirror -/
theorem lc_ok {src : M (List D)} {is js : List Nat} {t : Tg} {tt : M Bool} {te : M D} {st : L2.St} {H : Hp} {Q : VK} (hjs : ∀ j ∈ js, j ∈ is) (h : tO c (oComp src is t tt te) st H Q) :
    tLc (iM c src) (gM c.K js t) (tT c.nox tt) (tM c.nox te) is st H Q := by
  obtain ⟨pa, H0, F0, F, r, ok, po⟩ := h
  refine ⟨pa, H0, F0, F, r, ok, (Po.bind po).mono (fun _ _ x => x) fun xs r1 q F1 H1 J k1 e1 y Dd nD => ?_⟩
  by_cases hn : noOwn r1 is = true
  case neg =>
    rw [if_neg hn] at q
    exact q.elim
  rw [if_pos hn] at q
  cases hcl : compL is t tt te xs [] r1 with
  | no =>
    rw [hcl] at q
    exact q.elim
  | ex ee rr =>
    rw [hcl] at q
    exact q.elim
  | ok ys qe =>
    rw [hcl] at q
    have n0 : H0 Dd = none := k1.hH.nn nD
    have nF1 : F1 Dd = none := k1.fH.nn nD
    have nF0 : F0 Dd = none := k1.fF.nn nF1
    have kw := (k1.wiped is)
    refine ⟨fun i m H => i + m = xs.length ∧ ∃ F' q acc vs, Ok c.K pa H0 F0 F' H (wipe st is) (wipeE q is) ∧ Ex F1 F' ∧ H Dd = some (.lst vs) ∧ RpAll c.K F' vs acc ∧ F' Dd = none ∧ Nob H (wipe st is) (wipeE q is) Dd ∧ compL is t tt te (xs.drop i) acc q = .ok ys qe,
      ⟨xs.length, by omega, F1, r1, [], [], kw.aside n0 nF1 (kw.nobody nD) (tabs_new kw.tb nD), Ex.refl F1, upd_same, .nil, nF1, (kw.nobody nD).upd, hcl⟩, fun i m H hW => ?_⟩
    obtain ⟨hm, F', q', acc, vs, k, e, hD, hv, nF, nO, hc⟩ := hW
    by_cases hl : i < xs.length
    · have hx : xs[i]? = some xs[i] := List.getElem?_eq_getElem hl
      rw [drop_cons hx] at hc
      obtain ⟨r2, ht, hrest⟩ := compL_cons hc
      refine .inr ⟨y.go i H hl (e.trans k.fH), fun H2 => ∃ F' q acc vs, Ok c.K pa H0 F0 F' H2 (wipe st is) (wipeE q is) ∧ Ex F1 F' ∧ H2 Dd = some (.lst vs) ∧ RpAll c.K F' vs acc ∧ F' Dd = none ∧ Nob H2 (wipe st is) (wipeE q is) Dd ∧ compL is t tt te (xs.drop (i + 1)) acc q = .ok ys qe,
        fun H2 z => ⟨m - 1, by omega, by omega, z⟩, fun x H2 hy => ?_⟩
      -- the frame with the list that is made
      have kf : Ok c.K pa (upd H0 Dd (.lst vs)) F0 F' H (wipe st is) (wipeE q' is) := k.frame ⟨fun a o z nt => by
          by_cases ha : a = Dd
          · subst ha
            rw [upd_same] at z
            rw [hD]
            exact z
          · rw [upd_ne ha] at z
            exact k.hH.at_ a o z nt, fun a ps z => by
          by_cases ha : a = Dd
          · subst ha
            rw [upd_same] at z
            cases z
          · rw [upd_ne ha] at z
            exact k.hH.tb a ps z⟩ (fun a z1 z2 => by
          by_cases ha : a = Dd
          · subst ha
            exact absurd nF z2
          · rw [upd_ne ha] at z1
            exact k.sep a z1 z2) (fun j s ct a hj hct hst => by
          obtain ⟨na, ni⟩ := nO j s ct a hj hct hst
          rw [upd_ne na]
          obtain ⟨a', g1, g2, g3, g4⟩ := k.ownd hj hct
          rw [hst] at g1
          cases g1
          exact ⟨g3, fun b hb => by
            have nb : b ≠ Dd := fun z => ni (z ▸ hb)
            rw [upd_ne nb]
            exact (k.inn j s ct a b hj hct hst hb).2.1⟩)
      obtain ⟨F2, k2, e2, dp2⟩ := y.step kf e hx hy
      -- back to the old frame
      have unframe : ∀ {F3 H3 : Hp} {st3 : L2.St} {r3 : En}, Ok c.K pa (upd H0 Dd (.lst vs)) F0 F3 H3 st3 r3 → Ok c.K pa H0 F0 F3 H3 st3 r3 ∧ H3 Dd = some (.lst vs) ∧ F3 Dd = none ∧ Nob H3 st3 r3 Dd := fun {F3 H3 st3 r3} k3 => by
        have h0 : Ex H0 (upd H0 Dd (.lst vs)) := Ex.new n0
        refine ⟨k3.frame (h0.trans k3.hH) (fun a z1 z2 => k3.sep a (by
          cases hz : H0 a with
          | none => exact absurd hz z1
          | some o => exact (h0.some hz).elim fun _ q => ne_none q) z2) (fun j s ct a hj hct hst => ?_), k3.hH.at_ Dd _ upd_same (fun ps z => nomatch z), none_of_not fun z => k3.sep Dd (ne_none upd_same) z nF0, fun j s ct a hj hct hst => ⟨?_, ?_⟩⟩
        · obtain ⟨a', g1, g2, g3, g4⟩ := k3.ownd hj hct
          rw [hst] at g1
          cases g1
          exact ⟨h0.nn g3, fun b hb => h0.nn (k3.inn j s ct a b hj hct hst hb).2.1⟩
        · obtain ⟨a', g1, g2, g3, g4⟩ := k3.ownd hj hct
          rw [hst] at g1
          cases g1
          intro z
          subst z
          rw [upd_same] at g3
          cases g3
        · intro z
          have g3 := (k3.inn j s ct a Dd hj hct hst z).2.1
          rw [upd_same] at g3
          cases g3
      refine ⟨pa, _, F0, F2, _, xs[i], r2, k2, dp2, ht, fun st3 k3 ag => ?_⟩
      have hw : wipe st3 is = wipe st is := wipe_eq (by rw [ag.1, wipe_length]) fun j hj => ag.2 j fun z => hj (hjs j z)
      refine ⟨hw, ?_⟩
      rcases hrest with ⟨r3, yv, r4, h1, h2, h3, h4⟩ | ⟨r3, h1, h4⟩
      · refine ⟨pa, _, F0, F2, r2, k3, ?_⟩
        rw [h1]
        intro F4 H4 k4 e4
        show tM c.nox te st3 H4 _
        refine ⟨pa, _, F0, F4, r3, k4, ?_⟩
        rw [h2]
        intro F5 H5 v k5 e5 dp5
        obtain ⟨k6, hD6, nF6, nO6⟩ := unframe k5
        refine ⟨vs, hD6, by rw [dpa_len hv, sizeLine_eq]; exact h3, F5, r4, acc ++ [yv], vs ++ [v], ?_, ((e.trans e2).trans e4).trans e5, upd_same, dpa_app (dpa_mono ((e2.trans e4).trans e5) hv) (.cons dp5 .nil), nF6, ?_, h4⟩
        · have k7 := (k6.aside n0 nF6 nO6 (o := .lst (vs ++ [v])) (tabs_lst k6.tb hD6)).wiped is
          rw [hw] at k7
          exact k7
        · rw [← hw]
          exact (nO6.wiped is).upd
      · refine ⟨pa, _, F0, F2, r2, k3, ?_⟩
        rw [h1]
        intro F4 H4 k4 e4
        obtain ⟨k6, hD6, nF6, nO6⟩ := unframe k4
        show ∃ F' q acc vs, _
        refine ⟨F4, r3, acc, vs, ?_, (e.trans e2).trans e4, hD6, dpa_mono (e2.trans e4) hv, nF6, ?_, h4⟩
        · have k7 := k6.wiped is
          rw [hw] at k7
          exact k7
        · rw [← hw]
          exact nO6.wiped is
    · have ei : i = xs.length := by omega
      subst ei
      rw [List.drop_length] at hc
      cases hc
      have kb := k1.back hn e k
      refine .inl ⟨y.stop H (e.trans k.fH), q F' H _ kb (e1.trans e) ⟨Dd, rfl, nF, n0, ⟨vs, hD, hv⟩, .l fun j s ct a hj hct hst => ?_⟩⟩
      rw [backE_get] at hj
      by_cases hji : j ∈ is
      · rw [if_pos hji] at hj
        split at hj
        · cases hj
          have hz := List.all_eq_true.mp hn j hji
          rw [List.getD_eq_getElem?_getD] at hct
          cases hr : r1[j]? with
          | none =>
            rw [hr] at hz
            cases hz
          | some x =>
            rw [hr] at hz hct
            have hz : x.own.isNone = true := hz
            have hct : x.own = some ct := hct
            rw [hct] at hz
            cases hz
        · cases hj
      · rw [if_neg hji] at hj
        exact nO j s ct a hj hct (by rw [wipe_get, if_neg hji]; exact hst)
theorem o_lc {elt tg iter : Expr} {ifs : List Expr} {scope : Scope} {own : List (Str × Nat)} {pos : Pos} {src : M (List D)} {js : List Nat} {t : Tg} {tt : M Bool} {te : M D} (hi : PI X tg iter (iM c src)) (ok : BlkOk X.N X.env.scope scope own)
    (hg : ∀ (s : Shared) (H : Hp) (C : Addr) (cl : List (Str × Addr)) (fp : List Addr), PG (X.blk s H scope (compEnvC scope cl C X.env) fp) tg (gM c.K js t)) (ht : ∀ (s : Shared) (H : Hp) (C : Addr) (cl : List (Str × Addr)) (fp : List Addr), PTs (X.blk s H scope (compEnvC scope cl C X.env) fp) ifs (tT c.nox tt))
    (he : ∀ (s : Shared) (H : Hp) (C : Addr) (cl : List (Str × Addr)) (fp : List Addr), PE (X.blk s H scope (compEnvC scope cl C X.env) fp) elt (tM c.nox te)) (hN : X.N.Nodup) (hjs : ∀ j ∈ js, j ∈ own.map (·.2) := by decide) (hc : X.calm = true := by rfl) (hs : ∀ x, foldedSetIterable iter X.env x = pure x := by intro _; rfl) :
    PE X (.ListComp elt [⟨tg, iter, ifs, 0⟩] scope pos) (tO c (oComp src (own.map (·.2)) t tt te)) :=
  pe_cq (pe_lc hc hN hi ok hg ht he hs) fun st H Q h => lc_ok hjs h
theorem ts_nil : PTs X [] (tT c yes) := ⟨fun pins s st H Q I h => (pts_nil (X := X)).run pins s st H Q I (by
  obtain ⟨pa, H0, F0, F, r, ok, po⟩ := h
  exact po F H ok (Ex.refl F))⟩
end
end Pu
namespace Pu
open PySem PySem.Spec PyProof.Rows L2
variable [TabT]
/-! ### what a def promises -/
def ArgsOk (rs : List Sl) : Prop := ∀ s ∈ rs, (∃ d, s = .v d) ∨ ∃ ct, s = .io ct
def spG (K : PySem.W.Frag) (mg : Str → Option Value) (n : Nat) (f : List Sl → Re RV) : Sp := fun vs H Q E => vs.length = n ∧ ∃ pa Hk F rs, Ok K pa Hk F F H (vs.map some) rs ∧ ArgsOk rs ∧
  Po (fun e rs' => ∀ F' H' cls dd, Ok K pa Hk F F' H' (vs.map some) rs' → ExOk ⟨K, mg, fun _ _ _ _ => True⟩ F' H' e cls dd → E cls dd H') (f rs)
    fun rv rs' => ∀ F' H' v, Ok K pa Hk F F' H' (vs.map some) rs' → RvOk K Hk F' H' (vs.map some) rs' v rv → Q v H'
def backA : List Sl → En → Option (List Sl)
  | [], _ => some []
  | .io _ :: ss, .io ct :: q => (backA ss q).map fun z => .io ct :: z
  | .io _ :: _, _ => none
  | .pin :: _, _ => none
  | s :: ss, _ :: q => (backA ss q).map fun z => s :: z
  | _ :: _, [] => none
def backR {α : Type} (rs : List Sl) (x : Re α) : Re α := match x with
  | .ok a r => (match backA rs r with
    | some z => .ok a z
    | none => .no)
  | .ex e r => (match backA rs r with
    | some z => .ex e z
    | none => .no)
  | .no => .no
def flRv : M Fl → M RV := fun m r => match m r with
  | .ok (.rt rv) r => .ok rv r
  | .ok .nx r => .ok (.v .none) r
  | .ok _ _ => .no
  | .ex e r => .ex e r
  | .no => .no
/-- a def: n slots, its body -/
@[irreducible] def fnOf (n : Nat) (m : M Fl) : List Sl → Re RV := fun rs => backR rs (flRv m (rs ++ List.replicate (n - rs.length) .unk))
theorem backA_len : ∀ {rs : List Sl} {q : En} {z : List Sl}, backA rs q = some z → z.length = rs.length
  | [], _, _, h => by
    cases h
    rfl
  | .io _ :: ss, .io ct :: q, z, h => by
    have h : (backA ss q).map (fun z => Sl.io ct :: z) = some z := h
    cases hb : backA ss q with
    | none =>
      rw [hb] at h
      cases h
    | some y =>
      rw [hb] at h
      cases h
      exact congrArg Nat.succ (backA_len hb)
  | .io _ :: _, .unk :: _, _, h => by cases h
  | .io _ :: _, .v _ :: _, _, h => by cases h
  | .io _ :: _, .o _ :: _, _, h => by cases h
  | .io _ :: _, .pin :: _, _, h => by cases h
  | .io _ :: _, [], _, h => by cases h
  | .unk :: ss, _ :: q, z, h => by
    have h : (backA ss q).map (fun z => Sl.unk :: z) = some z := h
    cases hb : backA ss q with
    | none =>
      rw [hb] at h
      cases h
    | some y =>
      rw [hb] at h
      cases h
      exact congrArg Nat.succ (backA_len hb)
  | .v d :: ss, _ :: q, z, h => by
    have h : (backA ss q).map (fun z => Sl.v d :: z) = some z := h
    cases hb : backA ss q with
    | none =>
      rw [hb] at h
      cases h
    | some y =>
      rw [hb] at h
      cases h
      exact congrArg Nat.succ (backA_len hb)
  | .o d :: ss, _ :: q, z, h => by
    have h : (backA ss q).map (fun z => Sl.o d :: z) = some z := h
    cases hb : backA ss q with
    | none =>
      rw [hb] at h
      cases h
    | some y =>
      rw [hb] at h
      cases h
      exact congrArg Nat.succ (backA_len hb)
  | .unk :: _, [], _, h => by cases h
  | .pin :: _, _, _, h => by cases h
  | .v _ :: _, [], _, h => by cases h
  | .o _ :: _, [], _, h => by cases h
/-- place by place: the caller's object as it is now, all else as it was -/
theorem backA_get : ∀ {rs : List Sl} {q : En} {z : List Sl}, backA rs q = some z → ∀ (i : Nat) (s : Sl), z[i]? = some s → (∃ ct ct', rs[i]? = some (.io ct) ∧ s = .io ct' ∧ q[i]? = some (.io ct')) ∨ (rs[i]? = some s ∧ s.isIo = false)
  | [], _, _, h, i, s, hs => by
    cases h
    cases hs
  | .io c0 :: ss, .io ct :: q, z, h, i, s, hs => by
    have h : (backA ss q).map (fun z => Sl.io ct :: z) = some z := h
    cases hb : backA ss q with
    | none =>
      rw [hb] at h
      cases h
    | some y =>
      rw [hb] at h
      cases h
      cases i with
      | zero =>
        cases hs
        exact .inl ⟨c0, ct, rfl, rfl, rfl⟩
      | succ i => exact backA_get hb i s hs
  | .io _ :: _, .unk :: _, _, h, _, _, _ => by cases h
  | .io _ :: _, .v _ :: _, _, h, _, _, _ => by cases h
  | .io _ :: _, .o _ :: _, _, h, _, _, _ => by cases h
  | .io _ :: _, .pin :: _, _, h, _, _, _ => by cases h
  | .io _ :: _, [], _, h, _, _, _ => by cases h
  | .unk :: ss, _ :: q, z, h, i, s, hs => by
    have h : (backA ss q).map (fun z => Sl.unk :: z) = some z := h
    cases hb : backA ss q with
    | none =>
      rw [hb] at h
      cases h
    | some y =>
      rw [hb] at h
      cases h
      cases i with
      | zero =>
        cases hs
        exact .inr ⟨rfl, rfl⟩
      | succ i => exact backA_get hb i s hs
  | .v d :: ss, _ :: q, z, h, i, s, hs => by
    have h : (backA ss q).map (fun z => Sl.v d :: z) = some z := h
    cases hb : backA ss q with
    | none =>
      rw [hb] at h
      cases h
    | some y =>
      rw [hb] at h
      cases h
      cases i with
      | zero =>
        cases hs
        exact .inr ⟨rfl, rfl⟩
      | succ i => exact backA_get hb i s hs
  | .o d :: ss, _ :: q, z, h, i, s, hs => by
    have h : (backA ss q).map (fun z => Sl.o d :: z) = some z := h
    cases hb : backA ss q with
    | none =>
      rw [hb] at h
      cases h
    | some y =>
      rw [hb] at h
      cases h
      cases i with
      | zero =>
        cases hs
        exact .inr ⟨rfl, rfl⟩
      | succ i => exact backA_get hb i s hs
  | .unk :: _, [], _, h, _, _, _ => by cases h
  | .pin :: _, _, _, h, _, _, _ => by cases h
  | .v _ :: _, [], _, h, _, _, _ => by cases h
  | .o _ :: _, [], _, h, _, _, _ => by cases h
section
variable {K : PySem.W.Frag} {pa : Nat → Addr} {Hk F F' H H' : Hp} {vs : List V} {rs : List Sl} {st' : L2.St} {r' : En}
/-- the arguments behind the call -/
theorem Ok.ended (k : Ok K pa Hk F F H (vs.map some) rs) (ao : ArgsOk rs) (k' : Ok K pa Hk F F' H' st' r') {z : List Sl} (hz : backA rs r' = some z) : Ok K pa Hk F F' H' (vs.map some) z where
  hH := k'.hH
  fF := k'.fF
  fH := k'.fH
  sep := k'.sep
  len := by rw [k.len, backA_len hz]
  sl := fun i s hs n => by
    rcases backA_get hz i s hs with ⟨ct, ct', h1, rfl, h2⟩ | ⟨h1, h2⟩
    · obtain ⟨v, g1, g2⟩ := k.sl i _ h1 (fun z => nomatch z)
      obtain ⟨w, g3, g4⟩ := k'.sl i _ h2 (fun z => nomatch z)
      obtain ⟨rfl, _⟩ := g2
      obtain ⟨rfl, g5⟩ := g4
      exact ⟨_, g1, rfl, g5⟩
    · obtain ⟨v, g1, g2⟩ := k.sl i s h1 n
      refine ⟨v, g1, ?_⟩
      rcases ao s (List.mem_of_getElem? h1) with ⟨d, rfl⟩ | ⟨ct, rfl⟩
      · exact dp_mono k'.fF g2
      · cases h2
  tb := k'.tb
  dis := fun i j s q c c' a ne h1 h2 o1 o2 s1 s2 => by
    have orig : ∀ (j : Nat) (s : Sl) (c : Ct), z[j]? = some s → s.own = some c → ∃ s' c', rs[j]? = some s' ∧ s'.own = some c' := fun j s c hj hc => by
      rcases backA_get hz j s hj with ⟨ct, ct', h1, rfl, h2⟩ | ⟨h1, h2⟩
      · exact ⟨_, ct, h1, rfl⟩
      · exact ⟨s, c, h1, hc⟩
    obtain ⟨s', c1, g1, g2⟩ := orig i s c h1 o1
    obtain ⟨q', c2, g3, g4⟩ := orig j q c' h2 o2
    exact k.dis i j s' q' c1 c2 a ne g1 g3 g2 g4 s1 s2
  inn := fun i s c a b h1 h2 h3 h4 => by
    have now : ∀ (j : Nat) (s : Sl) (c : Ct) (a : Addr), z[j]? = some s → s.own = some c → (vs.map some)[j]? = some (some (.ref a)) → r'[j]? = some s ∧ st'[j]? = some (some (.ref a)) := fun j s c a hj hc hst => by
      rcases backA_get hz j s hj with ⟨ct, ct', h1, rfl, h2⟩ | ⟨h1, h2⟩
      · obtain ⟨v, g1, g2⟩ := k.sl j _ h1 (fun z => nomatch z)
        obtain ⟨w, g3, g4⟩ := k'.sl j _ h2 (fun z => nomatch z)
        obtain ⟨rfl, _⟩ := g2
        obtain ⟨rfl, g5⟩ := g4
        rw [g1] at hst
        cases hst
        exact ⟨h2, g3⟩
      · rcases ao s (List.mem_of_getElem? h1) with ⟨d, rfl⟩ | ⟨ct, rfl⟩
        · cases hc
        · cases h2
    obtain ⟨w1, w2⟩ := now i s c a h1 h2 h3
    obtain ⟨f1, f2, f3⟩ := k'.inn i s c a b w1 h2 w2 h4
    refine ⟨f1, f2, fun j q c' a' y1 y2 y3 => ?_⟩
    obtain ⟨w3, w4⟩ := now j q c' a' y1 y2 y3
    exact f3 j q c' a' w3 y2 w4
theorem RvOk.ended (k : Ok K pa Hk F F H (vs.map some) rs) (ao : ArgsOk rs) (k' : Ok K pa Hk F F' H' st' r') {z : List Sl} (hz : backA rs r' = some z) {v : V} {rv : RV} (h : RvOk K Hk F' H' st' r' v rv) : RvOk K Hk F' H' (vs.map some) z v rv := by
  cases rv with
  | v d => exact h
  | o ct =>
    obtain ⟨a, rfl, z1, z2, z3, z4⟩ := h
    have key : ∀ b, Nob H' st' r' b → Nob H' (vs.map some) z b := fun b hb i s c a hs hc hst => by
      rcases backA_get hz i s hs with ⟨ct0, ct', h1, rfl, h2⟩ | ⟨h1, h2⟩
      · obtain ⟨v, g1, g2⟩ := k.sl i _ h1 (fun z => nomatch z)
        obtain ⟨w, g3, g4⟩ := k'.sl i _ h2 (fun z => nomatch z)
        obtain ⟨rfl, _⟩ := g2
        obtain ⟨rfl, g5⟩ := g4
        rw [hst] at g1
        cases g1
        exact hb i _ c _ h2 hc g3
      · rcases ao s (List.mem_of_getElem? h1) with ⟨d, rfl⟩ | ⟨ct, rfl⟩
        · cases hc
        · cases h2
    exact ⟨a, rfl, z1, z2, z3, key a z4.1, fun b hb => by
      obtain ⟨g1, g2, g3, g4⟩ := z4.2 b hb
      exact ⟨g1, g2, g3, key b g4⟩⟩
/-- the slots at the start -/
theorem Ok.begin (k : Ok K pa Hk F F H (vs.map some) rs) (n : Nat) : Ok K pa Hk F F H (vs.map some ++ List.replicate n none) (rs ++ List.replicate n .unk) := by
  have hl : vs.length = rs.length := by
    have := k.len
    rw [List.length_map] at this
    exact this
  have get : ∀ (i : Nat) (s : Sl), (rs ++ List.replicate n Sl.unk)[i]? = some s → s ≠ .unk → rs[i]? = some s ∧ i < rs.length := fun i s h ne => by
    by_cases hi : i < rs.length
    · rw [List.getElem?_append_left hi] at h
      exact ⟨h, hi⟩
    · rw [List.getElem?_append_right (by omega), List.getElem?_replicate] at h
      split at h
      · cases h
        exact absurd rfl ne
      · cases h
  refine ⟨k.hH, k.fF, k.fH, k.sep, by simp [hl], fun i s h ne => ?_, k.tb, fun i j s q c c' a ne h1 h2 o1 o2 s1 s2 => ?_, fun i s c a b h1 h2 h3 h4 => ?_⟩
  · obtain ⟨h1, h2⟩ := get i s h ne
    obtain ⟨v, g1, g2⟩ := k.sl i s h1 ne
    exact ⟨v, by rw [List.getElem?_append_left (by rw [List.length_map]; omega)]; exact g1, g2⟩
  · obtain ⟨g1, l1⟩ := get i s h1 (by intro z; subst z; cases o1)
    obtain ⟨g2, l2⟩ := get j q h2 (by intro z; subst z; cases o2)
    rw [List.getElem?_append_left (by rw [List.length_map]; omega)] at s1 s2
    exact k.dis i j s q c c' a ne g1 g2 o1 o2 s1 s2
  · obtain ⟨g1, l1⟩ := get i s h1 (by intro z; subst z; cases h2)
    rw [List.getElem?_append_left (by rw [List.length_map]; omega)] at h3
    obtain ⟨f1, f2, f3⟩ := k.inn i s c a b g1 h2 h3 h4
    refine ⟨f1, f2, fun j q c' a' w1 w2 w3 => ?_⟩
    obtain ⟨g2, l2⟩ := get j q w1 (by intro z; subst z; cases w2)
    rw [List.getElem?_append_left (by rw [List.length_map]; omega)] at w3
    exact f3 j q c' a' g2 w2 w3
end
abbrev ccOf (K : PySem.W.Frag) (mg : Str → Option Value) (E : XK) : Cc := ⟨K, mg, fun cls d _ H => E cls d H⟩
/-! ### room, with no guard of a text under way -/
/-- a frame of a def: no generator -/
structure Tpe (env : Env) : Prop where
  gen : env.scope.isGenerator = false
  co : env.scope.isCoroutine = false
  bl : env.builtins = builtinsNs
  gl : env.globals = mainGlobals
/-- the room of a caller -/
structure RmC (k : Nat) (A : Around) : Prop where
  room : Room k A
  gd : A.guards = some []
  dl : A.depth + 3 * k + 150 < recursionLimit
structure Rm (k : Nat) (A : Around) : Prop where
  room : Room k A
  gd : A.guards = some []
  dl : A.depth + 3 * k + 150 < recursionLimit
  top : ∃ env l, A.frames = some (env :: l) ∧ Tpe env
omit [TabT] in
theorem Rm.c {k : Nat} {A : Around} (r : Rm k A) : RmC k A := ⟨r.room, r.gd, r.dl⟩
omit [TabT] in
theorem RmC.deeper {k : Nat} {A : Around} {l : List Env} (r : RmC (k + 1) A) (hf : A.frames = some l) (env : Env) (t : Tpe env) : Rm k (A.deeper env) :=
  ⟨r.room.deeper _, r.gd, by have := r.dl; show A.depth + 1 + 3 * k + 150 < _; omega, ⟨env, l, by show A.frames.map _ = _; rw [hf]; rfl, t⟩⟩
omit [TabT] in
theorem Rm.deeper {k : Nat} {A : Around} (r : Rm (k + 1) A) (env : Env) (t : Tpe env) : Rm k (A.deeper env) := by
  obtain ⟨e0, l, hf, _⟩ := r.top
  exact r.c.deeper hf env t
theorem Rm.mono {j k : Nat} {A : Around} (r : Rm k A) (h : j ≤ k) : Rm j A := ⟨r.room.mono h, r.gd, by have := r.dl; omega, r.top⟩
theorem Rm.units {k : Nat} {A : Around} (r : Rm k A) : A.units + 64 < cLine := r.room.units
theorem Rm.u1 {k : Nat} {A : Around} (r : Rm k A) : A.units + 1 < cLine := by
  have := r.room.units
  omega
theorem Rm.in65 {k : Nat} {A : Around} (r : Rm k A) : A.units + 65 < cLine := by
  have := r.room.un
  omega
theorem Rm.u150 {k : Nat} {A : Around} (r : Rm k A) : A.units + 150 < cLine := by
  have := r.room.un
  omega
/-- what the heap at the start is like, where a long division may go by a module -/
structure SeerK (P : Program) (base : Heap) : Prop where
  tree : P.given.tree = none
  ns : base.NoSeer
/-- what a def does, where no guard is under way -/
structure FnG (P : Program) (w : World) (K : PySem.W.Frag) (mg : Str → Option Value) (base : Heap) (k : Nat) (f : Addr) (fd : FuncData) (ps : List Str) (sp : Sp) : Prop where
  len : ∀ us H Q E, sp us H Q E → us.length = ps.length
  run : ∀ (A : Around) (ou : List Env) (s : Shared) (H : Hp) (ar : Args) (us : List Value) (xs : List V) (Q : VK) (E : XK), RmC k A → Env0 P w K mg base A ou s H → BindsTo s fd ar (ps.zip us) → Vals xs us → sp xs H Q E → codeAny (model P w) A (.call (.ref f) ar) (CR (L2.CX P w) ou P w H s Q E) s
/-- cdv is the code of the def at f -/
def CodeAt (K : PySem.W.Frag) (f : Addr) (cdv : Value) : Prop := ∃ oc od fd osl, K.lookup f = some ⟨oc, od, .func fd, osl⟩ ∧ fd.code = cdv
theorem fnG_of {P : Program} {w : World} {K : PySem.W.Frag} {mg : Str → Option Value} {base : Heap} {x qual : Str} {params : Arguments} {body : List Stmt} {scope : Scope} {f : Addr} {fd : FuncData} {N ps : List Str} {k : Nat} {sp : Sp}
    (F : FunD K x qual params body scope [] [] f fd) (S : FnScope N ps scope) (len : ∀ us H Q E, sp us H Q E → us.length = ps.length)
    (hB : ∀ (cdv : Value) (A : Around) (ou : List Env) (s : Shared) (H : Hp) (xs : List V) (Q : VK) (E : XK), CodeAt K f cdv → Rm k (A.deeper (envOfC qual scope s.heap.objs.size f cdv)) → sp xs H Q E → ∃ t, PSs (cxOf (L2.CX P w) P w K mg base N qual scope f cdv A ou s H E) body t ∧ t { nx := fun _ G => Q .non G, rt := Q } (start N xs) H) :
    FnG P w K mg base (k + 1) f fd ps sp := by
  obtain ⟨oc, od, dV, kV, doc, pm, an, cdv, ct, osl, rfl, lk, hcd, -, -⟩ := F.ex
  refine ⟨len, fun A ou s H ar us xs Q E hr e0 hb rv hsp => ?_⟩
  have inK : K.In s.heap := e0.mod.kin.keeps fun c o q => (e0.bs c o q).1
  have nol : s.heap.NoLimit := e0.mod.nolimit.keeps fun c o q => (e0.bs c o q).1
  have kinds : ∀ y ∈ ps.zip us, scope.names.lookup y.1 = some .local ∨ (scope.names.lookup y.1 = some .cell ∧ ((cellsFrom (s.heap.objs.size + 1) scope.names []).lookup y.1).isSome = true) := fun y hy => (S.par y.1 (List.of_mem_zip (a := y.1) (b := y.2) hy).1).imp id fun q => ⟨q, PySem.W.cellsFrom_some _ _ _ (.inl q)⟩
  refine codeAny_call_function hr.room.depth (inK _ _ lk) rfl S.co S.gen rfl (PySem.W.codeRec_of inK hcd) (hb _ _ _ _ ?_)
  refine wpAny_newFunctionEnv_cells S.kind kinds fun env he s1 z => ?_
  subst he
  refine ⟨nol.keeps z.toInCall.keep, codeAny_func ?_⟩
  obtain ⟨t, ht, hq⟩ := hB cdv A ou s H xs Q E ⟨_, _, _, _, lk, rfl⟩ (hr.deeper e0.frames _ ⟨S.gen, S.co, rfl, rfl⟩) hsp
  have st0 : Inv (cxOf (L2.CX P w) P w K mg base N qual scope f cdv A ou s H E) [] (start N xs) H s1 := inv_start S hr.room.hd e0 (len _ _ _ _ hsp) rv z
  refine wpAny_mono (ht.run [] s1 _ H _ st0 hq) (fun fl s2 h => ?_) fun _ _ h => h
  cases fl with
  | ret u =>
    obtain ⟨v, _, H2, J, rv2, q⟩ := h
    exact ⟨v, H2, J.os, J.bare, J.base, J.hok, rv2, q⟩
  | next =>
    obtain ⟨_, H2, J, q⟩ := h
    exact ⟨.non, H2, J.os, J.bare, J.base, J.hok, rfl, q⟩
  | brk => exact h.elim fun _ h => h.elim fun _ h => h.2.elim
  | cont => exact h.elim fun _ h => h.elim fun _ h => h.2.elim
section
variable {X : Cx} {k : Nat} {f : Addr} {fd : FuncData} {ps : List Str} {sp : Sp} {Ew : L2.St → XK} {x : Str} {p pos : Pos} {e : Expr} {es : List Expr} {t : TA}
def tCallG (sp : Sp) (Ew : L2.St → XK) (t : TA) : TE := fun st H Q => t st H fun xs H1 => sp xs H1 Q (Ew st)
theorem runG {pins : List (Addr × Obj)} {st : L2.St} {H : Hp} {s : Shared} {Q : VK} {us : List Value} {xs : List V} (F : FnG X.prog X.w X.K X.mg X.base k f fd ps sp) (hr : Rm k X.A) (hb : Binds X.K fd ps []) (hx : PassesAt (L2.CX X.prog X.w) X st (Ew st)) (I : Inv X pins st H s) (rv : Vals xs us) (h : sp xs H Q (Ew st)) :
    wpAny (model X.prog X.w) X.A (call (.ref f) us) (EP X pins st Q) X.xe s := by
  have hb2 := hb s us I.kIn
  rw [List.append_nil] at hb2
  refine wpAny_call (codeAny_mono (F.run X.A X.stack s H ⟨us, []⟩ us xs Q (Ew st) hr.c I.env0 (hb2 (by rw [← rv.length]; exact F.len _ _ _ _ h)) rv h) fun o s2 q => ?_)
  rcases o with er | fl
  · exact hx pins H s er s2 I q
  · cases fl with
    | ret u => exact I.after q
    | next => exact False.elim q
    | brk => exact False.elim q
    | cont => exact False.elim q
theorem pe_callG (F : FnG X.prog X.w X.K X.mg X.base k f fd ps sp) (hr : Rm k X.A) (hg : Gl X x) (hm : X.mg x = some (.ref f)) (hk : PySem.W.keepIn X.K (.ref f) = true) (hb : Binds X.K fd ps []) (hx : ∀ st, PassesAt (L2.CX X.prog X.w) X st (Ew st)) (ha : PA X (e :: es) t)
    (hdb : (x == ("__debug__" : Str)) = false := by decide) (he : starEach (e :: es) X.env = (false, eval e X.env) :: starEach es X.env := by rfl) (hpl : (backTo pos (starEach es X.env)).any (·.1) = false := by rfl) : PE X (.Call (.Name x p) (e :: es) [] pos) (tCallG sp Ew t) :=
  ⟨fun pins s st H Q I h => wpAny_Call_Name_kw (ld_glob I hg hm (PySem.W.callWith_K (h₀ := X.base) I.ok.mod.kin hk (thn (ha.run pos pins s st H _ I h) fun us s1 ⟨xs, H1, I1, rv, q⟩ => ⟨I1.kIn, runG F hr hb (hx st) I1 rv q⟩) he hpl) hdb)⟩
end
/-- a def keeps its promise -/
theorem mk_fnC {P : Program} {w : World} {K : PySem.W.Frag} {mg : Str → Option Value} {base : Heap} {x qual : Str} {params : Arguments} {body : List Stmt} {scope : Scope} {f : Addr} {fd : FuncData} {N ps : List Str} {k : Nat} {m : M Fl}
    (F : FunD K x qual params body scope [] [] f fd) (S : FnScope N ps scope)
    (hb : ∀ (cdv : Value), CodeAt K f cdv → ∀ (A : Around) (outer : List Env) (s : Shared) (H : Hp) (E : XK), Rm k (A.deeper (envOfC qual scope s.heap.objs.size f cdv)) → PSs (cxOf (L2.CX P w) P w K mg base N qual scope f cdv A outer s H E) body (sM (ccOf K mg E) m)) :
    FnG P w K mg base (k + 1) f fd ps (spG K mg ps.length (fnOf N.length m)) := by
  refine fnG_of F S (fun vs H Q E h => h.1) fun cdv A outer s H vs Q E hc hr h => ⟨_, hb cdv hc A outer s H E hr, ?_⟩
  obtain ⟨hl, pa, Hk, F1, rs, ok, ao, po⟩ := h
  have hlr : rs.length = vs.length := by
    have := ok.len
    rw [List.length_map] at this
    exact this.symm
  have ok2 := ok.begin (N.length - vs.length)
  show sM (ccOf K mg E) m _ (vs.map some ++ List.replicate (N.length - vs.length) none) H
  refine ⟨pa, Hk, F1, F1, rs ++ List.replicate (N.length - vs.length) .unk, ok2, ?_⟩
  rw [← hlr]
  unfold fnOf flRv at po
  cases hm : m (rs ++ List.replicate (N.length - rs.length) .unk) with
  | no =>
    rw [hm] at po
    exact po.elim
  | ex e r1 =>
    rw [hm] at po
    intro F' H' st' cls dd k' e' xo
    have po : Po _ (backR rs (.ex e r1)) _ := po
    unfold backR at po
    cases hz : backA rs r1 with
    | none =>
      have po : Po _ (match backA rs r1 with
        | some z => (.ex e z : Re RV)
        | none => .no) _ := po
      rw [hz] at po
      exact po.elim
    | some z =>
      have po : Po _ (match backA rs r1 with
        | some z => (.ex e z : Re RV)
        | none => .no) _ := po
      rw [hz] at po
      exact po F' H' cls dd (ok.ended ao k' hz) xo
  | ok fl r1 =>
    rw [hm] at po
    have fin : ∀ rv, Po (fun e rs' => ∀ F' H' cls dd, Ok K pa Hk F1 F' H' (vs.map some) rs' → ExOk ⟨K, mg, fun _ _ _ _ => True⟩ F' H' e cls dd → E cls dd H') (backR rs (.ok rv r1)) (fun rv rs' => ∀ F' H' v, Ok K pa Hk F1 F' H' (vs.map some) rs' → RvOk K Hk F' H' (vs.map some) rs' v rv → Q v H') →
        ∀ F' H' st' v, Ok K pa Hk F1 F' H' st' r1 → RvOk K Hk F' H' st' r1 v rv → Q v H' := fun rv po F' H' st' v k' hv => by
      have po : Po _ (match backA rs r1 with
        | some z => (.ok rv z : Re RV)
        | none => .no) _ := po
      cases hz : backA rs r1 with
      | none =>
        rw [hz] at po
        exact po.elim
      | some z =>
        rw [hz] at po
        exact po F' H' v (ok.ended ao k' hz) (RvOk.ended ok ao k' hz hv)
    cases fl with
    | nx => exact fun F' H' st' k' e' => fin (.v .none) po F' H' st' .non k' .non
    | bk => exact po.elim
    | ct => exact po.elim
    | rt rv => exact fun F' H' st' v k' e' hv => fin rv po F' H' st' v k' hv
theorem mk_fn {P : Program} {w : World} {K : PySem.W.Frag} {mg : Str → Option Value} {base : Heap} {x qual : Str} {params : Arguments} {body : List Stmt} {scope : Scope} {f : Addr} {fd : FuncData} {N ps : List Str} {k : Nat} {m : M Fl}
    (F : FunD K x qual params body scope [] [] f fd) (S : FnScope N ps scope)
    (hb : ∀ (cdv : Value) (A : Around) (outer : List Env) (s : Shared) (H : Hp) (E : XK), Rm k (A.deeper (envOfC qual scope s.heap.objs.size f cdv)) → PSs (cxOf (L2.CX P w) P w K mg base N qual scope f cdv A outer s H E) body (sM (ccOf K mg E) m)) :
    FnG P w K mg base (k + 1) f fd ps (spG K mg ps.length (fnOf N.length m)) := mk_fnC F S fun cdv _ => hb cdv
/-! ### calls -/
/-- the def x of the text, its mirror -/
structure Fn (P : Program) (w : World) (K : PySem.W.Frag) (mg : Str → Option Value) (base : Heap) (k : Nat) (x : Str) (n : Nat) (f : List Sl → Re RV) : Prop where
  ex : ∃ (a : Addr) (fd : FuncData) (ps : List Str), mg x = some (.ref a) ∧ PySem.W.keepIn K (.ref a) = true ∧ Binds K fd ps [] ∧ FnG P w K mg base k a fd ps (spG K mg n f)
def cCall (f : List Sl → Re RV) (ms : M (List D)) : M RV := ms.bind fun ds r => match f (ds.map .v) with
  | .ok rv _ => .ok rv r
  | .ex e _ => .ex e r
  | .no => .no
def getC (i : Nat) (r : En) : Option Ct := (r[i]?).bind Sl.own
def putC (i : Nat) (ct : Ct) (r : En) : En := match r[i]? with
  | some s => r.set i (s.put ct)
  | none => r
/-- f(x, ..): the object x is the callee's to change -/
def cCallI (i : Nat) (f : List Sl → Re RV) (ms : M (List D)) : M RV := fun r => match getC i r with
  | none => .no
  | some _ => (ms r).bind fun ds r => match getC i r with
    | some ct => (match f (.io ct :: ds.map .v) with
      | .ok rv (.io ct' :: _) => .ok rv (putC i ct' r)
      | .ex e (.io ct' :: _) => .ex e (putC i ct' r)
      | _ => .no)
    | none => .no
section
variable {K : PySem.W.Frag} {pa : Nat → Addr} {H0 F0 F H : Hp} {st : L2.St} {r : En}
theorem getC_some {i : Nat} {r : En} {ct : Ct} (h : getC i r = some ct) : ∃ s, r[i]? = some s ∧ s.own = some ct := by
  unfold getC at h
  cases e : r[i]? with
  | none =>
    rw [e] at h
    cases h
  | some s =>
    rw [e] at h
    exact ⟨s, rfl, h⟩
theorem Ok.putC (k : Ok K pa H0 F0 F H st r) {i : Nat} {c c' : Ct} {a : Addr} {o : HO} (h : getC i r = some c) (ha : st[i]? = some (some (.ref a))) (new : CtOk K F (upd H a o) a c')
    (newI : ∀ b, Inn (upd H a o) a c' b → Inn H a c b ∨ (F b = none ∧ H0 b = none ∧ a ≠ b ∧ Nob H st r b) := by intro b hb; first | exact (inn_l hb).elim | exact (inn_d hb).elim | exact (inn_t hb).elim) : Ok K pa H0 F0 F (upd H a o) st (putC i c' r) := by
  obtain ⟨s, h1, h2⟩ := getC_some h
  unfold Pu.putC
  rw [h1]
  exact k.put h1 h2 ha new newI
theorem argsV {vs : List V} {ds : List D} (hr : RpAll K F vs ds) (fh : Ex F H) (tb : LamX.Tabs (TabT.T K) H) : Ok K pa H F F H (vs.map some) (ds.map Sl.v) where
  hH := Ex.refl H
  fF := Ex.refl F
  fH := fh
  sep := fun _ _ h => h
  len := by rw [List.length_map, List.length_map, dpa_len hr]
  sl := fun i s h n => by
    rw [List.getElem?_map] at h
    cases hd : ds[i]? with
    | none =>
      rw [hd] at h
      cases h
    | some d =>
      rw [hd] at h
      cases h
      obtain ⟨v, h1, h2⟩ := dpa_get hr hd
      exact ⟨v, by rw [List.getElem?_map, h1]; rfl, h2⟩
  tb := tb
  dis := fun i j s q c c' a ne h1 h2 o1 => by
    rw [List.getElem?_map] at h1
    cases hd : ds[i]? with
    | none =>
      rw [hd] at h1
      cases h1
    | some d =>
      rw [hd] at h1
      cases h1
      cases o1
  inn := fun i s c a b h1 h2 => by
    rw [List.getElem?_map] at h1
    cases hd : ds[i]? with
    | none =>
      rw [hd] at h1
      cases h1
    | some d =>
      rw [hd] at h1
      cases h1
      cases h2
/-- what a callee made is nobody's here -/
theorem Ok.awayC (k : Ok K pa H0 F0 F H st r) {F' H' : Hp} {st' : L2.St} {r' : En} {a : Addr} {c : Ct} (e : Ex H H') (n : H a = none) (w : ∀ b, Inn H' a c b → F' b = none ∧ H b = none ∧ a ≠ b ∧ Nob H' st' r' b) : Away H0 F' H' st r a c := by
  have key : ∀ b, H b = none → Nob H' st r b := fun b hb => (k.nobody hb).cg fun i s c2 a2 h1 h2 h3 => by
    obtain ⟨a3, z1, z2, z3, z4⟩ := k.ownd h1 h2
    rw [h3] at z1
    cases z1
    obtain ⟨o, ho, hnt⟩ := z4.there'
    exact (e.at_ _ o ho hnt).trans ho.symm
  exact ⟨key a n, fun b hb => by
    obtain ⟨g1, g2, g3, g4⟩ := w b hb
    exact ⟨g1, k.hH.nn g2, g3, key b g2⟩⟩
theorem argsOkV (ds : List D) : ArgsOk (ds.map Sl.v) := fun s hs => by
  obtain ⟨d, _, rfl⟩ := List.mem_map.mp hs
  exact .inl ⟨d, rfl⟩
end
/-! ### objects lent to a callee -/
/-- b belongs to what is lent -/
def LentA (H : Hp) (st : L2.St) (r : En) (is : List Nat) (b : Addr) : Prop := ∃ i ∈ is, ∃ s c a, r[i]? = some s ∧ s.own = some c ∧ st[i]? = some (some (V.ref a)) ∧ (a = b ∨ Inn H a c b)
open Classical in
/-- the heap but for what is lent -/
noncomputable def Hless (H : Hp) (st : L2.St) (r : En) (is : List Nat) : Hp := fun b => if LentA H st r is b then none else H b
section
variable {K : PySem.W.Frag} {pa pa' : Nat → Addr} {H0 F0 F H F' H' : Hp} {st : L2.St} {r r' : En} {is : List Nat} {sv : L2.St} {rs' : List Sl}
omit [TabT] in
theorem Hless.at_ {b : Addr} (h : LentA H st r is b) : Hless H st r is b = none := if_pos h
omit [TabT] in
theorem Hless.ne {b : Addr} (h : ¬ LentA H st r is b) : Hless H st r is b = H b := if_neg h
omit [TabT] in
theorem Hless.ex : Ex (Hless H st r is) H := .of fun b o z => by
  by_cases h : LentA H st r is b
  · rw [Hless.at_ h] at z
    cases z
  · rw [Hless.ne h] at z
    exact z
theorem Ok.lentFree (k1 : Ok K pa H0 F0 F H st r) {b : Addr} (h : LentA H st r is b) : H0 b = none ∧ F b = none := by
  obtain ⟨i, _, s, c, a, h1, h2, h3, h4⟩ := h
  rcases h4 with rfl | h4
  · obtain ⟨a', z1, z2, z3, z4⟩ := k1.ownd h1 h2
    rw [h3] at z1
    cases z1
    exact ⟨z3, z2⟩
  · obtain ⟨f1, f2, _⟩ := k1.inn i s c a b h1 h2 h3 h4
    exact ⟨f2, f1⟩
theorem Ok.lentEx (k1 : Ok K pa H0 F0 F H st r) : Ex H0 (Hless H st r is) := ⟨fun b o z nt => by
  rw [Hless.ne fun h => by
    rw [(k1.lentFree h).1] at z
    cases z]
  exact k1.hH.at_ b o z nt, fun b ps z => by
  rw [Hless.ne fun h => by
    rw [(k1.lentFree h).1] at z
    cases z]
  exact k1.hH.tb b ps z⟩
/-- another slot's object is not lent -/
theorem Ok.notLent (k1 : Ok K pa H0 F0 F H st r) {j : Nat} {s : Sl} {c : Ct} {a b : Addr} (hj : j ∉ is) (h1 : r[j]? = some s) (h2 : s.own = some c) (h3 : st[j]? = some (some (.ref a))) (hb : a = b ∨ Inn H a c b) : ¬ LentA H st r is b := fun ⟨i, hi, s2, c2, a2, g1, g2, g3, g4⟩ => by
  have ne : j ≠ i := fun z => hj (z ▸ hi)
  rcases hb with rfl | hb
  · rcases g4 with rfl | g4
    · exact k1.dis j i s s2 c c2 a2 ne h1 g1 h2 g2 h3 g3
    · exact ((k1.inn i s2 c2 a2 a g1 g2 g3 g4).2.2 j s c a h1 h2 h3).1 rfl
  · obtain ⟨_, _, f3⟩ := k1.inn j s c a b h1 h2 h3 hb
    obtain ⟨y1, y2⟩ := f3 i s2 c2 a2 g1 g2 g3
    rcases g4 with rfl | g4
    · exact y1 rfl
    · exact y2 (fun z => ne z.symm) g4
/-- what stays of a slot that is not lent -/
theorem Ok.stays (k1 : Ok K pa H0 F0 F H st r) (k2 : Ok K pa' (Hless H st r is) F F' H' sv rs') {j : Nat} {s : Sl} {c : Ct} {a : Addr} (hj : j ∉ is) (h1 : r[j]? = some s) (h2 : s.own = some c) (h3 : st[j]? = some (some (.ref a))) :
    H' a = H a ∧ F' a = none ∧ CtOk K F' H' a c ∧ ∀ b, Inn H' a c b → Inn H a c b ∧ H' b = H b ∧ F' b = none := by
  obtain ⟨a', z1, z2, z3, z4⟩ := k1.ownd h1 h2
  rw [h3] at z1
  cases z1
  have same : ∀ b o, (a = b ∨ Inn H a c b) → H b = some o → (∀ ps, o ≠ .tbl ps) → F b = none → H' b = H b ∧ F' b = none := fun b o hb ho hnt hF => by
    have z : Hless H st r is b = some o := by
      rw [Hless.ne (k1.notLent hj h1 h2 h3 hb)]
      exact ho
    exact ⟨(k2.hH.at_ b o z hnt).trans ho.symm, none_of_not fun y => k2.sep b (ne_none z) y hF⟩
  obtain ⟨o, ho, hnt⟩ := z4.there'
  obtain ⟨e1, e2⟩ := same a o (.inl rfl) ho hnt z2
  have inn : ∀ b, Inn H a c b → H' b = H b ∧ F' b = none := fun b hb => by
    obtain ⟨ws, hw⟩ := z4.inn hb
    exact same b _ (.inr hb) hw (fun ps z => nomatch z) (k1.inn j s c a b h1 h2 h3 hb).1
  exact ⟨e1, e2, z4.mono k2.fF e1 fun b hb => (inn b hb).1, fun b hb => by
    have hb' := hb.cg e1.symm
    exact ⟨hb', inn b hb'⟩⟩
/-- the slots behind the call -/
def BackOk (st : L2.St) (r r' : En) (is : List Nat) (sv : L2.St) (rs' : List Sl) : Prop := r'.length = r.length ∧ ∀ (j : Nat) (s' : Sl), r'[j]? = some s' → (j ∉ is ∧ r[j]? = some s') ∨
  ∃ (p : Nat) (s : Sl) (ct ct' : Ct) (a : Addr), j ∈ is ∧ r[j]? = some s ∧ s.own = some ct ∧ st[j]? = some (some (V.ref a)) ∧ s' = s.put ct' ∧ rs'[p]? = some (Sl.io ct') ∧ sv[p]? = some (some (V.ref a))
theorem Ok.lent (k1 : Ok K pa H0 F0 F H st r) (k2 : Ok K pa' (Hless H st r is) F F' H' sv rs') (hb : BackOk st r r' is sv rs') : Ok K pa H0 F0 F' H' st r' := by
  have h0 := k1.lentEx (is := is)
  -- an owned slot behind the call
  have view : ∀ (j : Nat) (s' : Sl) (c' : Ct) (a : Addr), r'[j]? = some s' → s'.own = some c' → st[j]? = some (some (.ref a)) →
      (∃ s c, r[j]? = some s ∧ s.own = some c) ∧ ((j ∉ is ∧ r[j]? = some s') ∨ (j ∈ is ∧ ∃ p : Nat, sv[p]? = some (some (V.ref a)) ∧ rs'[p]? = some (Sl.io c'))) := fun j s' c' a h1 h2 h3 => by
    rcases hb.2 j s' h1 with ⟨hj, h⟩ | ⟨p, s, ct, ct', a', hj, g1, g2, g3, rfl, g5, g6⟩
    · exact ⟨⟨s', c', h, h2⟩, .inl ⟨hj, h⟩⟩
    · have e : (s.put ct').own = some ct' := by cases s <;> rfl
      rw [e] at h2
      cases h2
      rw [h3] at g3
      cases g3
      exact ⟨⟨s, ct, g1, g2⟩, .inr ⟨hj, p, g6, g5⟩⟩
  refine ⟨h0.trans k2.hH, k1.fF.trans k2.fF, k2.fH, fun b z1 z2 => k1.sep b z1 (k2.sep b (by
    cases hz : H0 b with
    | none => exact absurd hz z1
    | some o => exact (h0.some hz).elim fun _ q => ne_none q) z2), by rw [hb.1, k1.len], fun j s' h n => ?_, k2.tb, fun j1 j2 s1 s2 c1 c2 b ne h1 h2 o1 o2 st1 st2 => ?_, fun j s c a b h1 h2 h3 h4 => ?_⟩
  · rcases hb.2 j s' h with ⟨hj, hr⟩ | ⟨p, s, ct, ct', a, hj, g1, g2, g3, rfl, g5, g6⟩
    · obtain ⟨w, y1, y2⟩ := k1.sl j s' hr n
      refine ⟨w, y1, ?_⟩
      cases s' with
      | unk => trivial
      | pin => exact y2
      | v d => exact dp_mono k2.fF y2
      | o c1 =>
        obtain ⟨b, rfl, z1, z2, z3⟩ := y2
        obtain ⟨w1, w2, w3, _⟩ := k1.stays k2 hj hr rfl y1
        exact ⟨b, rfl, w2, z2, w3⟩
      | io c1 =>
        obtain ⟨rfl, z1, z2, z3⟩ := y2
        obtain ⟨w1, w2, w3, _⟩ := k1.stays k2 hj hr rfl y1
        exact ⟨rfl, w2, z2, w3⟩
    · refine ⟨_, g3, ?_⟩
      obtain ⟨v, w1, w2⟩ := k2.sl p _ g5 (fun z => nomatch z)
      rw [g6] at w1
      cases w1
      obtain ⟨w3, w4, w5, w6⟩ := w2
      have hb2 : H0 a = none := (k1.lentFree (is := is) ⟨j, hj, s, ct, a, g1, g2, g3, .inl rfl⟩).1
      cases w3
      cases s with
      | unk => cases g2
      | pin => cases g2
      | v d => cases g2
      | o c1 => exact ⟨_, rfl, w4, hb2, w6⟩
      | io c1 =>
        obtain ⟨w, y1, y2⟩ := k1.sl j _ g1 (fun z => nomatch z)
        obtain ⟨rfl, _⟩ := y2
        rw [g3] at y1
        have e : pa' p = pa j := by
          have := Option.some.inj (Option.some.inj y1)
          injection this
        rw [← e]
        exact ⟨rfl, w4, hb2, w6⟩
  · obtain ⟨⟨s3, c3, w1, w2⟩, _⟩ := view j1 s1 c1 b h1 o1 st1
    obtain ⟨⟨s4, c4, w3, w4⟩, _⟩ := view j2 s2 c2 b h2 o2 st2
    exact k1.dis j1 j2 s3 s4 c3 c4 b ne w1 w3 w2 w4 st1 st2
  · obtain ⟨⟨s3, c3, w1, w2⟩, hv⟩ := view j s c a h1 h2 h3
    -- what is within an object that is not lent is foreign to what came back
    rcases hv with ⟨hj, hr⟩ | ⟨hj, p, hp, hio⟩
    · obtain ⟨e1, e2, e3, e4⟩ := k1.stays k2 hj hr h2 h3
      obtain ⟨q1, q2, q3⟩ := e4 b h4
      obtain ⟨f1, f2, f3⟩ := k1.inn j s c a b hr h2 h3 q1
      refine ⟨q3, f2, fun j2 s2 c2 a2 g1 g2 g3 => ?_⟩
      obtain ⟨⟨s4, c4, w3, w4⟩, hv2⟩ := view j2 s2 c2 a2 g1 g2 g3
      refine ⟨(f3 j2 s4 c4 a2 w3 w4 g3).1, fun nj n => ?_⟩
      rcases hv2 with ⟨hj2, hr2⟩ | ⟨hj2, p2, hp2, hio2⟩
      · exact (f3 j2 s2 c2 a2 hr2 g2 g3).2 nj ((k1.stays k2 hj2 hr2 g2 g3).2.2.2 b n).1
      · have z := (k2.inn p2 _ c2 a2 b hio2 rfl hp2 n).2.1
        rw [Hless.ne (k1.notLent hj hr h2 h3 (.inr q1))] at z
        obtain ⟨a', y1, y2, y3, y4⟩ := k1.ownd hr h2
        rw [h3] at y1
        cases y1
        obtain ⟨ws, hw⟩ := y4.inn q1
        rw [hw] at z
        cases z
    · obtain ⟨f1, f2, f3⟩ := k2.inn p _ c a b hio rfl hp h4
      refine ⟨f1, h0.nn f2, fun j2 s2 c2 a2 g1 g2 g3 => ?_⟩
      obtain ⟨⟨s4, c4, w3, w4⟩, hv2⟩ := view j2 s2 c2 a2 g1 g2 g3
      rcases hv2 with ⟨hj2, hr2⟩ | ⟨hj2, p2, hp2, hio2⟩
      · have far : ∀ b2, (a2 = b2 ∨ Inn H a2 c2 b2) → b ≠ b2 := fun b2 hb2 z => by
          subst z
          rw [Hless.ne (k1.notLent hj2 hr2 g2 g3 hb2)] at f2
          obtain ⟨a', y1, y2, y3, y4⟩ := k1.ownd hr2 g2
          rw [g3] at y1
          cases y1
          rcases hb2 with rfl | hb2
          · obtain ⟨o, ho⟩ := y4.there
            rw [ho] at f2
            cases f2
          · obtain ⟨ws, hw⟩ := y4.inn hb2
            rw [hw] at f2
            cases f2
        exact ⟨fun z => far a2 (.inl rfl) z.symm, fun _ n => far b (.inr ((k1.stays k2 hj2 hr2 g2 g3).2.2.2 b n).1) rfl⟩
      · obtain ⟨y1, y2⟩ := f3 p2 _ c2 a2 hio2 rfl hp2
        refine ⟨y1, fun nj n => y2 (fun z => nj ?_) n⟩
        subst z
        rw [hp] at hp2
        cases hp2
        by_cases e : j2 = j
        · exact e
        · exact (k1.dis j2 j s4 s3 c4 c3 a e w3 w1 w4 w2 g3 h3).elim
/-- what a callee handed back, beside what was lent -/
theorem RvOk.lent (k1 : Ok K pa H0 F0 F H st r) (k2 : Ok K pa' (Hless H st r is) F F' H' sv rs') (hb : BackOk st r r' is sv rs') {v : V} {rv : RV} (h : RvOk K (Hless H st r is) F' H' sv rs' v rv) : RvOk K H0 F' H' st r' v rv := by
  have h0 := k1.lentEx (is := is)
  cases rv with
  | v d => exact h
  | o c2 =>
    obtain ⟨b, rfl, z1, z2, z3, z4, z5⟩ := h
    have key : ∀ b2, Hless H st r is b2 = none → Nob H' sv rs' b2 → Nob H' st r' b2 := fun b2 hb2 nb j s c a h1 h2 h3 => by
      rcases hb.2 j s h1 with ⟨hj, hr⟩ | ⟨p, s0, ct, ct', a', hj, g1, g2, g3, rfl, g5, g6⟩
      · have far : ∀ b3, (a = b3 ∨ Inn H a c b3) → b2 ≠ b3 := fun b3 hb3 z => by
          subst z
          rw [Hless.ne (k1.notLent hj hr h2 h3 hb3)] at hb2
          obtain ⟨a', y1, y2, y3, y4⟩ := k1.ownd hr h2
          rw [h3] at y1
          cases y1
          rcases hb3 with rfl | hb3
          · obtain ⟨o, ho⟩ := y4.there
            rw [ho] at hb2
            cases hb2
          · obtain ⟨ws, hw⟩ := y4.inn hb3
            rw [hw] at hb2
            cases hb2
        exact ⟨fun z => far a (.inl rfl) z.symm, fun n => far b2 (.inr ((k1.stays k2 hj hr h2 h3).2.2.2 b2 n).1) rfl⟩
      · have e : (s0.put ct').own = some ct' := by cases s0 <;> rfl
        rw [e] at h2
        cases h2
        rw [h3] at g3
        cases g3
        exact nb p _ c a g5 rfl (g6)
    exact ⟨b, rfl, z1, h0.nn z2, z3, key b z2 z4, fun b2 hb2 => by
      obtain ⟨g1, g2, g3, g4⟩ := z5 b2 hb2
      exact ⟨g1, h0.nn g2, g3, key b2 g2 g4⟩⟩
end
section
variable {X : Cx} {c : Cc} {k n : Nat} {x : Str} {f : List Sl → Re RV} {e : Expr} {es : List Expr} {p pos : Pos} {ms : M (List D)}
theorem callV {F H : Hp} {st : L2.St} {r : En} {pa : Nat → Addr} {H0 F0 F00 : Hp} {vs : List V} {ds : List D} {Q : VK} (hn : ds.length = n) (k1 : Ok c.K pa H0 F0 F H st r) (dps : RpAll c.K F vs ds)
    (e0 : Ex F00 F) (q : Po (XW c pa H0 F0 F) (match f (ds.map .v) with
      | .ok rv _ => .ok rv r
      | .ex e _ => .ex e r
      | .no => .no) fun rv r' => ∀ F' H' v, Ok c.K pa H0 F0 F' H' st r' → Ex F00 F' → RvOk c.K H0 F' H' st r' v rv → Q v H') : spG c.K c.mg n f vs H Q (fun cls d H' => c.W cls d st H') := by
  refine ⟨by rw [dpa_len dps]; exact hn, pa, H, F, ds.map .v, argsV dps k1.fH k1.tb, argsOkV ds, ?_⟩
  have grow : ∀ {F' H' : Hp} {z : List Sl}, Ok c.K pa H F F' H' (vs.map some) z → Ok c.K pa H0 F0 F' H' st r := fun {F' H' z} k2 => k1.grow k2.hH k2.fF k2.fH (fun a h1 h2 => k2.sep a h2 h1) k2.tb
  cases hf : f (ds.map .v) with
  | no =>
    rw [hf] at q
    exact q.elim
  | ex ee z =>
    rw [hf] at q
    exact fun F' H' cls dd k2 xo => q F' H' st cls dd (grow k2) k2.fF xo
  | ok rv z =>
    rw [hf] at q
    refine fun F' H' v k2 hv => q F' H' v (grow k2) (e0.trans k2.fF) ?_
    cases rv with
    | v d => exact hv
    | o ct =>
      obtain ⟨a, rfl, z1, z2, z3, z4⟩ := hv
      exact ⟨a, rfl, z1, k1.hH.nn z2, z3, k1.awayC k2.hH z2 z4.2⟩
theorem o_call (G : Fn X.prog X.w X.K X.mg X.base k x n f) (hr : Rm k X.A) (tk : Takes X c.W) (ha : PA X (e :: es) (tA c ms)) (hK : c.K = X.K := by rfl) (hM : c.mg = X.mg := by rfl) (hg : Gl X x := by rfl) (hnm : ∀ r ds r', ms r = .ok ds r' → ds.length = n)
    (hdb : (x == ("__debug__" : Str)) = false := by decide) (he : starEach (e :: es) X.env = (false, eval e X.env) :: starEach es X.env := by rfl) (hpl : (backTo pos (starEach es X.env)).any (·.1) = false := by rfl) :
    PE X (.Call (.Name x p) (e :: es) [] pos) (tO c (cCall f ms)) := by
  obtain ⟨a, fd, ps, g1, g2, g3, g4⟩ := G.ex
  refine pe_cq (pe_callG (Ew := fun st cls d H' => c.W cls d st H') g4 hr hg g1 g2 g3 (fun σ => passAt tk σ) ha hdb he hpl) fun st H Q ⟨pa, H0, F0, F, r, ok, po⟩ => ?_
  refine ⟨pa, H0, F0, F, r, ok, ?_⟩
  have po : Po (XW c pa H0 F0 F) ((ms r).bind _) _ := po
  cases hm : ms r with
  | no =>
    rw [hm] at po
    exact po.elim
  | ex ee r1 =>
    rw [hm] at po
    exact po
  | ok ds r1 =>
    rw [hm] at po
    intro F1 H1 vs k1 e1 dps
    rw [← hK, ← hM]
    exact callV (hnm r ds r1 hm) k1 dps e1 (po.mono (XW.mono e1) fun _ _ x => x)
theorem aNil_len : ∀ (r : En) (ds : List D) (r' : En), aNil r = .ok ds r' → ds.length = 0 := fun r ds r' h => by
  cases h
  rfl
theorem aCons_len {m : M D} {ms : M (List D)} {n : Nat} (h : ∀ (r : En) (ds : List D) (r' : En), ms r = .ok ds r' → ds.length = n) : ∀ (r : En) (ds : List D) (r' : En), aCons m ms r = .ok ds r' → ds.length = n + 1 := fun r ds r' e => by
  have e : (m r).bind (fun d => ms.bind fun ds => M.ret (d :: ds)) = .ok ds r' := e
  cases hm : m r with
  | no =>
    rw [hm] at e
    cases e
  | ex ee r1 =>
    rw [hm] at e
    cases e
  | ok d r1 =>
    rw [hm] at e
    have e : (ms r1).bind (fun ds => M.ret (d :: ds)) = .ok ds r' := e
    cases hs : ms r1 with
    | no =>
      rw [hs] at e
      cases e
    | ex ee r2 =>
      rw [hs] at e
      cases e
    | ok ds2 r2 =>
      rw [hs] at e
      cases e
      exact congrArg Nat.succ (h r1 ds2 _ hs)
/-- f(x, e, ..): x in slot i is the callee's to change -/
theorem callI {i : Nat} {F H : Hp} {st : L2.St} {r : En} {pa : Nat → Addr} {H0 F0 F00 : Hp} {v0 : V} {vs : List V} {ds : List D} {Q : VK} (hn : ds.length + 1 = n) (k1 : Ok c.K pa H0 F0 F H st r) (hv0 : st[i]? = some (some v0)) (dps : RpAll c.K F vs ds)
    (e0 : Ex F00 F) (q : Po (XW c pa H0 F0 F) (match getC i r with
      | some ct => (match f (.io ct :: ds.map .v) with
        | .ok rv (.io ct' :: _) => .ok rv (putC i ct' r)
        | .ex e (.io ct' :: _) => .ex e (putC i ct' r)
        | _ => .no)
      | none => .no) fun rv r' => ∀ F' H' v, Ok c.K pa H0 F0 F' H' st r' → Ex F00 F' → RvOk c.K H0 F' H' st r' v rv → Q v H') : spG c.K c.mg n f (v0 :: vs) H Q (fun cls d H' => c.W cls d st H') := by
  cases hg : getC i r with
  | none =>
    rw [hg] at q
    exact q.elim
  | some ct =>
    rw [hg] at q
    obtain ⟨s, hs, hso⟩ := getC_some hg
    obtain ⟨a, ha, nF, n0, hct⟩ := k1.ownd hs hso
    rw [hv0] at ha
    cases ha
    -- all but that object
    let Hk : Hp := Hless H st r [i]
    have hk_a : Hk a = none := Hless.at_ ⟨i, List.mem_singleton.mpr rfl, s, ct, a, hs, hso, hv0, .inl rfl⟩
    have exk : Ex Hk H := Hless.ex
    have okA : Ok c.K (fun _ => a) Hk F F H ((V.ref a :: vs).map some) (.io ct :: ds.map Sl.v) := by
      have base := argsV (pa := fun _ => a) dps k1.fH k1.tb
      have noV : ∀ (j : Nat) (s' : Sl) (c' : Ct), (Sl.io ct :: ds.map Sl.v)[j]? = some s' → s'.own = some c' → j = 0 := fun j s' c' h o => by
        cases j with
        | zero => rfl
        | succ j =>
          have h : (ds.map Sl.v)[j]? = some s' := h
          rw [List.getElem?_map] at h
          cases hd : ds[j]? with
          | none =>
            rw [hd] at h
            cases h
          | some d =>
            rw [hd] at h
            cases h
            cases o
      refine ⟨exk, Ex.refl F, k1.fH, fun _ _ h => h, ?_, fun j s' h n => ?_, k1.tb, fun j1 j2 s1 s2 c1 c2 b ne h1 h2 o1 o2 _ _ => ?_, fun j1 s1 c1 a1 b h1 h2 h3 h4 => ?_⟩
      · have := base.len
        simp only [List.map_cons, List.length_cons] at this ⊢
        omega
      · cases j with
        | zero =>
          cases h
          exact ⟨.ref a, rfl, rfl, nF, hk_a, hct⟩
        | succ j =>
          obtain ⟨v, g1, g2⟩ := base.sl j s' h n
          refine ⟨v, g1, ?_⟩
          have h : (ds.map Sl.v)[j]? = some s' := h
          rw [List.getElem?_map] at h
          cases hd : ds[j]? with
          | none =>
            rw [hd] at h
            cases h
          | some d =>
            rw [hd] at h
            cases h
            exact g2
      · exact ne ((noV j1 s1 c1 h1 o1).trans (noV j2 s2 c2 h2 o2).symm)
      · cases noV j1 s1 c1 h1 h2
        cases h1
        cases h2
        cases h3
        obtain ⟨f1, f2, f3⟩ := k1.inn i s ct a b hs hso hv0 h4
        refine ⟨f1, Hless.at_ ⟨i, List.mem_singleton.mpr rfl, s, ct, a, hs, hso, hv0, .inr h4⟩, fun j2 s2 c2 a2 g1 g2 g3 => ?_⟩
        cases noV j2 s2 c2 g1 g2
        cases g1
        cases g2
        cases g3
        exact ⟨(f3 i s ct a hs hso hv0).1, fun z => absurd rfl z⟩
    have ao : ArgsOk (.io ct :: ds.map Sl.v) := fun s' hs' => by
      rcases List.mem_cons.mp hs' with rfl | hs'
      · exact .inr ⟨ct, rfl⟩
      · exact argsOkV ds s' hs'
    refine ⟨by rw [List.length_cons, dpa_len dps]; exact hn, fun _ => a, Hk, F, _, okA, ao, ?_⟩
    -- the caller's state behind the call
    have bk : ∀ {ct' : Ct} {z : List Sl}, BackOk st r (putC i ct' r) [i] ((V.ref a :: vs).map some) (.io ct' :: z) := fun {ct' z} => by
      have put : putC i ct' r = r.set i (s.put ct') := by
        unfold putC
        rw [hs]
      have hl : i < r.length := (List.getElem?_eq_some_iff.mp hs).1
      rw [put]
      refine ⟨List.length_set, fun j s' h => ?_⟩
      by_cases e : i = j
      · subst e
        rw [List.getElem?_set_self hl] at h
        cases h
        exact .inr ⟨0, s, ct, ct', a, List.mem_singleton.mpr rfl, hs, hso, hv0, rfl, rfl, rfl⟩
      · rw [List.getElem?_set_ne e] at h
        exact .inl ⟨fun z => e (List.mem_singleton.mp z).symm, h⟩
    have grow : ∀ {F' H' : Hp} {ct' : Ct} {z : List Sl}, Ok c.K (fun _ => a) Hk F F' H' ((V.ref a :: vs).map some) (.io ct' :: z) → Ok c.K pa H0 F0 F' H' st (putC i ct' r) := fun {F' H' ct' z} k2 => k1.lent k2 bk
    dsimp only at q
    cases hf : f (.io ct :: ds.map .v) with
    | no =>
      rw [hf] at q
      exact q.elim
    | ex ee z =>
      rw [hf] at q
      cases z with
      | nil => exact q.elim
      | cons z0 zr =>
        cases z0 with
        | io ct' => exact fun F' H' cls dd k2 xo => q F' H' st cls dd (grow k2) k2.fF xo
        | _ => exact q.elim
    | ok rv z =>
      rw [hf] at q
      cases z with
      | nil => exact q.elim
      | cons z0 zr =>
        cases z0 with
        | io ct' =>
          refine fun F' H' v k2 hv => q F' H' v (grow k2) (e0.trans k2.fF) ?_
          exact hv.lent k1 k2 bk
        | _ => exact q.elim
theorem o_callI (i : Nat) {y : Str} {py : Pos} (G : Fn X.prog X.w X.K X.mg X.base k x n f) (hr : Rm k X.A) (tk : Takes X c.W) (ha : PA X es (tA c ms)) (hnm : ∀ r ds r', ms r = .ok ds r' → ds.length + 1 = n) (hK : c.K = X.K := by rfl) (hM : c.mg = X.mg := by rfl) (hg : Gl X x := by rfl)
    (hN : X.N[i]? = some y := by rfl) (hv : Vis X.env.scope y := by first | exact Or.inl rfl | exact Or.inr (Or.inl rfl) | exact Or.inr (Or.inr rfl)) (hd : (y == ("__debug__" : Str)) = false := by decide) (hcd : (y == ("__classdict__" : Str)) = false := by decide)
    (hdb : (x == ("__debug__" : Str)) = false := by decide) (he : starEach (.Name y py :: es) X.env = (false, eval (.Name y py) X.env) :: starEach es X.env := by rfl) (hpl : (backTo pos (starEach es X.env)).any (·.1) = false := by rfl) :
    PE X (.Call (.Name x p) (.Name y py :: es) [] pos) (tO c (cCallI i f ms)) := by
  obtain ⟨a, fd, ps, g1, g2, g3, g4⟩ := G.ex
  refine pe_cq (pe_callG (Ew := fun st cls d H' => c.W cls d st H') g4 hr hg g1 g2 g3 (fun σ => passAt tk σ) (pa_cons (pe_var (i := i) hN hv hd hcd) ha he) hdb he hpl) fun st H Q ⟨pa, H0, F0, F, r, ok, po⟩ => ?_
  unfold cCallI at po
  cases hgc : getC i r with
  | none =>
    rw [hgc] at po
    exact po.elim
  | some ct0 =>
  rw [hgc] at po
  dsimp only at po
  obtain ⟨s0, hs0, hso0⟩ := getC_some hgc
  obtain ⟨a0, hv0, _⟩ := ok.ownd hs0 hso0
  refine ⟨_, hv0, pa, H0, F0, F, r, ok, ?_⟩
  cases hm : ms r with
  | no =>
    rw [hm] at po
    exact po.elim
  | ex ee r1 =>
    rw [hm] at po
    exact po
  | ok ds r1 =>
    rw [hm] at po
    intro F1 H1 vs k1 e1 dps
    rw [← hK, ← hM]
    show spG c.K c.mg n f ((V.ref a0 :: vs)) H1 Q _
    exact callI (hnm r ds r1 hm) k1 hv0 dps e1 (po.mono (XW.mono e1) fun _ _ x => x)
end
end Pu
namespace Pu
open PySem PySem.Spec PyProof.Rows L2
variable [TabT]
/-! ### tables of data -/
def keyD : D → Option Key
  | .int i => some (.inl i)
  | .str x => some (.inr x)
  | _ => none
def vK {κ : Type} [DecidableEq κ] (kvs : List (κ × D)) (k : κ) : Option D := (kvs.find? fun kv => decide (kv.1 = k)).map (·.2)
def pK {κ : Type} [DecidableEq κ] (kvs : List (κ × D)) (k : κ) (d : D) : List (κ × D) :=
  if (kvs.any fun kv => decide (kv.1 = k)) = true then kvs.map (fun kv => if kv.1 = k then (kv.1, d) else kv) else kvs ++ [(k, d)]
section
variable {K : PySem.W.Frag} {F : Hp} {κ : Type} [DecidableEq κ]
omit [DecidableEq κ] in
theorem kv_len : ∀ {ks : List (κ × V)} {kvs : List (κ × D)}, KvAll K F ks kvs → ks.length = kvs.length
  | _, _, .nil => rfl
  | _, _, .cons _ t => congrArg Nat.succ (kv_len t)
theorem kv_any (k : κ) : ∀ {ks : List (κ × V)} {kvs : List (κ × D)}, KvAll K F ks kvs → (ks.any fun kv => decide (kv.1 = k)) = (kvs.any fun kv => decide (kv.1 = k))
  | _, _, .nil => rfl
  | _, _, .cons _ t => by
    rw [List.any_cons, List.any_cons, kv_any k t]
theorem kv_get {k : κ} {d : D} : ∀ {ks : List (κ × V)} {kvs : List (κ × D)}, KvAll K F ks kvs → vK kvs k = some d → ∃ v, valV ks k = some v ∧ Rp K F v d
  | _, _, .nil, h => by cases h
  | _, _, .cons (k := k') (v := v') (d := d') (ks := ks) (kvs := kvs) r t, h => by
    by_cases e : k' = k
    · have h1 : vK ((k', d') :: kvs) k = some d' := by simp [vK, List.find?_cons, e]
      rw [h1] at h
      cases h
      exact ⟨v', valV_pos e, r⟩
    · have h1 : vK ((k', d') :: kvs) k = vK kvs k := by simp [vK, List.find?_cons, e]
      rw [h1] at h
      obtain ⟨v, g1, g2⟩ := kv_get t h
      exact ⟨v, (valV_neg e).trans g1, g2⟩
theorem kv_map {k : κ} {v : V} {d : D} (r : Rp K F v d) : ∀ {ks : List (κ × V)} {kvs : List (κ × D)}, KvAll K F ks kvs → KvAll K F (ks.map fun kv => if kv.1 = k then (kv.1, v) else kv) (kvs.map fun kv => if kv.1 = k then (kv.1, d) else kv)
  | _, _, .nil => .nil
  | _, _, .cons (k := k') (v := v') (d := d') (ks := ks) (kvs := kvs) r' t => by
    rw [List.map_cons, List.map_cons]
    by_cases e : k' = k
    · rw [if_pos e, if_pos e]
      exact .cons r (kv_map r t)
    · rw [if_neg e, if_neg e]
      exact .cons r' (kv_map r t)
omit [DecidableEq κ] in
theorem kv_app : ∀ {ks ls : List (κ × V)} {kvs lvs : List (κ × D)}, KvAll K F ks kvs → KvAll K F ls lvs → KvAll K F (ks ++ ls) (kvs ++ lvs)
  | _, _, _, _, .nil, h => h
  | _, _, _, _, .cons r t, h => .cons r (kv_app t h)
theorem kv_put {k : κ} {v : V} {d : D} {ks : List (κ × V)} {kvs : List (κ × D)} (h : KvAll K F ks kvs) (r : Rp K F v d) : KvAll K F (putK ks k v) (pK kvs k d) := by
  unfold putK pK
  rw [kv_any k h]
  split
  · exact kv_map r h
  · exact kv_app h (.cons r .nil)
omit [DecidableEq κ] in
theorem kv_merge : ∀ {ls : List (Key × V)} {lvs : List (Key × D)}, KvAll K F ls lvs → ∀ {ks : List (Key × V)} {kvs : List (Key × D)}, KvAll K F ks kvs → KvAll K F (mergeK ks ls) (lvs.foldl (fun acc kv => pK acc kv.1 kv.2) kvs)
  | _, _, .nil, _, _, h => h
  | _, _, .cons r t, _, _, h => kv_merge t (kv_put h r)
theorem rp_key {v : V} {d : D} {k : Key} (h : Rp K F v d) (e : keyD d = some k) : v = kV k := by
  cases h with
  | int i =>
    cases e
    rfl
  | str x =>
    cases e
    rfl
  | _ => cases e
end
/-! ### lists and dicts of one's own -/
def sAppend (i : Nat) (m : M D) : M Fl := fun r => match getC i r with
  | some (.l _) => (m r).bind fun d r => match getC i r with
    | some (.l ds) => if ds.length < 16777216 then .ok .nx (putC i (.l (ds ++ [d])) r) else .no
    | _ => .no
  | _ => .no
/-- x.extend(a new list) -/
def sExtend (i : Nat) (m : M RV) : M Fl := fun r => match getC i r with
  | some (.l _) => (m r).bind fun rv r => match rv, getC i r with
    | .o (.l es), some (.l ds) => if ds.length + es.length ≤ 16777216 then .ok .nx (putC i (.l (ds ++ es)) r) else .no
    | _, _ => .no
  | _ => .no
section
variable {X : Cx} {c : Cc}
theorem s_append (i : Nat) {x : Str} {e : Expr} {m : M D} {px apos cpos pos : Pos} (h : PE X e (tM c m)) (hK : c.K = X.K := by rfl) (hN : X.N[i]? = some x := by rfl) (hv : Vis X.env.scope x := by first | exact Or.inl rfl | exact Or.inr (Or.inl rfl) | exact Or.inr (Or.inr rfl)) (hd : (x == ("__debug__" : Str)) = false := by decide)
    (hcd : (x == ("__classdict__" : Str)) = false := by decide) (hs1 : starEach [e] X.env = [(false, eval e X.env)] := by rfl)
    (hbase : attributeBase (.Name x px) "append" X.env (eval (.Name x px) X.env) = eval (.Name x px) X.env := by rfl)
    (hfew : ((backTo cpos (starEach [e] X.env)).all (fun x => !x.1) && (backToKw cpos (keywordEach [] X.env)).all (fun x => x.1.isSome) && decide (([e] : List Expr).length + ([] : List Keyword).length + (if ([] : List Keyword).isEmpty then 0 else 1) < 30)) = true := by rfl)
    (hline : (apos.endLine == cpos.line) = true := by rfl) (hplain : (backTo cpos (starEach [] X.env)).any (·.1) = false := by rfl) (hsw : swapsWith (.Call (.Attribute (.Name x px) "append" apos) [e] [] cpos) none pos.line X.env = pure false := by rfl) :
    PS X (.Expr (.Call (.Attribute (.Name x px) "append" apos) [e] [] cpos) pos) (sM c (sAppend i m)) :=
  ps_cq (ps_expr (pe_bm PySem.F.plainAttrs_list PySem.F.slot_list_append PySem.F.type_list_append mt_append (pe_var (i := i) hN hv hd hcd) (pa_cons h pa_nil hs1) hbase hfew hline hs1 hplain) hsw) fun Dd st H ⟨pa, H0, F0, F, r, ok, po⟩ => by
    unfold sAppend at po
    split at po
    · rename_i ds0 hg
      obtain ⟨s0, hs0, hso0⟩ := getC_some hg
      obtain ⟨a, hst, nF, n0, vs0, hH0, hr0⟩ := ok.ownd hs0 hso0
      refine ⟨_, hst, .inl ⟨rfl, vs0, .inl (.inl hH0)⟩, ?_⟩
      refine ⟨pa, H0, F0, F, r, ok, (Po.bind po).mono (fun _ _ x => x) fun d r1 q F1 H1 v k1 e1 dp => ?_⟩
      split at q
      · rename_i ds hg1
        split at q
        · rename_i hl
          obtain ⟨s1, hs1, hso1⟩ := getC_some hg1
          obtain ⟨a1, hst1, nF1, n01, vs, hH1, hr1⟩ := k1.ownd hs1 hso1
          rw [hst] at hst1
          cases hst1
          refine ⟨a, vs, v, rfl, rfl, hH1, by rw [dpa_len hr1, sizeLine_eq]; exact hl, ?_⟩
          exact q F1 _ st (k1.putC hg1 hst ⟨_, upd_same, dpa_app hr1 (.cons dp .nil)⟩) e1
        · exact q.elim
      · exact q.elim
    · exact po.elim
theorem s_extend (i : Nat) {x : Str} {e : Expr} {m : M RV} {px apos cpos pos : Pos} (h : PE X e (tO c m)) (hK : c.K = X.K := by rfl) (hN : X.N[i]? = some x := by rfl) (hv : Vis X.env.scope x := by first | exact Or.inl rfl | exact Or.inr (Or.inl rfl) | exact Or.inr (Or.inr rfl)) (hd : (x == ("__debug__" : Str)) = false := by decide)
    (hcd : (x == ("__classdict__" : Str)) = false := by decide) (hs1 : starEach [e] X.env = [(false, eval e X.env)] := by rfl)
    (hbase : attributeBase (.Name x px) "extend" X.env (eval (.Name x px) X.env) = eval (.Name x px) X.env := by rfl)
    (hfew : ((backTo cpos (starEach [e] X.env)).all (fun x => !x.1) && (backToKw cpos (keywordEach [] X.env)).all (fun x => x.1.isSome) && decide (([e] : List Expr).length + ([] : List Keyword).length + (if ([] : List Keyword).isEmpty then 0 else 1) < 30)) = true := by rfl)
    (hline : (apos.endLine == cpos.line) = true := by rfl) (hplain : (backTo cpos (starEach [] X.env)).any (·.1) = false := by rfl) (hsw : swapsWith (.Call (.Attribute (.Name x px) "extend" apos) [e] [] cpos) none pos.line X.env = pure false := by rfl) :
    PS X (.Expr (.Call (.Attribute (.Name x px) "extend" apos) [e] [] cpos) pos) (sM c (sExtend i m)) :=
  ps_cq (ps_expr (pe_bm PySem.F.plainAttrs_list PySem.F.slot_list_extend PySem.F.type_list_extend mt_extend (pe_var (i := i) hN hv hd hcd) (pa_cons h pa_nil hs1) hbase hfew hline hs1 hplain) hsw) fun Dd st H ⟨pa, H0, F0, F, r, ok, po⟩ => by
    unfold sExtend at po
    split at po
    · rename_i ds0 hg
      obtain ⟨s0, hs0, hso0⟩ := getC_some hg
      obtain ⟨a, hst, nF, n0, vs0, hH0, hr0⟩ := ok.ownd hs0 hso0
      refine ⟨_, hst, .inl ⟨rfl, vs0, .inl (.inl hH0)⟩, ?_⟩
      refine ⟨pa, H0, F0, F, r, ok, (Po.bind po).mono (fun _ _ x => x) fun d r1 q F1 H1 v k1 e1 dp => ?_⟩
      split at q
      · rename_i es ds hg1
        split at q
        · rename_i hl
          obtain ⟨s1, hs1, hso1⟩ := getC_some hg1
          obtain ⟨a1, hst1, nF1, n01, vs, hH1, hr1⟩ := k1.ownd hs1 hso1
          rw [hst] at hst1
          cases hst1
          obtain ⟨b, rfl, z1, z2, ⟨ws, z3, z4⟩, z5⟩ := dp
          refine ⟨a, b, vs, ws, rfl, rfl, hH1, z3, by rw [dpa_len hr1, dpa_len z4, sizeLine_eq]; exact hl, ?_⟩
          exact q F1 _ st (k1.putC hg1 hst ⟨_, upd_same, dpa_app hr1 z4⟩) e1
        · exact q.elim
      · exact q.elim
    · exact po.elim
/-- a key that is a tuple of ints and texts -/
def keysD : List D → Option (List Key)
  | [] => some []
  | d :: ds => (keyD d).bind fun k => (keysD ds).map (k :: ·)
def tkeyD : D → Option (List Key)
  | .tuple ds => keysD ds
  | _ => none
theorem rp_keysD {K : PySem.W.Frag} {F : Hp} : ∀ {vs : List V} {ds : List D} {ks : List Key}, RpAll K F vs ds → keysD ds = some ks → vs = ks.map kV
  | _, _, _, .nil, h => by
    cases h
    rfl
  | _, _, _, .cons (d := d) (ds := ds) r t, h => by
    have h : (keyD d).bind (fun k => (keysD ds).map (k :: ·)) = some _ := h
    cases hk : keyD d with
    | none =>
      rw [hk] at h
      cases h
    | some k =>
      rw [hk] at h
      cases hks : keysD ds with
      | none =>
        rw [hks] at h
        cases h
      | some ks2 =>
        rw [hks] at h
        cases h
        rw [rp_keysD t hks, rp_key r hk]
        rfl
theorem rp_tkey {K : PySem.W.Frag} {F : Hp} {v : V} {d : D} {ks : List Key} (h : Rp K F v d) (hk : tkeyD d = some ks) : ∃ b, v = .ref b ∧ F b = some (.tup (ks.map kV)) := by
  cases h with
  | @tup a xs ds g1 g2 =>
    refine ⟨a, rfl, ?_⟩
    rw [← rp_keysD g2 hk]
    exact g1
  | _ => cases hk
/-! o[k] = e -/
theorem pset_or {t t' : TSet} (h : PSet X t) (h' : PSet X t') : PSet X (fun o i v H Q => t o i v H Q ∨ t' o i v H Q) :=
  fun pins s st H o i v ov iv u Q I ro ri rv q => q.elim (h pins s st H o i v ov iv u Q I ro ri rv) (h' pins s st H o i v ov iv u Q I ro ri rv)
/-- the slot is owned ahead of the key -/
def sPut' (i : Nat) (mk m : M D) : M Fl := m.bind fun d r => match getC i r with
  | none => .no
  | some _ => (mk r).bind fun k r => match getC i r with
    | some (.l ds) => (match k with
      | .int n => (match ixN ds.length n with
        | some j => .ok .nx (putC i (.l (ds.set j d)) r)
        | none => .no)
      | _ => .no)
    | some (.d kvs) => (match keyD k with
      | some y => if kvs.length < 16777216 then .ok .nx (putC i (.d (pK kvs y d)) r) else .no
      | none => .no)
    | some (.t kvs) => (match tkeyD k with
      | some y => if kvs.length < 16777216 then .ok .nx (putC i (.t (pK kvs y d)) r) else .no
      | none => .no)
    | some (.n _) => .no
    | none => .no
theorem s_put (i : Nat) {x : Str} {ek e : Expr} {mk m : M D} {px spos pos : Pos} (hk : PE X ek (tM c mk)) (h : PE X e (tM c m)) (hu : X.A.units + 1 < cLine) (hN : X.N[i]? = some x := by rfl) (hv : Vis X.env.scope x := by first | exact Or.inl rfl | exact Or.inr (Or.inl rfl) | exact Or.inr (Or.inr rfl)) (hd : (x == ("__debug__" : Str)) = false := by decide)
    (hcd : (x == ("__classdict__" : Str)) = false := by decide) (ha : ∀ v, assign (.Subscript (.Name x px) ek spos) X.env v = (do
      let ov ← holding [v] (eval (.Name x px) X.env)
      let iv ← holding [v, ov] (eval ek X.env)
      standAt spos
      holding [v, ov, iv] (setItem ov iv v)
      release [v, ov, iv] []) := by intro _; rfl)
    (hs : swapsWithSole [.Subscript (.Name x px) ek spos] e pos.line X.env = pure false := by rfl) (hw : swappedStores [.Subscript (.Name x px) ek spos] e X.env = pure none := by rfl)
    (h1 : (assignEach [.Subscript (.Name x px) ek spos] X.env).map (·.2) = [assign (.Subscript (.Name x px) ek spos) X.env] := by rfl) :
    PS X (.Assign [.Subscript (.Name x px) ek spos] e pos) (sM c (sPut' i mk m)) :=
  ps_cq (ps_asg h (pg_sub (pe_var (i := i) hN hv hd hcd) hk (pset_or set_list (set_dict hu)) ha) hs hw h1) fun Dd st H ⟨pa, H0, F0, F, r, ok, po⟩ => seqM ok po fun d r1 F1 H1 v k1 e1 dp q => by
    split at q
    · exact q.elim
    · rename_i ct0 hg
      obtain ⟨s0, hs0, hso0⟩ := getC_some hg
      obtain ⟨a, hst, _⟩ := k1.ownd hs0 hso0
      refine ⟨_, hst, pa, H0, F0, F1, r1, k1, (Po.bind q).mono (fun _ _ x => x) fun kd r2 q F2 H2 kv k2 e2 dk => ?_⟩
      split at q
      · rename_i ds hg2
        obtain ⟨s1, hs1, hso1⟩ := getC_some hg2
        obtain ⟨a1, hst1, nF1, n01, vs, hH1, hr1⟩ := k2.ownd hs1 hso1
        rw [hst] at hst1
        cases hst1
        split at q
        · rename_i n
          split at q
          · rename_i j hj
            cases rp_int dk
            refine .inl ⟨a, vs, n, j, rfl, rfl, hH1, by rw [dpa_len hr1]; exact hj, ?_⟩
            exact q F2 _ st (k2.putC hg2 hst ⟨_, upd_same, dpa_set (dp_mono e2 dp) j hr1⟩) (e1.trans e2)
          · exact q.elim
        · exact q.elim
      · rename_i kvs hg2
        obtain ⟨s1, hs1, hso1⟩ := getC_some hg2
        obtain ⟨a1, hst1, nF1, n01, ks, hH1, hr1⟩ := k2.ownd hs1 hso1
        rw [hst] at hst1
        cases hst1
        split at q
        · rename_i y hy
          split at q
          · rename_i hl
            cases rp_key dk hy
            refine .inr ⟨a, _, rfl, DPut.k (k := y) hH1 (by rw [kv_len hr1, sizeLine_eq]; exact hl), ?_⟩
            exact q F2 _ st (k2.putC hg2 hst ⟨_, upd_same, kv_put hr1 (dp_mono e2 dp)⟩) (e1.trans e2)
          · exact q.elim
        · exact q.elim
      · rename_i kvs hg2
        obtain ⟨s1, hs1, hso1⟩ := getC_some hg2
        obtain ⟨a1, hst1, nF1, n01, ks, hH1, hr1⟩ := k2.ownd hs1 hso1
        rw [hst] at hst1
        cases hst1
        split at q
        · rename_i y hy
          split at q
          · rename_i hl
            obtain ⟨b, rfl, hb⟩ := rp_tkey dk hy
            refine .inr ⟨a, _, rfl, DPut.t (k := y) hH1 (k2.fH.at_ _ _ hb fun ps z => nomatch z) (by rw [kv_len hr1, sizeLine_eq]; exact hl), ?_⟩
            exact q F2 _ st (k2.putC hg2 hst ⟨_, upd_same, kv_put hr1 (dp_mono e2 dp)⟩) (e1.trans e2)
          · exact q.elim
        · exact q.elim
      · exact q.elim
      · exact q.elim
/-! x[k], len(x), where x may be one's own -/
def ixL (ds : List D) : D → Option D
  | .int n => atI ds n
  | _ => none
def ixD : D → D → Option D
  | .list ds, k => ixL ds k
  | .tuple ds, k => ixL ds k
  | .str z, .int n => if z.length ≤ 16777216 then (atI z.cps.toList n).map fun ch => .str ⟨#[ch]⟩ else none
  | _, _ => none
theorem atI_rp {K : PySem.W.Frag} {F : Hp} {vs : List V} {ds : List D} {n : Int} {d : D} (hr : RpAll K F vs ds) (h : atI ds n = some d) : ∃ v, atI vs n = some v ∧ Rp K F v d := by
  unfold atI at h ⊢
  rw [dpa_len hr]
  cases hj : ixN ds.length n with
  | none =>
    rw [hj] at h
    cases h
  | some j =>
    rw [hj] at h
    exact dpa_get hr h
theorem opr_cq {f : Value → Value → Sem Value} {r r' : R2} (h : OpR X f r) (i : ∀ x y H Q, r' x y H Q → r x y H Q) : OpR X f r' := fun pins s st H x y v u Q I rx ry q => h pins s st H x y v u Q I rx ry (i x y H Q q)
theorem unr_cq {f : Value → Sem Value} {r r' : V → Hp → VK → Prop} (h : UnR X f r) (i : ∀ x H Q, r' x H Q → r x H Q) : UnR X f r' := fun pins s st H x v Q I rx q => h pins s st H x v Q I rx (i x H Q q)
theorem ixr_cq {r r' : R2} (h : IxR X r) (i : ∀ x y H Q, r' x y H Q → r x y H Q) : IxR X r' := fun va sl pins s st H x y v u Q I rx ry q => h va sl pins s st H x y v u Q I rx ry (i x y H Q q)
theorem callr_cq {f : Value} {r r' : List V → Hp → VK → Prop} (h : CallR X f r) (i : ∀ x H Q, r' x H Q → r x H Q) : CallR X f r' := fun pins s st H x v Q I rx q => h pins s st H x v Q I rx (i x H Q q)
theorem ix_data (hK : c.K = X.K := by rfl) : IxR X (rD2 c.K ixD) := ixr_cq ix_seq fun x y H Q ⟨F, d, e, z, fh, dx, dy, hz, q⟩ => by
  cases dx with
  | @lst a vs ds h1 h2 =>
    cases dy with
    | int n =>
      obtain ⟨v, g1, g2⟩ := atI_rp h2 hz
      exact .inl ⟨a, vs, n, v, rfl, rfl, by rw [← hK]; exact fh.l h1, g1, q v F H (.inl ⟨rfl, rfl⟩) g2⟩
    | _ => cases hz
  | @tup a vs ds h1 h2 =>
    cases dy with
    | int n =>
      obtain ⟨v, g1, g2⟩ := atI_rp h2 hz
      exact .inr (.inl ⟨a, vs, n, v, rfl, rfl, by rw [← hK]; exact fh.t h1, g1, q v F H (.inl ⟨rfl, rfl⟩) g2⟩)
    | _ => cases hz
  | str w =>
    cases dy with
    | int n =>
      have hz : (if w.length ≤ 16777216 then (atI w.cps.toList n).map fun ch => PyData.str ⟨#[ch]⟩ else none) = some z := hz
      by_cases hl : w.length ≤ 16777216
      · rw [if_pos hl] at hz
        cases ha : atI w.cps.toList n with
        | none =>
          rw [ha] at hz
          cases hz
        | some ch =>
          rw [ha] at hz
          cases hz
          exact .inr (.inr ⟨w, n, ch, rfl, rfl, by rw [sizeLine_eq]; exact hl, ha, q _ F H (.inl ⟨rfl, rfl⟩) (.str _)⟩)
      · rw [if_neg hl] at hz
        cases hz
    | _ => cases hz
  | _ => cases hz
theorem pe_or' {e : Expr} {t t' : TE} (h : PE X e t) (h' : PE X e t') : PE X e (fun st H Q => t st H Q ∨ t' st H Q) := ⟨fun pins s st H Q I q => q.elim (h.run pins s st H Q I) (h'.run pins s st H Q I)⟩
/-- x[k], x a list or a dict of one's own, or data -/
def eIxS (i : Nat) (mk : M D) : M D := fun r => match getC i r with
  | some (.l _) => (mk r).bind fun k r => match getC i r with
    | some (.l ds) => M.opt (ixL ds k) r
    | _ => .no
  | some (.d _) => (mk r).bind fun k r => match getC i r with
    | some (.d kvs) => M.opt ((keyD k).bind (vK kvs)) r
    | _ => .no
  | some (.t _) => .no
  | some (.n _) => .no
  | none => bin ixD (getS i) mk r
theorem e_ixS (i : Nat) {x : Str} {ek : Expr} {mk : M D} {px pos : Pos} (hk : PE X ek (tM c mk)) (hu : X.A.units + 1 < cLine) (hK : c.K = X.K := by rfl) (hs : PlainIx ek := by exact fun _ _ => rfl) (hN : X.N[i]? = some x := by rfl) (hv : Vis X.env.scope x := by first | exact Or.inl rfl | exact Or.inr (Or.inl rfl) | exact Or.inr (Or.inr rfl)) (hd : (x == ("__debug__" : Str)) = false := by decide)
    (hcd : (x == ("__classdict__" : Str)) = false := by decide) : PE X (.Subscript (.Name x px) ek pos) (tM c (eIxS i mk)) :=
  pe_cq (pe_or' (pe_or' (pe_ix ix_list (pe_var (i := i) hN hv hd hcd) hk hs) (pe_dget hu (pe_var (i := i) hN hv hd hcd) hk hs)) (e_ix (c := c) (ix_data hK) (e_var i hN hv hd hcd) hk hs)) fun st H Q ⟨pa, H0, F0, F, r, ok, po⟩ => by
    unfold eIxS at po
    split at po
    · rename_i ds0 hg
      obtain ⟨s0, hs0, hso0⟩ := getC_some hg
      obtain ⟨a, hst, _⟩ := ok.ownd hs0 hso0
      refine .inl (.inl ⟨_, hst, pa, H0, F0, F, r, ok, (Po.bind po).mono (fun _ _ x => x) fun kd r1 q F1 H1 v k1 e1 dp => ?_⟩)
      split at q
      · rename_i ds hg1
        obtain ⟨s1, hs1, hso1⟩ := getC_some hg1
        obtain ⟨a1, hst1, nF1, n01, vs, hH1, hr1⟩ := k1.ownd hs1 hso1
        rw [hst] at hst1
        cases hst1
        obtain ⟨z, hz, q2⟩ := opt_po q
        cases dp with
        | int n =>
          obtain ⟨w, g1, g2⟩ := atI_rp hr1 hz
          exact ⟨a, vs, n, w, rfl, rfl, .inl (.inl hH1), g1, q2 F1 H1 w k1 e1 g2⟩
        | _ => cases hz
      · exact q.elim
    · rename_i kv0 hg
      obtain ⟨s0, hs0, hso0⟩ := getC_some hg
      obtain ⟨a, hst, _⟩ := ok.ownd hs0 hso0
      refine .inl (.inr ⟨_, hst, pa, H0, F0, F, r, ok, (Po.bind po).mono (fun _ _ x => x) fun kd r1 q F1 H1 v k1 e1 dp => ?_⟩)
      split at q
      · rename_i kvs hg1
        obtain ⟨s1, hs1, hso1⟩ := getC_some hg1
        obtain ⟨a1, hst1, nF1, n01, ks, hH1, hr1⟩ := k1.ownd hs1 hso1
        rw [hst] at hst1
        cases hst1
        obtain ⟨z, hz, q⟩ := opt_po q
        cases hy : keyD kd with
        | none =>
          rw [hy] at hz
          cases hz
        | some y =>
          rw [hy] at hz
          obtain ⟨w, g1, g2⟩ := kv_get hr1 hz
          cases rp_key dp hy
          refine ⟨a, w, rfl, ?_, q F1 H1 w k1 e1 g2⟩
          rw [← g1]
          exact DGet.k hH1
      · exact q.elim
    · exact po.elim
    · exact po.elim
    · exact .inr ⟨pa, H0, F0, F, r, ok, po⟩
/-- len(x) -/
def lenD : D → Option D
  | .list ds => some (.int (ds.length : Nat))
  | .tuple ds => some (.int (ds.length : Nat))
  | .str z => if z.length ≤ 16777216 then some (.int (z.length : Nat)) else none
  | _ => none
def one (g : D → Option D) : List D → Option D
  | [d] => g d
  | _ => none
theorem one_some {g : D → Option D} {ds : List D} {z : D} (h : one g ds = some z) : ∃ d, ds = [d] ∧ g d = some z := by
  unfold one at h
  split at h
  · exact ⟨_, rfl, h⟩
  · cases h
theorem len_data (hK : c.K = X.K := by rfl) : CallR X (.builtin "len") (rDA c.K (one lenD)) := callr_cq call_len fun xs H Q ⟨F, ds, z, fh, dps, hz, q⟩ => by
  obtain ⟨d, rfl, hz⟩ := one_some hz
  obtain ⟨v, rfl, dp⟩ := rpa_one dps
  cases dp with
  | @lst a vs ds h1 h2 =>
    cases hz
    refine ⟨_, ds.length, rfl, .inl ⟨vs, by rw [← hK]; exact fh.l h1, (dpa_len h2).symm⟩, q _ F H (.inl ⟨rfl, rfl⟩) (.int _)⟩
  | @tup a vs ds h1 h2 =>
    cases hz
    refine ⟨_, ds.length, rfl, .inr ⟨vs, by rw [← hK]; exact fh.t h1, (dpa_len h2).symm⟩, q _ F H (.inl ⟨rfl, rfl⟩) (.int _)⟩
  | str w =>
    have hz : (if w.length ≤ 16777216 then some (PyData.int (w.length : Nat)) else none) = some z := hz
    by_cases hl : w.length ≤ 16777216
    · rw [if_pos hl] at hz
      cases hz
      exact ⟨_, w.length, rfl, ⟨by rw [sizeLine_eq]; exact hl, rfl⟩, q _ F H (.inl ⟨rfl, rfl⟩) (.int _)⟩
    · rw [if_neg hl] at hz
      cases hz
  | _ => cases hz
def eLenS (i : Nat) : M D := fun r => match getC i r with
  | some (.l ds) => .ok (.int (ds.length : Nat)) r
  | some (.d kvs) => .ok (.int (kvs.length : Nat)) r
  | some (.t _) => .no
  | some (.n _) => .no
  | none => nry (one lenD) (aCons (getS i) aNil) r
theorem e_lenS (i : Nat) {x : Str} {p px pos : Pos} (hm : X.mg "len" = none) (hK : c.K = X.K := by rfl) (hg : Gl X "len" := by rfl) (hs1 : starEach [.Name x px] X.env = [(false, eval (.Name x px) X.env)] := by rfl) (hpl : (backTo pos (starEach [] X.env)).any (·.1) = false := by rfl)
    (hN : X.N[i]? = some x := by rfl) (hv : Vis X.env.scope x := by first | exact Or.inl rfl | exact Or.inr (Or.inl rfl) | exact Or.inr (Or.inr rfl)) (hd : (x == ("__debug__" : Str)) = false := by decide)
    (hcd : (x == ("__classdict__" : Str)) = false := by decide) : PE X (.Call (.Name "len" p) [.Name x px] [] pos) (tM c (eLenS i)) :=
  pe_cq (pe_or' (pe_or' (pe_callB call_len hg hm PySem.boot_len (pa_cons (pe_var (i := i) hN hv hd hcd) pa_nil hs1) (by decide) (by decide) hs1 hpl) (pe_callB call_lenD hg hm PySem.boot_len (pa_cons (pe_var (i := i) hN hv hd hcd) pa_nil hs1) (by decide) (by decide) hs1 hpl))
    (e_callB (c := c) (len_data hK) hm (a_cons (e_var i hN hv hd hcd) a_nil hs1) hg PySem.boot_len (by decide) (by decide) hs1 hpl)) fun st H Q ⟨pa, H0, F0, F, r, ok, po⟩ => by
    unfold eLenS at po
    split at po
    · rename_i ds hg
      obtain ⟨s0, hs0, hso0⟩ := getC_some hg
      obtain ⟨a, hst, nF, n0, vs, hH, hr⟩ := ok.ownd hs0 hso0
      exact .inl (.inl ⟨_, hst, _, ds.length, rfl, .inl ⟨vs, .inl (.inl hH), (dpa_len hr).symm⟩, po F H _ ok (Ex.refl F) (.int _)⟩)
    · rename_i kvs hg
      obtain ⟨s0, hs0, hso0⟩ := getC_some hg
      obtain ⟨a, hst, nF, n0, ks, hH, hr⟩ := ok.ownd hs0 hso0
      refine .inl (.inr ⟨_, hst, a, ks, rfl, hH, ?_⟩)
      rw [kv_len hr]
      exact po F H _ ok (Ex.refl F) (.int _)
    · exact po.elim
    · exact po.elim
    · exact .inr ⟨pa, H0, F0, F, r, ok, po⟩
/-! {k: v, ..} -/
def prs : List (M D × M D) → M (List (Key × D))
  | [] => M.ret []
  | (mk, mv) :: l => mk.bind fun k => mv.bind fun d => (prs l).bind fun kvs => M.opt ((keyD k).map fun y => (y, d) :: kvs)
def oDict (l : List (M D × M D)) : M RV := (prs l).bind fun kvs => if kvs.length ≤ 15 then M.ret (.o (.d (kvs.foldl (fun acc kv => pK acc kv.1 kv.2) []))) else M.no
theorem prs_ok : ∀ (l : List (M D × M D)) {α : Type} {pa : Nat → Addr} {H0 F0 F H : Hp} {st : L2.St} {r : En} {f : List (Key × D) → M α} {k : α → En → Prop} {Q : List (V × V) → Hp → Prop}, Ok c.K pa H0 F0 F H st r → Po (XW c pa H0 F0 F) ((prs l).bind f r) k →
    (∀ kvs r1 F1 H1 ks, Ok c.K pa H0 F0 F1 H1 st r1 → Ex F F1 → KvAll c.K F1 ks kvs → Po (XW c pa H0 F0 F1) (f kvs r1) k → Q (ks.map fun kv => (kV kv.1, kv.2)) H1) → tPairs (l.map fun p => (tM c p.1, tM c p.2)) st H Q
  | [], _, pa, H0, F0, F, H, st, r, f, k, Q, ok, po, h => h [] r F H [] ok (Ex.refl F) .nil po
  | (mk, mv) :: l, _, pa, H0, F0, F, H, st, r, f, k, Q, ok, po, h => by
    have po1 : Po (XW c pa H0 F0 F) (mk.bind (fun kd => mv.bind fun d => (prs l).bind fun kvs => (M.opt ((keyD kd).map fun y => (y, d) :: kvs)).bind f) r) k := by
      have e : ((prs ((mk, mv) :: l)).bind f r) = (mk.bind (fun kd => mv.bind fun d => (prs l).bind fun kvs => (M.opt ((keyD kd).map fun y => (y, d) :: kvs)).bind f) r) := by
        show ((mk r).bind _).bind f = (mk r).bind _
        cases mk r with
        | no => rfl
        | ex e r1 => rfl
        | ok kd r1 =>
          show ((mv r1).bind _).bind f = (mv r1).bind _
          cases mv r1 with
          | no => rfl
          | ex e r2 => rfl
          | ok d r2 =>
            show ((prs l r2).bind _).bind f = (prs l r2).bind _
            cases prs l r2 <;> rfl
      rw [e] at po
      exact po
    show tM c mk st H _
    refine seqM ok po1 fun kd r1 F1 H1 v k1 e1 dk q => ?_
    show tM c mv st H1 _
    refine seqM k1 q fun d r2 F2 H2 w k2 e2 dv q => ?_
    refine prs_ok l k2 q fun kvs r3 F3 H3 ks k3 e3 hkv q => ?_
    have q : Po (XW c pa H0 F0 F3) ((M.opt ((keyD kd).map fun y => (y, d) :: kvs) r3).bind f) k := q
    cases hy : keyD kd with
    | none =>
      rw [hy] at q
      exact q.elim
    | some y =>
      rw [hy] at q
      have z := h ((y, d) :: kvs) r3 F3 H3 ((y, w) :: ks) k3 ((e1.trans e2).trans e3) (.cons (dp_mono e3 dv) hkv) q
      cases rp_key dk hy
      exact z
theorem o_dict {pos : Pos} {keys : List (Option Expr)} {values : List Expr} {l : List (M D × M D)} (h : PPs X pos keys values (l.map fun p => (tM c p.1, tM c p.2))) (hall : keys.all (·.isSome) = true := by rfl) (hl : keys.length = values.length := by rfl) (h0 : keys ≠ [] := by exact fun z => by cases z) (h15 : keys.length ≤ 15 := by decide) :
    PE X (.Dict keys values pos) (tO c (oDict l)) :=
  pe_cq (pe_disp h hall hl h0 h15) fun st H Q ⟨pa, H0, F0, F, r, ok, po⟩ p np => by
    have n0 := ok.hH.nn np
    have nF := ok.fH.nn np
    have nF0 := ok.fF.nn nF
    have kl := ok.lay (o := .dK []) np
    have kf : Ok c.K pa (upd H0 p (.dK [])) F0 F (upd H p (.dK [])) st r := kl.frame ⟨fun a o z nt => by
        by_cases ha : a = p
        · subst ha
          rw [upd_same] at z ⊢
          exact z
        · rw [upd_ne ha] at z ⊢
          exact ok.hH.at_ a o z nt, fun a ps z => by
        by_cases ha : a = p
        · subst ha
          rw [upd_same] at z
          cases z
        · rw [upd_ne ha] at z ⊢
          exact ok.hH.tb a ps z⟩ (fun a z1 z2 => by
        by_cases ha : a = p
        · subst ha
          exact absurd nF z2
        · rw [upd_ne ha] at z1
          exact ok.sep a z1 z2) (fun j s ct a hj hct hst => by
        obtain ⟨na, ni⟩ := ok.nobody np j s ct a hj hct hst
        rw [upd_ne na]
        obtain ⟨a', g1, g2, g3, g4⟩ := ok.ownd hj hct
        rw [hst] at g1
        cases g1
        exact ⟨g3, fun b hb => by
          have hb' := hb.cg (upd_ne na).symm
          have nb : b ≠ p := fun z => ni (z ▸ hb')
          rw [upd_ne nb]
          exact (ok.inn j s ct a b hj hct hst hb').2.1⟩)
    have un : ∀ {F3 H3 : Hp} {st3 : L2.St} {r3 : En}, Ok c.K pa (upd H0 p (.dK [])) F0 F3 H3 st3 r3 → Ok c.K pa H0 F0 F3 H3 st3 r3 ∧ H3 p = some (.dK []) ∧ F3 p = none ∧ Nob H3 st3 r3 p := fun {F3 H3 st3 r3} k3 => by
      have h0 : Ex H0 (upd H0 p (.dK [])) := Ex.new n0
      refine ⟨k3.frame (h0.trans k3.hH) (fun a z1 z2 => k3.sep a (by
        cases hz : H0 a with
        | none => exact absurd hz z1
        | some o => exact (h0.some hz).elim fun _ q => ne_none q) z2) (fun j s ct a hj hct hst => ?_), k3.hH.at_ p _ upd_same (fun ps z => nomatch z), none_of_not fun z => k3.sep p (ne_none upd_same) z nF0, fun j s ct a hj hct hst => ⟨?_, ?_⟩⟩
      · obtain ⟨a', g1, g2, g3, g4⟩ := k3.ownd hj hct
        rw [hst] at g1
        cases g1
        exact ⟨h0.nn g3, fun b hb => h0.nn (k3.inn j s ct a b hj hct hst hb).2.1⟩
      · obtain ⟨a', g1, g2, g3, g4⟩ := k3.ownd hj hct
        rw [hst] at g1
        cases g1
        intro z
        subst z
        rw [upd_same] at g3
        cases g3
      · intro z
        have g3 := (k3.inn j s ct a p hj hct hst z).2.1
        rw [upd_same] at g3
        cases g3
    refine prs_ok l (k := fun d r' => ∀ F' H' v, Ok c.K pa H0 F0 F' H' st r' → Ex F F' → RvOk c.K H0 F' H' st r' v d → Q v H') kf (po.mono (fun e r' z F' H' st' cls dd k' => ?_) fun _ _ x => x) fun kvs r1 F1 H1 ks k1 e1 hkv q => ?_
    · exact z F' H' st' cls dd (un k').1
    · split at q
      · rename_i hlen
        obtain ⟨k2, hp, nF1, nO⟩ := un k1
        refine ⟨hp, ks, rfl, by rw [kv_len hkv]; exact hlen, ?_⟩
        exact q F1 _ _ (k2.aside n0 nF1 nO (tabs_upd k2.tb hp (fun ps z => nomatch z) (fun c q z => by unfold LamX.CodeO at z; cases z))) e1 ⟨p, rfl, nF1, n0, ⟨_, upd_same, kv_merge hkv .nil⟩, .d nO.upd⟩
      · exact q.elim
end
end Pu
namespace Pu
open PySem PySem.Spec PyProof.Rows L2
variable [TabT]
/-! ### what the operators tell of data -/
def addD : D → D → Option D
  | .int i, .int j => some (.int (i + j))
  | .str a, .str b => szC (a.length + b.length) (.str (a ++ b))
  | .tuple xs, .tuple ys => szC (xs.length + ys.length) (.tuple (xs ++ ys))
  | .list xs, .list ys => szC (xs.length + ys.length) (.list (xs ++ ys))
  | _, _ => none
def subD : D → D → Option D
  | .int i, .int j => some (.int (i - j))
  | _, _ => none
/-- one factor of at most 64 bits, or both together below a hundred million -/
def mulOk (i j : Int) : Prop := i.natAbs < 2 ^ 64 ∨ j.natAbs < 2 ^ 64 ∨ i.natAbs.log2 + j.natAbs.log2 < 100000000
instance (i j : Int) : Decidable (mulOk i j) := by unfold mulOk; exact inferInstance
noncomputable def mulD : D → D → Option D
  | .int i, .int j => cI (mulOk i j) (some (.int (i * j))) none
  | .list xs, .int k => cI ((-(2 ^ 63) ≤ k ∧ k < 2 ^ 63) ∧ xs.length * k.toNat ≤ 16777216) (some (.list (List.replicate k.toNat xs).flatten)) none
  | .tuple xs, .int k => cI (-1000 ≤ k ∧ k ≤ 1000 ∧ xs.length ≤ 1000) (some (.tuple (List.replicate k.toNat xs).flatten)) none
  | _, _ => none
noncomputable def fdivD : D → D → Option D
  | .int i, .int j => cI (j ≠ 0 ∧ j.natAbs.log2 < 9000) (some (.int (i.fdiv j))) none
  | _, _ => none
noncomputable def modD : D → D → Option D
  | .int i, .int j => cI (j ≠ 0) (some (.int (i.fmod j))) none
  | _, _ => none
noncomputable def powD : D → D → Option D
  | .int i, .int j => cI (0 ≤ j ∧ j ≤ 1000000 ∧ i.natAbs < 2 ^ 64) (some (.int (i ^ j.toNat))) none
  | _, _ => none
def negD : D → Option D
  | .int i => some (.int (-i))
  | _ => none
noncomputable def ltD : D → D → Option D
  | .int i, .int j => some (.bool (cd (i < j)))
  | _, _ => none
noncomputable def leD : D → D → Option D
  | .int i, .int j => some (.bool (cd (i ≤ j)))
  | _, _ => none
noncomputable def gtD : D → D → Option D
  | .int i, .int j => some (.bool (cd (j < i)))
  | _, _ => none
noncomputable def geD : D → D → Option D
  | .int i, .int j => some (.bool (cd (j ≤ i)))
  | _, _ => none
/-- rows of other lengths, whatever they hold -/
def eqL : D → D → Option D
  | .list xs, .list ys => if xs.length = ys.length then none else some (.bool false)
  | .tuple xs, .tuple [] => if xs.length = 0 then none else some (.bool false)
  | _, _ => none
def eqD : D → D → Option D
  | .str a, .str b => some (.bool (decide (a = b)))
  | d, e => if SeqAt.shaped d = true ∧ SeqAt.shaped e = true then some (.bool (PyData.eqv d e)) else eqL d e
def neD : D → D → Option D
  | .str a, .str b => some (.bool (!decide (a = b)))
  | d, e => if SeqAt.shaped d = true ∧ SeqAt.shaped e = true then some (.bool (!PyData.eqv d e)) else none
section
variable {X : Cx} {c : Cc}
theorem mulOk.ok {i j : Int} (h : mulOk i j) : IntMulOk i j := by
  have b : ∀ x : Int, Builtin.Int.intBits x ≤ x.natAbs.log2 + 1 := fun x => by
    unfold Builtin.Int.intBits
    split <;> omega
  have s64 : ∀ x : Int, x.natAbs < 2 ^ 64 → Builtin.Int.intBits x ≤ 64 := fun x hx => by
    have h1 := b x
    have h2 : x.natAbs.log2 < 64 := PySem.Flt.log2_lt_of (by decide) hx
    omega
  rcases h with h | h | h
  · exact .of_left (s64 i h)
  · exact .of_right (s64 j h)
  · have h1 := b i
    have h2 := b j
    have e : bitsLine = 134217728 := by decide
    unfold IntMulOk
    intro z
    rw [Bool.and_eq_true] at z
    have z2 := z.2
    unfold Builtin.Int.intTooBig at z2
    have z3 := of_decide_eq_true z2
    rw [e] at z3
    omega
/-- lists that are read, added -/
theorem op_catR : OpR X (binaryOp .Add) (fun x y H Q => ∃ l b xs zs, x = .ref l ∧ y = .ref b ∧ SqL X.K H l xs ∧ SqL X.K H b zs ∧ xs.length + zs.length ≤ sizeLine ∧ ∀ p, H p = none → Q (.ref p) (upd H p (.lst (xs ++ zs)))) := by
  intro pins s st H x y v u Q I rx ry h
  obtain ⟨l, b, xs, zs, rfl, rfl, hl, hb, hz, q⟩ := h
  cases rx
  cases ry
  obtain ⟨us, r1, ⟨⟨c1, d1, t1, p1⟩, n1, e1, hc1, _, hd1⟩, _⟩ := I.list hl
  obtain ⟨ws, r2, ⟨⟨c2, d2, t2, p2⟩, n2, e2, hc2, _, hd2⟩, _⟩ := I.list hb
  simp only at hc1 hd1 hc2 hd2
  subst hc1 hd1 hc2 hd2
  have l1 := r1.length
  have l2 := r2.length
  refine concat_meets ⟨_, e1, rfl⟩ ⟨_, e2, rfl⟩ noFill_list_add seq_list_add PySem.F.slot_list_add PySem.F.entry_list_add (PySem.F.args_list_add_2 _ _) (list_addW l b us.toArray ws.toArray n1 n2 d1 d2 p1 p2 (by rw [List.size_toArray, List.size_toArray]; omega)) ⟨e1, e2, ?_⟩
  have ea : us.toArray ++ ws.toArray = (us ++ ws).toArray := by simp
  rw [ea]
  exact ⟨.ref _, _, I.lnew (t' := s.toks) (r1.append r2) (by rw [List.length_append]; exact hz), rfl, q _ I.fresh⟩
theorem szC_some {α : Type} {n : Nat} {a z : α} (h : szC n a = some z) : n ≤ sizeLine ∧ a = z := by
  unfold szC at h
  split at h
  · cases h
    exact ⟨by rw [sizeLine_eq]; assumption, rfl⟩
  · cases h
theorem add_data (hK : c.K = X.K := by rfl) : OpR X (binaryOp .Add) (rD2 c.K addD) :=
  opr_cq (((op_add.or op_add_str).or op_catA).or op_catR) fun x y H Q ⟨F, d, e, z, fh, dx, dy, hz, q⟩ => by
    cases dx with
    | int i =>
      cases dy with
      | int j =>
        cases hz
        exact .inl (.inl (.inl ⟨i, j, rfl, rfl, q _ F H (.inl ⟨rfl, rfl⟩) (.int _)⟩))
      | _ => cases hz
    | str a =>
      cases dy with
      | str b =>
        obtain ⟨h1, rfl⟩ := szC_some hz
        exact .inl (.inl (.inr ⟨a, b, rfl, rfl, h1, q _ F H (.inl ⟨rfl, rfl⟩) (.str _)⟩))
      | _ => cases hz
    | @tup a vs ds g1 g2 =>
      cases dy with
      | @tup b ws es g3 g4 =>
        obtain ⟨h1, rfl⟩ := szC_some hz
        refine .inl (.inr ⟨a, b, vs, ws, rfl, rfl, by rw [← hK]; exact fh.t g1, by rw [← hK]; exact fh.t g3, by rw [dpa_len g2, dpa_len g4]; exact h1, fun e => ?_, fun n e => ?_, fun n n2 p np => ?_⟩)
        · subst e
          cases g2
          exact q _ F H (.inl ⟨rfl, rfl⟩) (.tup g3 g4)
        · subst e
          cases g4
          rw [List.append_nil] at q
          exact q _ F H (.inl ⟨rfl, rfl⟩) (.tup g1 g2)
        · have nF := fh.nn np
          exact q _ _ _ (.inr ⟨p, _, np, rfl, rfl⟩) (.tup upd_same (dpa_mono (Ex.new nF) (dpa_app g2 g4)))
      | _ => cases hz
    | @lst a vs ds g1 g2 =>
      cases dy with
      | @lst b ws es g3 g4 =>
        obtain ⟨h1, rfl⟩ := szC_some hz
        refine .inr ⟨a, b, vs, ws, rfl, rfl, by rw [← hK]; exact fh.l g1, by rw [← hK]; exact fh.l g3, by rw [dpa_len g2, dpa_len g4]; exact h1, fun p np => ?_⟩
        have nF := fh.nn np
        exact q _ _ _ (.inr ⟨p, _, np, rfl, rfl⟩) (.lst (.inl (.inl upd_same)) (dpa_mono (Ex.new nF) (dpa_app g2 g4)))
      | _ => cases hz
    | _ => cases hz
theorem sub_data : OpR X (binaryOp .Sub) (rD2 c.K subD) := opr_cq op_sub fun x y H Q ⟨F, d, e, z, fh, dx, dy, hz, q⟩ => by
  cases dx with
  | int i =>
    cases dy with
    | int j =>
      cases hz
      exact ⟨i, j, rfl, rfl, q _ F H (.inl ⟨rfl, rfl⟩) (.int _)⟩
    | _ => cases hz
  | _ => cases hz
theorem op_mulA : OpR X (binaryOp .Mult) (rI mulOk fun i j => .int (i * j)) := opI fun _ _ _ _ _ _ _ hc q => mul_int q hc.ok
theorem op_repR : OpR X (binaryOp .Mult) (fun x y H Q => ∃ l k xs, x = .ref l ∧ y = .int k ∧ SqL X.K H l xs ∧ -(2 ^ 63) ≤ k ∧ k < 2 ^ 63 ∧ xs.length * k.toNat ≤ sizeLine ∧ ∀ p, H p = none → Q (.ref p) (upd H p (.lst (List.replicate k.toNat xs).flatten))) := by
  intro pins s st H x y v u Q I rx ry h
  obtain ⟨l, k, xs, rfl, rfl, hl, h1, h2, hz, q⟩ := h
  cases rx
  obtain ⟨t, rfl⟩ := ry
  obtain ⟨us, r1, ⟨⟨c1, d1, t1, p1⟩, n1, e1, hc1, _, hd1⟩, _⟩ := I.list hl
  simp only at hc1 hd1
  subst hc1 hd1
  have l1 := r1.length
  have hlen : us.toArray.size * k.toNat ≤ 2 ^ 24 := by
    have z := hz
    rw [sizeLine_eq, l1] at z
    rw [List.size_toArray]
    omega
  refine wpAny_binaryOp_repeat_ref (T := "list") (U := "int") (by decide) ⟨_, e1, rfl⟩ (fun s' => typeIs_int s' k t) noFill_list_mul F.fills_int_mul F.slot_int_rmul repeat_list F.slot_int_index.lookup
    (call_meets F.slot_int_rmul (typeIs_int s k t) F.entry_int_rmul (F.args_int_rmul_2 _ _) (lm_int_rmul_list_any k t l us.toArray n1 d1 p1)
      ⟨e1, rfl, ⟨_, e1, rfl⟩, call_meets F.slot_list_mul ⟨_, e1, rfl⟩ F.entry_list_mul (F.args_list_mul_2 _ _)
        (lm_list_mul_any l us.toArray n1 d1 p1 k t (by simp [Builtin.List.listFitsIndex]; omega) (by omega) (by simp [Builtin.List.listTooLong, sizeLine]; omega)) ⟨e1, ?_⟩⟩)
  rw [listMul_foldl_if]
  exact ⟨.ref _, _, I.lnew (t' := s.toks) (r1.rep k.toNat) (by rw [PyProof.Rows.lm_len_rep_flat, Nat.mul_comm]; exact hz), rfl, q _ I.fresh⟩
theorem tuple_mul1 (l : Addr) (items : Array Value) (n : Nat) (dd : Option Addr) (sl : Array (Option Value)) (x : Int) (u : Tok) (c0 : (decide (x < -(2 ^ 63)) || decide (x ≥ 2 ^ 63)) = false) (c1 : (items.isEmpty || x == 1) = true) :
    Meets (Builtin.«tuple.__mul__» ⟨[.ref l, .int x u], []⟩) (fun _ R s => s.heap.get? l = some { cls := .type "tuple", dict := dd, data := .seq items n, slots := sl } ∧ R (.ok (.ret (Value.ref l))) s) :=
  .of_wp fun prog w A R s h => by
    obtain ⟨hp, g, d, tk, os⟩ := s
    obtain ⟨hl, h⟩ := h
    have f1 := AutoSeq1.idx_int
    wp_walk using wpAny_loadPart' hl
    repeat (first
      | (refine wpAny_ite_false (decide_eq_false (by rw [c0]; exact Bool.false_ne_true)) ?_; wp_walk using wpAny_loadPart' hl)
      | (refine wpAny_ite_true (decide_eq_true c1) ?_; wp_walk using wpAny_loadPart' hl))
    exact ⟨_, rfl, h⟩
theorem tuple_mul0 (l : Addr) (items : Array Value) (n : Nat) (dd : Option Addr) (sl : Array (Option Value)) (x : Int) (u : Tok) (c0 : (decide (x < -(2 ^ 63)) || decide (x ≥ 2 ^ 63)) = false) (c1 : (items.isEmpty || x == 1) = false) (c2 : (decide (x ≤ 0) || items.isEmpty) = true) :
    Meets (Builtin.«tuple.__mul__» ⟨[.ref l, .int x u], []⟩) (fun _ R s => s.heap.get? l = some { cls := .type "tuple", dict := dd, data := .seq items n, slots := sl } ∧ R (.ok (.ret (Value.ref s.heap.objs.size))) { s with heap := s.heap.push { cls := Value.type "tuple", data := Data.seq #[] }, toks := s.toks }) :=
  .of_wp fun prog w A R s h => by
    obtain ⟨hp, g, d, tk, os⟩ := s
    obtain ⟨hl, h⟩ := h
    have f1 := AutoSeq1.idx_int
    wp_walk using wpAny_loadPart' hl
    repeat (first
      | (refine wpAny_ite_false (decide_eq_false (by rw [c0]; exact Bool.false_ne_true)) ?_; wp_walk using wpAny_loadPart' hl)
      | (refine wpAny_ite_false (decide_eq_false (by rw [c1]; exact Bool.false_ne_true)) ?_; wp_walk using wpAny_loadPart' hl)
      | (refine wpAny_ite_true (decide_eq_true c2) ?_; wp_walk using wpAny_loadPart' hl))
    exact ⟨_, rfl, h⟩
theorem op_repT01 : OpR X (binaryOp .Mult) (fun x y H Q => ∃ l k xs, x = .ref l ∧ y = .int k ∧ SqT X.K H l xs ∧ -(2 ^ 63) ≤ k ∧ k < 2 ^ 63 ∧ (((xs = [] ∨ k = 1) ∧ Q (.ref l) H) ∨ ((xs ≠ [] ∧ k ≤ 0) ∧ ∀ p, H p = none → Q (.ref p) (upd H p (.tup []))))) := by
  intro pins s σ H x y v u Q I rx ry h
  obtain ⟨l, k, xs, rfl, rfl, hT, h1, h2, q⟩ := h
  cases rx
  obtain ⟨t, rfl⟩ := ry
  obtain ⟨its, r, ⟨⟨cls, dd, data, sl⟩, ho, hc, n, hd⟩, hs⟩ := I.tuple hT
  simp only at hc hd
  subst hc hd
  have hle : its.length = xs.length := r.length.symm
  have c0 : (decide (k < -(2 ^ 63)) || decide (k ≥ 2 ^ 63)) = false := by
    rw [decide_eq_false (by omega), decide_eq_false (by omega)] <;> rfl
  have hem : its.toArray.isEmpty = true ↔ xs = [] := by
    rw [List.isEmpty_toArray, List.isEmpty_iff_length_eq_zero, hle, List.length_eq_zero_iff]
  refine wpAny_binaryOp_repeat_ref (T := "tuple") (U := "int") (by decide) ⟨_, ho, rfl⟩ (fun s' => typeIs_int s' k t) noFill_tuple_mul F.fills_int_mul F.slot_int_rmul repeat_tuple F.slot_int_index.lookup
    (call_meets F.slot_int_rmul (typeIs_int s k t) F.entry_int_rmul (F.args_int_rmul_2 _ _) (int_rmul_tuple k t l its.toArray n dd sl) ⟨ho, rfl, ⟨_, ho, rfl⟩, ?_⟩)
  rcases q with ⟨hq, q⟩ | ⟨⟨hn, hk⟩, q⟩
  · have c1 : (its.toArray.isEmpty || k == 1) = true := by
      rw [Bool.or_eq_true, beq_iff_eq, hem]
      exact hq
    exact call_meets F.slot_tuple_mul ⟨_, ho, rfl⟩ F.entry_tuple_mul (F.args_tuple_mul_2 _ _) (tuple_mul1 l its.toArray n dd sl k t c0 c1) ⟨ho, .ref l, H, I, rfl, q⟩
  · have c1 : (its.toArray.isEmpty || k == 1) = false := by
      rw [Bool.or_eq_false_iff]
      refine ⟨?_, beq_eq_false_iff_ne.mpr (by omega)⟩
      cases e : its.toArray.isEmpty with
      | false => rfl
      | true => exact absurd (hem.mp e) hn
    have c2 : (decide (k ≤ 0) || its.toArray.isEmpty) = true := by
      rw [decide_eq_true hk]
      rfl
    refine call_meets F.slot_tuple_mul ⟨_, ho, rfl⟩ F.entry_tuple_mul (F.args_tuple_mul_2 _ _) (tuple_mul0 l its.toArray n dd sl k t c0 c1 c2) ⟨ho, ?_⟩
    refine ⟨.ref s.heap.objs.size, _, I.laid (t' := s.toks) (o := .tup []) (fun b ob q => Heap.get?_push_of_some _ q) (Nat.le_refl _) ?_, rfl, q _ (I.hok.fresh (Nat.le_refl _))⟩
    exact ⟨by simp, _, .nil, IsTup.new _ _⟩
theorem mul_data (hK : c.K = X.K := by rfl) : OpR X (binaryOp .Mult) (rD2 c.K mulD) := opr_cq (((op_mulA.or op_repR).or op_repT).or op_repT01) fun x y H Q ⟨F, d, e, z, fh, dx, dy, hz, q⟩ => by
  cases dx with
  | int i =>
    cases dy with
    | int j =>
      have hz : (if mulOk i j then some (PyData.int (i * j)) else none) = some z := by
        rw [← cI_eq]
        exact hz
      by_cases hm : mulOk i j
      · rw [if_pos hm] at hz
        cases hz
        exact .inl (.inl (.inl ⟨i, j, rfl, rfl, hm, q _ F H (.inl ⟨rfl, rfl⟩) (.int _)⟩))
      · rw [if_neg hm] at hz
        cases hz
    | _ => cases hz
  | @lst a vs ds g1 g2 =>
    cases dy with
    | int k =>
      have hz : (if (-(2 ^ 63) ≤ k ∧ k < 2 ^ 63) ∧ ds.length * k.toNat ≤ 16777216 then some (PyData.list (List.replicate k.toNat ds).flatten) else none) = some z := by
        rw [← cI_eq]
        exact hz
      split at hz
      · rename_i hm
        cases hz
        refine .inl (.inl (.inr ⟨a, k, vs, rfl, rfl, by rw [← hK]; exact fh.l g1, hm.1.1, hm.1.2, by rw [dpa_len g2, sizeLine_eq]; exact hm.2, fun p np => ?_⟩))
        have nF := fh.nn np
        exact q _ _ _ (.inr ⟨p, _, np, rfl, rfl⟩) (.lst (.inl (.inl upd_same)) (dpa_mono (Ex.new nF) (dpa_rep g2 _)))
      · cases hz
    | _ => cases hz
  | @tup a vs ds g1 g2 =>
    cases dy with
    | int k =>
      have hz : (if -1000 ≤ k ∧ k ≤ 1000 ∧ ds.length ≤ 1000 then some (PyData.tuple (List.replicate k.toNat ds).flatten) else none) = some z := by
        rw [← cI_eq]
        exact hz
      split at hz
      · rename_i hm
        cases hz
        by_cases hs : vs = [] ∨ k = 1
        · refine .inr ⟨a, k, vs, rfl, rfl, by rw [← hK]; exact fh.t g1, by omega, by omega, .inl ⟨hs, ?_⟩⟩
          have e : (List.replicate k.toNat ds).flatten = ds := by
            rcases hs with hs | hs
            · subst hs
              cases g2
              simp
            · subst hs
              simp
          rw [e] at q
          exact q _ F H (.inl ⟨rfl, rfl⟩) (.tup g1 g2)
        · by_cases hk : 2 ≤ k
          · refine .inl (.inr ⟨a, k, vs, rfl, rfl, by rw [← hK]; exact fh.t g1, fun e => hs (.inl e), hk, hm.2.1, by rw [dpa_len g2]; exact hm.2.2, fun p np => ?_⟩)
            have nF := fh.nn np
            exact q _ _ _ (.inr ⟨p, _, np, rfl, rfl⟩) (.tup upd_same (dpa_mono (Ex.new nF) (dpa_rep g2 _)))
          · have hk0 : k ≤ 0 := by
              have : k ≠ 1 := fun e => hs (.inr e)
              omega
            refine .inr ⟨a, k, vs, rfl, rfl, by rw [← hK]; exact fh.t g1, by omega, by omega, .inr ⟨⟨fun e => hs (.inl e), hk0⟩, fun p np => ?_⟩⟩
            have e : (List.replicate k.toNat ds).flatten = [] := by
              rw [Int.toNat_of_nonpos hk0]
              rfl
            rw [e] at q
            exact q _ _ _ (.inr ⟨p, _, np, rfl, rfl⟩) (.tup upd_same .nil)
      · cases hz
    | _ => cases hz
  | _ => cases hz
theorem mod_data : OpR X (binaryOp .Mod) (rD2 c.K modD) := opr_cq op_modN fun x y H Q ⟨F, d, e, z, fh, dx, dy, hz, q⟩ => by
  cases dx with
  | int i =>
    cases dy with
    | int j =>
      have hz : (if j ≠ 0 then some (PyData.int (i.fmod j)) else none) = some z := by
        rw [← cI_eq]
        exact hz
      split at hz
      · rename_i hm
        cases hz
        exact ⟨i, j, rfl, rfl, hm, q _ F H (.inl ⟨rfl, rfl⟩) (.int _)⟩
      · cases hz
    | _ => cases hz
  | _ => cases hz
theorem pow_data : OpR X (binaryOp .Pow) (rD2 c.K powD) := opr_cq op_pow fun x y H Q ⟨F, d, e, z, fh, dx, dy, hz, q⟩ => by
  cases dx with
  | int i =>
    cases dy with
    | int j =>
      have hz : (if 0 ≤ j ∧ j ≤ 1000000 ∧ i.natAbs < 2 ^ 64 then some (PyData.int (i ^ j.toNat)) else none) = some z := by
        rw [← cI_eq]
        exact hz
      split at hz
      · rename_i hm
        cases hz
        exact ⟨i, j, rfl, rfl, hm, q _ F H (.inl ⟨rfl, rfl⟩) (.int _)⟩
      · cases hz
    | _ => cases hz
  | _ => cases hz
theorem neg_data : UnR X (unaryOp .USub) (rD1 c.K negD) := unr_cq un_neg fun x H Q ⟨F, d, z, fh, dx, hz, q⟩ => by
  cases dx with
  | int i =>
    cases hz
    exact ⟨i, rfl, q _ F H (.inl ⟨rfl, rfl⟩) (.int _)⟩
  | _ => cases hz
theorem cmpI_data {op : CmpOp} {p : Int → Int → Bool} {g : D → D → Option D} (ho : OpR X (compareOp op) (rI0 fun i j => .bl (p i j))) (hg : ∀ d e z, g d e = some z → ∃ i j, d = .int i ∧ e = .int j ∧ z = .bool (p i j)) : OpR X (compareOp op) (rD2 c.K g) :=
  opr_cq ho fun x y H Q ⟨F, d, e, z, fh, dx, dy, hz, q⟩ => by
    obtain ⟨i, j, rfl, rfl, rfl⟩ := hg _ _ _ hz
    cases rp_int dx
    cases rp_int dy
    exact ⟨i, j, rfl, rfl, q _ F H (.inl ⟨rfl, rfl⟩) (.bl _)⟩
theorem lt_data : OpR X (compareOp .Lt) (rD2 c.K ltD) := cmpI_data op_lt fun d e z h => by
  unfold ltD at h
  split at h <;> cases h
  exact ⟨_, _, rfl, rfl, by rw [cd_eq]⟩
theorem le_data : OpR X (compareOp .LtE) (rD2 c.K leD) := cmpI_data op_le fun d e z h => by
  unfold leD at h
  split at h <;> cases h
  exact ⟨_, _, rfl, rfl, by rw [cd_eq]⟩
theorem gt_data : OpR X (compareOp .Gt) (rD2 c.K gtD) := cmpI_data op_gt fun d e z h => by
  unfold gtD at h
  split at h <;> cases h
  exact ⟨_, _, rfl, rfl, by rw [cd_eq]⟩
theorem ge_data : OpR X (compareOp .GtE) (rD2 c.K geD) := cmpI_data op_ge fun d e z h => by
  unfold geD at h
  split at h <;> cases h
  exact ⟨_, _, rfl, rfl, by rw [cd_eq]⟩
theorem dec_str (a b : Str) : decide (V.str a = V.str b) = decide (a = b) := by
  refine decide_eq_decide.mpr ⟨fun h => ?_, fun h => by rw [h]⟩
  cases h
  rfl
theorem op_eqLL (hu : X.A.units + 64 < cLine) : OpR X (compareOp .Eq) (fun x y H Q => ∃ a b xs ys, x = .ref a ∧ y = .ref b ∧ ((SqL X.K H a xs ∧ SqL X.K H b ys ∧ xs.length ≠ ys.length) ∨ (SqT X.K H a xs ∧ SqT X.K H b ys ∧ ys = [] ∧ xs.length ≠ 0)) ∧ Q (.bl false) H) := by
  intro pins s σ H x y v u Q I rx ry h
  obtain ⟨a, b, xs, ys, rfl, rfl, h, q⟩ := h
  cases rx
  cases ry
  rcases h with ⟨h1, h2, hne⟩ | ⟨h1, h2, he, hne⟩
  · obtain ⟨its, r, pl, hz⟩ := I.list h1
    obtain ⟨its2, r2, pl2, hz2⟩ := I.list h2
    have l1 := r.length
    have l2 := r2.length
    exact SeqAt.eq_list_lengthsAt pl.isList pl2.isList (by simp; omega) (by omega) ⟨.bl _, H, I, rfl, q⟩
  · obtain ⟨its, r, pl, hz⟩ := I.tuple h1
    obtain ⟨its2, r2, pl2, hz2⟩ := I.tuple h2
    have l1 := r.length
    have l2 := r2.length
    subst he
    have l3 : its2.toArray.size = 0 := by simp; simpa using l2.symm
    refine SeqAt.eq_tupleAt (e := fun _ => true) pl pl2 (by omega) (fun j j1 j2 => by omega) ?_
    have e : ((List.range (min its.toArray.size its2.toArray.size)).all (fun _ => true) && its.toArray.size == its2.toArray.size) = false := by
      rw [l3]
      simp
      intro z
      rw [z] at l1
      exact hne (by simpa using l1)
    rw [e]
    exact ⟨.bl _, H, I, rfl, q⟩
theorem eq_data (hu : X.A.units + 64 < cLine) (hK : c.K = X.K := by rfl) : OpR X (compareOp .Eq) (rD2 c.K eqD) := opr_cq (((op_eqD hu).or op_eq).or (op_eqLL hu)) fun x y H Q ⟨F, d, e, z, fh, dx, dy, hz, q⟩ => by
  unfold eqD at hz
  split at hz
  · cases dx
    cases dy
    cases hz
    refine .inl (.inr ⟨rfl, ?_⟩)
    rw [dec_str]
    exact q _ F H (.inl ⟨rfl, rfl⟩) (.bl _)
  · split at hz
    · rename_i hm
      cases hz
      refine .inl (.inl ⟨d, e, by rw [← hK]; exact rp_dp (dp_mono fh dx) hm.1, by rw [← hK]; exact rp_dp (dp_mono fh dy) hm.2, hm.1, hm.2, q _ F H (.inl ⟨rfl, rfl⟩) (.bl _)⟩)
    · refine .inr ?_
      cases dx with
      | @lst a1 vs1 ds1 g1 g2 =>
        cases dy with
        | @lst a2 vs2 ds2 g3 g4 =>
          have hz : (if ds1.length = ds2.length then none else some (PyData.bool false)) = some z := hz
          split at hz
          · cases hz
          · rename_i hn
            cases hz
            exact ⟨_, _, _, _, rfl, rfl, .inl ⟨by rw [← hK]; exact fh.l g1, by rw [← hK]; exact fh.l g3, by rw [dpa_len g2, dpa_len g4]; exact hn⟩, q _ F H (.inl ⟨rfl, rfl⟩) (.bl _)⟩
        | _ => cases hz
      | @tup a1 vs1 ds1 g1 g2 =>
        cases dy with
        | @tup a2 vs2 ds2 g3 g4 =>
          cases g4 with
          | nil =>
            have hz : (if ds1.length = 0 then none else some (PyData.bool false)) = some z := hz
            split at hz
            · cases hz
            · rename_i hn
              cases hz
              exact ⟨_, _, _, _, rfl, rfl, .inr ⟨by rw [← hK]; exact fh.t g1.s, by rw [← hK]; exact fh.t g3, rfl, by rw [dpa_len g2]; exact hn⟩, q _ F H (.inl ⟨rfl, rfl⟩) (.bl _)⟩
          | cons _ _ => cases hz
        | _ => cases hz
      | _ => cases hz
theorem ne_data (hu : X.A.units + 64 < cLine) (hK : c.K = X.K := by rfl) : OpR X (compareOp .NotEq) (rD2 c.K neD) := opr_cq ((op_neD hu).or op_ne) fun x y H Q ⟨F, d, e, z, fh, dx, dy, hz, q⟩ => by
  unfold neD at hz
  split at hz
  · cases dx
    cases dy
    cases hz
    refine .inr ⟨rfl, ?_⟩
    rw [dec_str]
    exact q _ F H (.inl ⟨rfl, rfl⟩) (.bl _)
  · split at hz
    · rename_i hm
      cases hz
      exact .inl ⟨d, e, by rw [← hK]; exact rp_dp (dp_mono fh dx) hm.1, by rw [← hK]; exact rp_dp (dp_mono fh dy) hm.2, hm.1, hm.2, q _ F H (.inl ⟨rfl, rfl⟩) (.bl _)⟩
    · cases hz
/-! chains: a op b op c -/
def eChain (g g' : D → D → Option D) (ma mb mc : M D) : M D := ma.bind fun x => mb.bind fun y => (M.opt (g x y)).bind fun b => match b with
  | .bool true => mc.bind fun z => M.opt (g' y z)
  | .bool false => M.ret (.bool false)
  | _ => M.no
end
/-! ### built-ins -/
def absD : D → Option D
  | .int i => some (.int (if i < 0 then -i else i))
  | _ => none
def intD : D → Option D
  | .int i => some (.int i)
  | .bool k => some (.int (if k then 1 else 0))
  | _ => none
def tupD : D → Option D
  | .list ds => some (.tuple ds)
  | .tuple ds => some (.tuple ds)
  | _ => none
def two (g : D → D → Option D) : List D → Option D
  | [d, e] => g d e
  | _ => none
def maxD : D → D → Option D
  | .int i, .int j => some (.int (if j > i then j else i))
  | _, _ => none
def intsOf : List D → Option (List Int)
  | [] => some []
  | .int i :: ds => (intsOf ds).map (i :: ·)
  | _ => none
def boolsOf : List D → Option (List Bool)
  | [] => some []
  | .bool i :: ds => (boolsOf ds).map (i :: ·)
  | _ => none
def sumD : D → Option D
  | .list ds => (intsOf ds).map fun ns => .int ns.sum
  | _ => none
def allD : D → Option D
  | .list ds => (boolsOf ds).map fun bs => .bool (bs.all id)
  | _ => none
def anyD : D → Option D
  | .list ds => (boolsOf ds).map fun bs => .bool (bs.any id)
  | _ => none
def listD : List D → Option (List D)
  | [.list ds] => some ds
  | [.tuple ds] => some ds
  | _ => none
theorem intsOf_some : ∀ {ds : List D} {ns : List Int}, intsOf ds = some ns → ds = ns.map .int
  | [], ns, h => by
    cases h
    rfl
  | .int i :: ds, ns, h => by
    have h : (intsOf ds).map (i :: ·) = some ns := h
    cases e : intsOf ds with
    | none =>
      rw [e] at h
      cases h
    | some ms =>
      rw [e] at h
      cases h
      rw [intsOf_some e]
      rfl
  | .none :: _, _, h => by cases h
  | .bool _ :: _, _, h => by cases h
  | .str _ :: _, _, h => by cases h
  | .list _ :: _, _, h => by cases h
  | .tuple _ :: _, _, h => by cases h
  | .dict _ :: _, _, h => by cases h
theorem boolsOf_some : ∀ {ds : List D} {ns : List Bool}, boolsOf ds = some ns → ds = ns.map .bool
  | [], ns, h => by
    cases h
    rfl
  | .bool i :: ds, ns, h => by
    have h : (boolsOf ds).map (i :: ·) = some ns := h
    cases e : boolsOf ds with
    | none =>
      rw [e] at h
      cases h
    | some ms =>
      rw [e] at h
      cases h
      rw [boolsOf_some e]
      rfl
  | .none :: _, _, h => by cases h
  | .int _ :: _, _, h => by cases h
  | .str _ :: _, _, h => by cases h
  | .list _ :: _, _, h => by cases h
  | .tuple _ :: _, _, h => by cases h
  | .dict _ :: _, _, h => by cases h
theorem rpa_ints {K : PySem.W.Frag} {F : Hp} : ∀ {ns : List Int} {vs : List V}, RpAll K F vs (ns.map .int) → vs = ns.map .int
  | [], _, .nil => rfl
  | _ :: _, _, .cons h t => by
    rw [rp_int h, rpa_ints t]
    rfl
theorem rp_bl {K : PySem.W.Frag} {F : Hp} {v : V} {b : Bool} (h : Rp K F v (.bool b)) : v = .bl b := by
  cases h
  rfl
theorem rpa_bools {K : PySem.W.Frag} {F : Hp} : ∀ {ns : List Bool} {vs : List V}, RpAll K F vs (ns.map .bool) → vs = ns.map .bl
  | [], _, .nil => rfl
  | _ :: _, _, .cons h t => by
    rw [rp_bl h, rpa_bools t]
    rfl
section
variable {X : Cx} {c : Cc}
theorem two_some {g : D → D → Option D} {ds : List D} {z : D} (h : two g ds = some z) : ∃ d e, ds = [d, e] ∧ g d e = some z := by
  unfold two at h
  split at h
  · exact ⟨_, _, rfl, h⟩
  · cases h
theorem abs_data : CallR X (.builtin "abs") (rDA c.K (one absD)) := callr_cq call_abs fun xs H Q ⟨F, ds, z, fh, dps, hz, q⟩ => by
  obtain ⟨d, rfl, hz⟩ := one_some hz
  obtain ⟨v, rfl, dp⟩ := rpa_one dps
  cases dp with
  | int i =>
    cases hz
    exact ⟨i, rfl, q _ F H (.inl ⟨rfl, rfl⟩) (.int _)⟩
  | _ => cases hz
theorem max_data (hc : X.calm = true := by rfl) : CallR X (.builtin "max") (rDA c.K (two maxD)) := callr_cq (call_max2 hc) fun xs H Q ⟨F, ds, z, fh, dps, hz, q⟩ => by
  obtain ⟨d, e, rfl, hz⟩ := two_some hz
  obtain ⟨v, w, rfl, dp, dp2⟩ := rpa_two dps
  cases dp with
  | int i =>
    cases dp2 with
    | int j =>
      cases hz
      exact ⟨i, j, rfl, q _ F H (.inl ⟨rfl, rfl⟩) (.int _)⟩
    | _ => cases hz
  | _ => cases hz
theorem tup_data (hK : c.K = X.K := by rfl) : CallR X (.type "tuple") (rDA c.K (one tupD)) := callr_cq call_tuple_of fun xs H Q ⟨F, ds, z, fh, dps, hz, q⟩ => by
  obtain ⟨d, rfl, hz⟩ := one_some hz
  obtain ⟨v, rfl, dp⟩ := rpa_one dps
  cases dp with
  | @lst a vs ds g1 g2 =>
    cases hz
    refine ⟨a, vs, rfl, .inl ⟨by rw [← hK]; exact fh.l g1, fun p np => ?_⟩⟩
    have nF := fh.nn np
    exact q _ _ _ (.inr ⟨p, _, np, rfl, rfl⟩) (.tup upd_same (dpa_mono (Ex.new nF) g2))
  | @tup a vs ds g1 g2 =>
    cases hz
    exact ⟨a, vs, rfl, .inr ⟨by rw [← hK]; exact fh.t g1, q _ F H (.inl ⟨rfl, rfl⟩) (.tup g1 g2)⟩⟩
  | _ => cases hz
theorem list_data (hK : c.K = X.K := by rfl) : CallR X (.type "list") (rDAo c.K listD) := callr_cq call_list_of fun xs H Q ⟨F, ds, z, fh, dps, hz, q⟩ => by
  unfold listD at hz
  split at hz
  · cases hz
    obtain ⟨v, rfl, dp⟩ := rpa_one dps
    cases dp with
    | @lst a vs _ g1 g2 => exact ⟨a, vs, rfl, .inl (by rw [← hK]; exact fh.l g1), fun p np => q p vs np g2⟩
  · cases hz
    obtain ⟨v, rfl, dp⟩ := rpa_one dps
    cases dp with
    | @tup a vs _ g1 g2 => exact ⟨a, vs, rfl, .inr (by rw [← hK]; exact fh.t g1), fun p np => q p vs np g2⟩
  · cases hz
theorem all_data (hK : c.K = X.K := by rfl) (hc : X.calm = true := by rfl) : CallR X (.builtin "all") (rDA c.K (one allD)) := callr_cq (cr_all hc) fun xs H Q ⟨F, ds, z, fh, dps, hz, q⟩ => by
  obtain ⟨d, rfl, hz⟩ := one_some hz
  obtain ⟨v, rfl, dp⟩ := rpa_one dps
  cases dp with
  | @lst a vs ds g1 g2 =>
    have hz : (boolsOf ds).map (fun ns => PyData.bool (ns.all id)) = some z := hz
    cases e : boolsOf ds with
    | none =>
      rw [e] at hz
      cases hz
    | some ns =>
      rw [e] at hz
      cases hz
      rw [boolsOf_some e] at g2
      rw [rpa_bools g2] at g1
      exact ⟨a, ns, rfl, by rw [← hK]; exact fh.l g1, q _ F H (.inl ⟨rfl, rfl⟩) (.bl _)⟩
  | _ => cases hz
/-! isinstance against a built-in class -/
def tyName : D → Option String
  | .none => some "NoneType"
  | .bool _ => some "bool"
  | .int _ => some "int"
  | .str _ => some "str"
  | .list _ => some "list"
  | .tuple _ => some "tuple"
  | .dict ((.str _, _) :: _) => none
  | .dict ((.bool _, _) :: _) => none
  | .dict _ => some "dict"
def isiD (T : String) (d : D) : Option D := match d with
  | .dict ((.str _, _) :: _) => if T ∈ basicT then some (.bool false) else none
  | d => (tyName d).bind fun n => (kitB n T).map .bool
/-! an exception that was caught -/
theorem callr_or {f : Value} {r r' : List V → Hp → VK → Prop} (h : CallR X f r) (h' : CallR X f r') : CallR X f (fun xs H Q => r xs H Q ∨ r' xs H Q) := fun pins s st H xs us Q I rv q => q.elim (h pins s st H xs us Q I rv) (h' pins s st H xs us Q I rv)
theorem excC_kit {K : PySem.W.Frag} {C a : Addr} {ox : Obj} {od : Option Obj} (c : ExcC K C) : PySem.W.KitX K (.ref a) (.ref C) (fun h => PySem.W.InstAt h a ox C od) := by
  obtain ⟨cd, hc, _⟩ := PySem.W.any_some c.hd
  exact PySem.W.kitx_exc (by rw [hc]; rfl) c.hg c.hk c.hs c.ha c.hn c.ht c.hm
def ExAt (H : Hp) (a C : Addr) : Prop := ∃ d, H a = some (CauO (.ref C) d a) ∧ ∀ dd, d = some dd → ∃ fs, H dd = some (.xd fs)
theorem exAt_inst {X : Cx} {pins : List (Addr × Obj)} {st : L2.St} {H : Hp} {s : Shared} {a C : Addr} (I : Inv X pins st H s) (h : ExAt H a C) : ∃ ox od, PySem.W.InstAt s.heap a ox C od := by
  obtain ⟨d, h1, h2⟩ := h
  obtain ⟨⟨oe, vs, hg, ⟨hz1, hz2⟩, hd⟩, _, _⟩ := I.hok a _ h1
  have hno : PySem.W.notCls oe = true := by
    unfold PySem.W.notCls
    rw [hd]
  cases d with
  | none => exact ⟨oe, none, hg, hz1, hno, by rw [hz2]; trivial⟩
  | some dd =>
    obtain ⟨fs, h3⟩ := h2 dd rfl
    obtain ⟨o, ho⟩ := objOk_get (I.hok dd _ h3)
    exact ⟨oe, some o, hg, hz1, hno, by rw [hz2]; exact ho⟩
def rIsX (K : PySem.W.Frag) : List V → Hp → VK → Prop := fun xs H Q => ∃ (a C : Addr) (c : V) (cv : Value) (b : Bool), xs = [.ref a, c] ∧ ExAt H a C ∧ ExcC K C ∧ (∀ u, RelV c u → u = cv) ∧ PySem.W.kitOne K (.ref C) cv = some b ∧ Q (.bl b) H
theorem call_isX : CallR X (.builtin "isinstance") (rIsX X.K) := by
  intro pins s st H xs us Q I r h
  obtain ⟨a, C, c, cv, b, rfl, ha, hC, hcv, e, q⟩ := h
  cases r with
  | cons rx rr =>
    cases rr with
    | cons rt rr =>
      cases rr
      cases rx
      have ec := hcv _ rt
      subst ec
      obtain ⟨ox, od, J⟩ := exAt_inst I ha
      exact PySem.W.kia_one (excC_kit hC) I.kIn J e (fun z => nomatch z) fun tk => ⟨.bl b, H, I.kept (t' := tk) fun _ _ z => z, rfl, q⟩
theorem dci_str {kv : List (Int × D)} {nm : Str} {e : D} {r : List (D × D)} (h : ((PyData.str nm, e) :: r) = kv.map fun q => (PyData.int q.1, q.2)) : False := by
  cases kv with
  | nil => cases h
  | cons q kv => cases h
theorem dct_str {kv : List (List Key × D)} {nm : Str} {e : D} {r : List (D × D)} (h : ((PyData.str nm, e) :: r) = kv.map fun q => (PyData.tuple (q.1.map kyD), q.2)) : False := by
  cases kv with
  | nil => cases h
  | cons q kv => cases h
theorem rp_exAt {K : PySem.W.Frag} {F H : Hp} {v : V} {nm : Str} {kv : List (D × D)} (h : Rp K F v (.dict ((.str nm, .none) :: kv))) (fh : Ex F H) : ∃ a, v = .ref a ∧ ExAt H a (He.ga K nm) ∧ ExcK K nm := by
  cases h with
  | exc0 h1 h2 => exact ⟨_, rfl, ⟨_, fh.at_ _ _ h1 cau_ne, fun _ z => nomatch z⟩, h2⟩
  | excF h1 h2 h3 h4 h5 => exact ⟨_, rfl, ⟨_, fh.at_ _ _ h1 cau_ne, fun dd z => by cases z; exact ⟨_, fh.at_ _ _ h2 (fun ps z => nomatch z)⟩⟩, h3⟩
  | dci _ _ _ _ w => exact (dci_str w).elim
  | dct _ _ _ _ w => exact (dct_str w).elim
theorem rp_dict1 {K : PySem.W.Frag} {F : Hp} {v : V} {nm : Str} {e : D} {kv : List (D × D)} (h : Rp K F v (.dict ((.str nm, e) :: kv))) : e = .none := by
  cases h with
  | exc0 h1 h2 => rfl
  | excF h1 h2 h3 h4 h5 => rfl
  | dci _ _ _ _ w => exact (dci_str w).elim
  | dct _ _ _ _ w => exact (dct_str w).elim
theorem ty_data {K : PySem.W.Frag} {F H : Hp} {v : V} {d : D} {n : String} (h : Rp K F v d) (fh : Ex F H) (e : tyName d = some n) : TyX K H v (.type n) := by
  cases h with
  | non => cases e; exact .base .non
  | bl b => cases e; exact .base (.bl b)
  | int i => cases e; exact .base (.int i)
  | str x => cases e; exact .base (.str x)
  | @lst a vs ds g1 g2 =>
    cases e
    rcases fh.l g1 with (g | ⟨o, g⟩) | ⟨o, its, n, g, hc, _⟩
    · exact .base (.lst g)
    · exact .base (.frz g)
    · exact .kList g hc
  | @tup a vs ds g1 g2 =>
    cases e
    rcases fh.t g1.s with (g | ⟨o, g⟩) | ⟨o, its, n, g, hc, _⟩
    · exact .base (.tup g)
    · exact .fTuple g
    · exact .kTuple g hc
  | emp g =>
    cases e
    exact .base (.dK (fh.at_ _ _ g (fun ps z => nomatch z)))
  | exc0 _ _ => cases e
  | excF _ _ _ _ _ => cases e
  | @dct a es kv dd h1 _ _ h4 h5 =>
    subst h5
    cases kv with
    | nil => exact absurd rfl h4
    | cons q kv =>
      cases e
      exact .base (.dT (fh.at_ _ _ h1 (fun ps z => nomatch z)))
  | fnv => cases e
  | @dci a od ks kv dd h1 _ _ h4 h5 =>
    subst h5
    cases kv with
    | nil => exact absurd rfl h4
    | cons q kv =>
      cases e
      exact .fDict (fh.at_ _ _ h1 (fun ps z => nomatch z))
theorem isiD_dict {T : String} {d z : D} (h : isiD T d = some z) : (∃ nm x kv, d = .dict ((.str nm, x) :: kv) ∧ T ∈ basicT ∧ z = .bool false) ∨ ((tyName d).bind fun n => (kitB n T).map PyData.bool) = some z := by
  unfold isiD at h
  split at h
  · rename_i nm x kv
    split at h
    · cases h
      exact .inl ⟨nm, x, kv, rfl, by assumption, rfl⟩
    · cases h
  · exact .inr h
theorem e_isi {T : String} {y : Str} {e : Expr} {m : M D} {p py pos : Pos} (h : PE X e (tM c m)) (hm : X.mg "isinstance" = none) (hmT : X.mg y = none) (hvT : bootBuiltins y = some (.type T) := by decide +kernel) (hK : c.K = X.K := by rfl) (hg : Gl X "isinstance" := by rfl) (hgT : Gl X y := by rfl) (hnT : y ≠ "__name__" := by decide) (hdT : (y == ("__debug__" : Str)) = false := by decide)
    (hs1 : starEach [e, .Name y py] X.env = (false, eval e X.env) :: starEach [.Name y py] X.env := by rfl) (hs2 : starEach [.Name y py] X.env = (false, eval (.Name y py) X.env) :: starEach [] X.env := by rfl) (hpl : (backTo pos (starEach [.Name y py] X.env)).any (·.1) = false := by rfl) :
    PE X (.Call (.Name "isinstance" p) [e, .Name y py] [] pos) (tM c (una (isiD T) m)) :=
  pe_cq (pe_callB (callr_or call_isi call_isX) hg hm (by decide +kernel) (pa_cons h (pa_cons (pe_bltn (v := .ty T) hgT hmT hvT rfl hnT hdT) pa_nil hs2) hs1) (by decide) (by decide) hs1 hpl) fun st H Q ⟨pa, H0, F0, F, r, ok, po⟩ => seqM ok po fun d r1 F1 H1 v k1 e1 dp q => by
    obtain ⟨z, hz, q9⟩ := opt_po q
    rcases isiD_dict hz with ⟨nm, x, kv, rfl, hT, rfl⟩ | hz
    · have hx := rp_dict1 dp
      subst hx
      obtain ⟨a, rfl, g1, g2⟩ := rp_exAt dp k1.fH
      refine .inr ⟨a, He.ga c.K nm, .ty T, .type T, false, rfl, g1, by rw [← hK]; exact g2.c, fun u ru => ru, by rw [← hK]; exact g2.t T hT, q9 F1 H1 _ k1 e1 (.bl _)⟩
    cases hn : tyName d with
    | none =>
      rw [hn] at hz
      cases hz
    | some n =>
      rw [hn] at hz
      have hz : (kitB n T).map PyData.bool = some z := hz
      cases hk : kitB n T with
      | none =>
        rw [hk] at hz
        cases hz
      | some b =>
        rw [hk] at hz
        cases hz
        exact .inl ⟨v, .ty T, .type n, .type T, b, rfl, .ty T, by rw [← hK]; exact ty_data dp k1.fH hn, kit_ty hk, q9 F1 H1 _ k1 e1 (.bl _)⟩
end
end Pu
namespace Pu
open PySem PySem.Spec PyProof.Rows L2
variable [TabT]
section
variable {X : Cx} {c : Cc}
theorem e_globI' {x : Str} {i : Int} {pos : Pos} (hm : ∃ t, X.mg x = some (.int i t)) (hg : Gl X x := by rfl) (hd : (x == ("__debug__" : Str)) = false := by decide) : PE X (.Name x pos) (tM c (M.ret (.int i))) := by
  obtain ⟨t, hm⟩ := hm
  exact e_globI hm hg hd
/-! ### a slice -/
def cutL (ds : List D) (lo hi : Option Int) : List D := (ds.drop (HT.sIx ds.length 0 lo)).take (HT.sIx ds.length ds.length hi - HT.sIx ds.length 0 lo)
def slD : D → Option Int → Option Int → Option D
  | .list ds, lo, hi => some (.list (cutL ds lo hi))
  | .tuple ds, lo, hi => some (.tuple (cutL ds lo hi))
  | .str z, lo, hi => if z.length ≤ 16777216 then some (.str (cutS z lo hi)) else none
  | _, _, _ => none
def pNone : M (Option Int) := M.ret none
def pSome (m : M D) : M (Option Int) := m.bind fun d => M.opt (match d with
  | .int i => some (some i)
  | _ => none)
def eSl (m : M D) (l u : M (Option Int)) : M D := m.bind fun d => l.bind fun a => u.bind fun b => M.opt (slD d a b)
def tPo (c : Cc) (m : M (Option Int)) : TO := fun st H Q => ∃ pa H0 F0 F r, Ok c.K pa H0 F0 F H st r ∧ Po (XW c pa H0 F0 F) (m r) fun o r' => ∀ F' H', Ok c.K pa H0 F0 F' H' st r' → Ex F F' → Q o H'
theorem seqP {α : Type} {pa : Nat → Addr} {H0 F0 F H : Hp} {st : L2.St} {r : En} {ma : M (Option Int)} {f : Option Int → M α} {k : α → En → Prop} {Q : Option Int → Hp → Prop} (ok : Ok c.K pa H0 F0 F H st r) (po : Po (XW c pa H0 F0 F) (ma.bind f r) k)
    (h : ∀ d r1 F1 H1, Ok c.K pa H0 F0 F1 H1 st r1 → Ex F F1 → Po (XW c pa H0 F0 F1) (f d r1) k → Q d H1) : tPo c ma st H Q :=
  ⟨pa, H0, F0, F, r, ok, (Po.bind po).mono (fun _ _ x => x) fun d r1 q F1 H1 k1 e1 => h d r1 F1 H1 k1 e1 (q.mono (XW.mono e1) fun _ _ x => x)⟩
theorem po_cq {e : Option Expr} {t t' : TO} (h : PO X e t) (i : ∀ st H Q, t' st H Q → t st H Q) : PO X e t' := ⟨fun pins s st H Q I q => h.run pins s st H Q I (i _ _ _ q)⟩
theorem p_none : PO X none (tPo c pNone) := po_cq po_none fun st H Q ⟨pa, H0, F0, F, r, ok, po⟩ => po F H ok (Ex.refl F)
theorem p_some {e : Expr} {m : M D} (h : PE X e (tM c m)) : PO X (some e) (tPo c (pSome m)) := po_cq (po_some h) fun st H Q ⟨pa, H0, F0, F, r, ok, po⟩ => seqM ok po fun d r1 F1 H1 v k1 e1 dp q => by
  obtain ⟨z, hz, q⟩ := opt_po q
  cases dp with
  | int i =>
    cases hz
    exact ⟨i, rfl, q F1 H1 k1 e1⟩
  | _ => cases hz
theorem slr_cq {r r' : V → Option Int → Option Int → Hp → VK → Prop} (h : SlR X r) (i : ∀ x lo hi H Q, r' x lo hi H Q → r x lo hi H Q) : SlR X r' := fun pins s st H x v vl vu lo hi sl Q I rx hs pl pu q => h pins s st H x v vl vu lo hi sl Q I rx hs pl pu (i x lo hi H Q q)
def rSlD (K : PySem.W.Frag) : V → Option Int → Option Int → Hp → VK → Prop := fun x lo hi H Q => ∃ F d z, Ex F H ∧ Rp K F x d ∧ slD d lo hi = some z ∧ ∀ v F' H', NewF F H F' H' → Rp K F' v z → Q v H'
theorem cut_dpa {K : PySem.W.Frag} {F : Hp} {vs : List V} {ds : List D} (h : RpAll K F vs ds) (lo hi : Option Int) : RpAll K F (cutV vs lo hi) (cutL ds lo hi) := by
  unfold cutV cutL
  rw [dpa_len h]
  exact dpa_take _ (dpa_drop _ h)
theorem sl_data (hK : c.K = X.K := by rfl) : SlR X (rSlD c.K) := slr_cq ((sl_list.or sl_tupA).or sl_str) fun x lo hi H Q ⟨F, d, z, fh, dx, hz, q⟩ => by
  cases dx with
  | @lst a vs ds g1 g2 =>
    cases hz
    refine .inl (.inl ⟨a, vs, rfl, by rw [← hK]; exact fh.l g1, fun p np => ?_⟩)
    have nF := fh.nn np
    exact q _ _ _ (.inr ⟨p, _, np, rfl, rfl⟩) (.lst (.inl (.inl upd_same)) (dpa_mono (Ex.new nF) (cut_dpa g2 lo hi)))
  | @tup a vs ds g1 g2 =>
    cases hz
    refine .inl (.inr ⟨a, vs, rfl, by rw [← hK]; exact fh.t g1, fun e => ?_, fun _ p np => ?_⟩)
    · have e2 : cutL ds lo hi = ds := by
        unfold cutL
        rw [← dpa_len g2, e.1, e.2, dpa_len g2]
        simp
      rw [e2] at q
      exact q _ F H (.inl ⟨rfl, rfl⟩) (.tup g1 g2)
    · have nF := fh.nn np
      exact q _ _ _ (.inr ⟨p, _, np, rfl, rfl⟩) (.tup upd_same (dpa_mono (Ex.new nF) (cut_dpa g2 lo hi)))
  | str s =>
    have hz : (if s.length ≤ 16777216 then some (PyData.str (cutS s lo hi)) else none) = some z := hz
    split at hz
    · cases hz
      exact .inr ⟨s, rfl, by rw [sizeLine_eq]; assumption, q _ F H (.inl ⟨rfl, rfl⟩) (.str _)⟩
    · cases hz
  | _ => cases hz
theorem e_sl {e : Expr} {lo hi : Option Expr} {m : M D} {l u : M (Option Int)} {p2 pos : Pos} (he : PE X e (tM c m)) (hl : PO X lo (tPo c l)) (hu : PO X hi (tPo c u)) (hK : c.K = X.K := by rfl) : PE X (.Subscript e (.Slice lo hi none p2) pos) (tM c (eSl m l u)) :=
  pe_cq (pe_slice (sl_data hK) he hl hu) fun st H Q ⟨pa, H0, F0, F, r, ok, po⟩ => seqM ok po fun d r1 F1 H1 v k1 e1 dp q1 => seqP k1 q1 fun a r2 F2 H2 k2 e2 q2 => seqP k2 q2 fun b r3 F3 H3 k3 e3 q3 => by
    obtain ⟨z, hz, q4⟩ := opt_po q3
    exact ⟨F3, d, z, k3.fH, dp_mono (e2.trans e3) dp, hz, op_end (r' := r3) k3 fun F' H' v ok ex dp => q4 F' H' v ok ((e1.trans (e2.trans e3)).trans ex) dp⟩
/-! ### t[::-1] -/
theorem adjust_rev (n : Nat) : Builtin.Slice.sliceAdjust none none (-1) (n : Int) = ((n : Int) - 1, -1) := by
  unfold Builtin.Slice.sliceAdjust
  rfl
theorem places_rev (n : Nat) : Builtin.Slice.slicePlaces ((n : Int) - 1) (-1) (-1) = n := by
  unfold Builtin.Slice.slicePlaces
  have h1 : ¬ ((-1 : Int) > 0) := by omega
  simp only [h1, if_false]
  rw [show (- -1 : Int) = 1 by decide, Int.ediv_one]
  split <;> omega
theorem pick_rev (xs : Array Value) : ((List.range xs.size).filterMap fun (k : Nat) => xs[((xs.size : Int) - 1 + (k : Int) * (-1)).toNat]?) = xs.toList.reverse := by
  have e : (fun (k : Nat) => xs[((xs.size : Int) - 1 + (k : Int) * (-1)).toNat]?) = (fun k => xs[k]?) ∘ (fun k => xs.size - 1 - k) := by
    funext k
    have e1 : ((xs.size : Int) - 1 + (k : Int) * (-1)).toNat = xs.size - 1 - k := by omega
    show xs[((xs.size : Int) - 1 + (k : Int) * (-1)).toNat]? = xs[xs.size - 1 - k]?
    rw [e1]
  rw [e, ← List.filterMap_map, PySem.W.krv_range, List.filterMap_reverse, PySem.W.krv_all]
section
variable {prog : Program} {w : World} {A : Around} {E : Value → Shared → Prop} {s : Shared}
theorem sliceApplied_rev {sl : Addr} {vs : Value} {n : Nat} {Q : Int × Int × Nat → Shared → Prop} (hs : s.heap.IsSliceOf sl .none .none vs) (ps : IsPart vs (some (-1)))
    (h : Q ((n : Int) - 1, -1, n) s) : wpAny (model prog w) A (Builtin.Slice.sliceApplied (.ref sl) (pure (n : Int))) Q E s := by
  obtain ⟨os, hos, hcs, hds⟩ := id hs
  unfold Builtin.Slice.sliceApplied Builtin.Slice.sliceFields
  refine wpAny_bind (wpAny_bind (wpAny_field hos hds (x := .none) rfl (wpAny_bind (wpAny_field hos hds (x := .none) rfl (wpAny_bind (wpAny_field hos hds (x := vs) rfl (wpAny_pure ?_)))))))
  refine wpAny_bind (HT.slicePart_ ps ?_)
  show wpAny _ _ (if ((-1 : Int) == 0) = true then _ else _) _ _ s
  rw [if_neg (by decide)]
  refine wpAny_bind (HT.slicePart_ .none (wpAny_bind (HT.slicePart_ .none (wpAny_bind (wpAny_pure ?_)))))
  show wpAny _ _ (match Builtin.Slice.sliceAdjust none none (-1) (n : Int) with | (lo, hi) => pure (lo, (-1 : Int), Builtin.Slice.slicePlaces lo hi (-1))) _ _ s
  rw [adjust_rev]
  show wpAny _ _ (pure ((n : Int) - 1, (-1 : Int), Builtin.Slice.slicePlaces ((n : Int) - 1) (-1) (-1))) _ _ s
  rw [places_rev]
  exact wpAny_pure h
theorem getItem_tuple_rev {t sl : Addr} {items : Array Value} {vs : Value} {Q : Value → Shared → Prop} (ht : IsTup s.heap t items) (hs : s.heap.IsSliceOf sl .none .none vs) (ps : IsPart vs (some (-1)))
    (h : Q (.ref s.heap.objs.size) { s with heap := s.heap.push { cls := .type "tuple", data := .seq items.toList.reverse.toArray } }) (hsz : items.size ≤ sizeLine) : wpAny (model prog w) A (getItem (.ref t) (.ref sl)) Q E s := by
  have htake : sizeOk (.seq items.toList.reverse.toArray) := by
    show items.toList.reverse.toArray.size ≤ sizeLine
    rw [List.size_toArray, List.length_reverse, Array.length_toList]
    exact hsz
  obtain ⟨os, hos, hcs, hds⟩ := id hs
  have hTs : s.TypeIs (.ref sl) "slice" := ⟨os, hos, hcs⟩
  unfold getItem
  try with_reducible refine wpAny_holding ?_
  first | refine wpAny_bind (wpAny_pure ?_) | skip
  refine wpAny_bind (wpAny_sequenceKey ht.typeIs (by decide) ?_)
  refine wpAny_bind (wpAny_callSpecial?_slot (name := Str.ofString "__getitem__") ht.typeIs PyProof.Rows.slot_tuple_getitem
    (wpAny_call_entry PyProof.Rows.slot_tuple_getitem ht.typeIs entry_tuple_getitem ?_ (args_tuple_getitem _ _)))
  show wpAny _ _ (Builtin.Tuple.tupleItemsOf (.ref t) >>= _) _ _ s
  refine wpAny_bind (tupleItemsOf_ ht ?_)
  refine wpAny_bind (wpAny_typeOf hTs ?_)
  rw [if_pos (by decide)]
  refine wpAny_bind (sliceApplied_rev hs ps ?_)
  have hno : ¬ ((((items.size : Int) - 1) == 0 && (-1 : Int) == 1 && items.size == items.size) = true) := by
    intro q
    rw [Bool.and_eq_true, Bool.and_eq_true] at q
    exact absurd q.1.2 (by decide)
  show wpAny _ _ (if ((((items.size : Int) - 1) == 0 && (-1 : Int) == 1 && items.size == items.size) = true) then _ else _) _ _ s
  rw [if_neg hno, pick_rev]
  first
    | exact wpAny_bind (m := Builtin.Tuple.tupleExact _) (wpAny_newObj_type (wpAny_pure ⟨_, rfl, wpAny_pure h⟩) htake)
    | exact wpAny_bind (m := Builtin.Tuple.tupleExact _) (wpAny_newObj_type (wpAny_bind (wpAny_pure (wpAny_pure ⟨_, rfl, wpAny_pure h⟩))) htake)
    | exact wpAny_bind (wpAny_bind (m := Builtin.Tuple.tupleExact _) (wpAny_newObj_type (wpAny_pure (wpAny_pure ⟨_, rfl, wpAny_pure h⟩)) htake))
    | exact wpAny_bind (wpAny_bind (m := Builtin.Tuple.tupleExact _) (wpAny_newObj_type (wpAny_pure ⟨_, rfl, wpAny_pure h⟩) htake))
end
def tRevT (K : PySem.W.Frag) (te : TE) : TE := fun st H Q => te st H fun x H1 => ∃ a xs, x = .ref a ∧ SqT K H1 a xs ∧ ∀ p, H1 p = none → Q (.ref p) (upd H1 p (.tup xs.reverse))
theorem pe_revT {e : Expr} {te : TE} {k : Nat} {p1 p2 p3 pos : Pos} (he : PE X e te) : PE X (.Subscript e (.Slice none none (some (.UnaryOp .USub (.Constant (.int 1) k p1) p2)) p3) pos) (tRevT X.K te) := by
  refine ⟨fun pins s st H Q I h => ?_⟩
  refine Subscript_ (thn (he.run pins s st H _ I h) fun v s1 ⟨x, H1, I1, r1, q1⟩ => ?_)
  obtain ⟨a, xs, ex, hx, q⟩ := q1
  subst ex
  cases r1
  have hst : PO X (some (.UnaryOp .USub (.Constant (.int 1) k p1) p2)) (tPart (tUn (rU fun i => .int (-i)) (tC (.int 1)))) := po_some (pe_un un_neg pe_int)
  refine wpAny_Slice ?_
  rw [evalPart_none]
  refine wpAny_pure ?_
  refine wpAny_pure ?_
  refine thn (hst.run pins s1 st H1 (fun o H4 => o = some (-1) ∧ H4 = H1) I1 ⟨1, rfl, -1, rfl, rfl, rfl⟩) fun vs s4 ⟨o, H4, I4, ps, eo, e4⟩ => ?_
  subst eo e4
  have I5 : Inv X pins st H4 { s4 with heap := s4.heap.push { cls := .type "slice", data := .fields #[.none, .none, vs] } } := I4.kept (t' := s4.toks) fun b ob q => Heap.get?_push_of_some _ q
  obtain ⟨its, r, ht, hz⟩ := I5.tuple hx
  have hlen := r.length
  show wpAny (model X.prog X.w) X.A (subscriptTail e (.Slice none none (some (.UnaryOp .USub (.Constant (.int 1) k p1) p2)) p3) (.ref a) (.ref s4.heap.objs.size)) (EP X pins st Q) X.xe { s4 with heap := s4.heap.push { cls := .type "slice", data := .fields #[.none, .none, vs] } }
  refine tail_any (ops := [.ref a, .ref s4.heap.objs.size]) ht.typeIs (PyProof.Rows.slot_tuple_getitem.lookup) ?_ (by with_unfolding_all rfl)
  refine getItem_tuple_rev ht (Heap.IsSliceOf.new _ .none .none vs) ps ?_ (by rw [List.size_toArray]; omega)
  refine ⟨.ref _, _, I5.laid (t' := s4.toks) (o := .tup xs.reverse) (fun b ob q => Heap.get?_push_of_some _ q) (Nat.le_refl _) ?_, rfl, q _ (I5.hok.fresh (Nat.le_refl _))⟩
  exact ⟨by rw [List.length_reverse]; exact hz, _, r.reverse, IsTup.new _ _⟩
def revD : D → Option D
  | .list ds => some (.list ds.reverse)
  | .tuple ds => some (.tuple ds.reverse)
  | _ => none
theorem e_rev {e : Expr} {m : M D} {k : Nat} {p1 p2 p3 pos : Pos} (he : PE X e (tM c m)) (hK : c.K = X.K := by rfl) : PE X (.Subscript e (.Slice none none (some (.UnaryOp .USub (.Constant (.int 1) k p1) p2)) p3) pos) (tM c (una revD m)) :=
  pe_cq (pe_or' (pe_revL he) (pe_revT he)) fun st H Q ⟨pa, H0, F0, F, r, ok, po⟩ => by
  cases hm : m r with
  | no =>
    unfold una M.bind at po
    rw [hm] at po
    exact po.elim
  | ex e1 r1 =>
    unfold una M.bind at po
    rw [hm] at po
    refine .inl ⟨pa, H0, F0, F, r, ok, ?_⟩
    rw [hm]
    exact po
  | ok d r1 =>
    unfold una M.bind at po
    rw [hm] at po
    obtain ⟨z, hz, q⟩ := opt_po po
    cases d with
    | list ds =>
      cases hz
      refine .inl ⟨pa, H0, F0, F, r, ok, ?_⟩
      rw [hm]
      intro F1 H1 v k1 e1 dp
      cases dp with
      | @lst a vs _ g1 g2 =>
        refine ⟨a, vs, rfl, by rw [← hK]; exact k1.fH.l g1, fun p np => ?_⟩
        have nF := k1.fH.nn np
        exact q _ _ _ (k1.layF np) (e1.trans (Ex.new nF)) (.lst (.inl (.inl upd_same)) (dpa_mono (Ex.new nF) (dpa_rev g2)))
    | tuple ds =>
      cases hz
      refine .inr ⟨pa, H0, F0, F, r, ok, ?_⟩
      rw [hm]
      intro F1 H1 v k1 e1 dp
      cases dp with
      | @tup a vs _ g1 g2 =>
        refine ⟨a, vs, rfl, by rw [← hK]; exact k1.fH.t g1, fun p np => ?_⟩
        have nF := k1.fH.nn np
        exact q _ _ _ (k1.layF np) (e1.trans (Ex.new nF)) (.tup upd_same (dpa_mono (Ex.new nF) (dpa_rev g2)))
    | _ => cases hz
/-! ### a < b < c -/
theorem chain_ok {g g2 : D → D → Option D} {ma mb mc : M D} {st : L2.St} {H : Hp} {Q : VK} (h : tM c (eChain g g2 ma mb mc) st H Q) : tChain (rD2 c.K g) (rD2 c.K g2) (tM c ma) (tM c mb) (tM c mc) st H Q := by
  obtain ⟨pa, H0, F0, F, r, ok, po⟩ := h
  unfold eChain at po
  refine seqM ok po fun d r1 F1 H1 v k1 e1 dp q => seqM k1 q fun d2 r2 F2 H2 v2 k2 e2 dp2 q2 => ?_
  obtain ⟨z, hz, q3⟩ := opt_po (Po.bind q2)
  refine ⟨F2, d, d2, z, k2.fH, dp_mono e2 dp, dp2, hz, fun w F3 H3 nf rz => ?_⟩
  obtain ⟨k3, e3⟩ := nf.ok k2
  cases z with
  | bool b =>
    cases rz
    cases b with
    | true =>
      refine ⟨true, rfl, ?_⟩
      rw [if_pos rfl]
      have q3 : Po _ (mc.bind (fun z => M.opt (g2 d2 z)) r2) _ := q3
      refine seqM k3 (q3.mono (XW.mono e3) fun _ _ x => x) fun d3 r4 F4 H4 v4 k4 e4 dp4 q4 => ?_
      obtain ⟨z2, hz2, q5⟩ := opt_po q4
      exact ⟨F4, d2, d3, z2, k4.fH, dp_mono (e3.trans e4) dp2, dp4, hz2, op_end (r' := r4) k4 fun F' H' v ok ex dp => q5 F' H' v ok ((e1.trans (e2.trans (e3.trans e4))).trans ex) dp⟩
    | false =>
      refine ⟨false, rfl, ?_⟩
      rw [if_neg Bool.false_ne_true]
      exact q3 F3 H3 _ k3 (e1.trans (e2.trans e3)) (.bl _)
  | _ => exact q3.elim
theorem e_chain {op op' : CmpOp} {g g2 : D → D → Option D} {a b d : Expr} {ma mb mc : M D} {pos : Pos} (ho : OpR X (compareOp op) (rD2 c.K g)) (ho' : OpR X (compareOp op') (rD2 c.K g2)) (ha : PE X a (tM c ma)) (hb : PE X b (tM c mb)) (hd : PE X d (tM c mc))
    (hm : lastMarks [op, op'] [b, d] = false := by with_unfolding_all rfl) : PE X (.Compare a [op, op'] [b, d] pos) (tM c (eChain g g2 ma mb mc)) := pe_cq (pe_chain ho ho' ha hb hd hm) fun _ _ _ h => chain_ok h
theorem t_chain {op op' : CmpOp} {g g2 : D → D → Option D} {a b d : Expr} {ma mb mc : M D} {pos : Pos} (ho : OpR X (compareOp op) (rD2 c.K g)) (ho' : OpR X (compareOp op') (rD2 c.K g2)) (ha : PE X a (tM c ma)) (hb : PE X b (tM c mb)) (hd : PE X d (tM c mc))
    (hm : lastMarks [op, op'] [b, d] = false := by with_unfolding_all rfl) : PT X (.Compare a [op, op'] [b, d] pos) (tT c (tBool (eChain g g2 ma mb mc))) := pt_cq (pt_chain ho ho' ha hb hd hm) fun st H Q h => by
    obtain ⟨pa, H0, F0, F, r, ok, po⟩ := h
    refine chain_ok ?_
    refine seqM ok po fun d r1 F1 H1 v k1 e1 dp q => ?_
    obtain ⟨b, hb, q⟩ := opt_po q
    cases dp with
    | bl b' =>
      cases hb
      exact ⟨_, rfl, q F1 H1 k1 e1⟩
    | _ => cases hb
/-! ### is None, is True -/
def isD : D → D → Option D
  | .bool a, .bool b => some (.bool (decide (a = b)))
  | .none, .none => some (.bool true)
  | _, .none => some (.bool false)
  | _, _ => none
def isntD : D → D → Option D
  | .bool a, .bool b => some (.bool (!decide (a = b)))
  | .none, .none => some (.bool false)
  | _, .none => some (.bool true)
  | _, _ => none
theorem is_data : OpR X (compareOp .Is) (rD2 c.K isD) := opr_cq (op_isN.or op_isBl) fun x y H Q ⟨F, d, e, z, fh, dx, dy, hz, q⟩ => by
  cases dy with
  | non =>
    cases dx <;> (cases hz; exact .inl ⟨rfl, q _ F H (.inl ⟨rfl, rfl⟩) (.bl _)⟩)
  | bl b =>
    cases dx with
    | bl a =>
      cases hz
      exact .inr ⟨a, b, rfl, rfl, q _ F H (.inl ⟨rfl, rfl⟩) (.bl _)⟩
    | _ => cases hz
  | _ => cases dx <;> cases hz
/-! ### not of a value -/
def eNotT (m : M D) : M D := (tTru m).bind fun b => M.ret (.bool (!b))
end
end Pu
namespace Pu
open PySem PySem.Spec PyProof.Rows L2
variable [TabT]
section
variable {X : Cx} {c : Cc}
/-! ### repr -/
noncomputable def reprD : D → Option D
  | .none => some (.str "None")
  | .bool b => some (.str (if b then "True" else "False"))
  | .str x => cI ((reprText x).length ≤ 16777216) (some (.str (reprText x))) none
  | .dict [] => some (.str (PyData.dict []).shown)
  | .int i => cI (i.natAbs.log2 < 1920) (some (.str (toString i))) none
  | .list ds => cI ((PyData.list ds).showable = true ∧ SeqAt.shaped (.list ds) = true ∧ (PyData.list ds).shown.length ≤ 16777216) (some (.str (PyData.list ds).shown)) none
  | .tuple ds => cI ((PyData.tuple ds).showable = true ∧ SeqAt.shaped (.tuple ds) = true ∧ (PyData.tuple ds).shown.length ≤ 16777216) (some (.str (PyData.tuple ds).shown)) none
  | _ => none
theorem call_reprD (hg : X.A.guards = some []) (hu : X.A.units + 150 < cLine) : CallR X (.builtin "repr") (fun xs H Q => ∃ a d, xs = [.ref a] ∧ Dp X.K H (.ref a) d ∧ d.showable = true ∧ SeqAt.shaped d = true ∧ d.shown.length ≤ sizeLine ∧ Q (.str d.shown) H) := by
  intro pins s st H xs us Q I rv h
  obtain ⟨a, d, rfl, hd, h1, h2, h3, q⟩ := h
  obtain ⟨u, rfl, ru⟩ := vals1 rv
  obtain ⟨as, rd⟩ := Dp.reads I d _ _ hd ru
  cases ru
  have hdp := SeqAt.depth_of_shaped h2
  exact PySem.repr_of_reads' rd h1 (PyData.noDict_hsm (PyData.hasDict_of_canLay d (SeqAt.canLay_of_shaped h2))) hg (by omega) (fun _ _ e => e) (fun h' t tk k => ⟨.str _, H, I.kept k, ⟨_, rfl⟩, q⟩) h3
theorem call_repr_sc : CallR X (.builtin "repr") (fun xs H Q => (xs = [.non] ∧ Q (.str "None") H) ∨ (∃ b : Bool, xs = [.bl b] ∧ Q (.str (if b then "True" else "False")) H) ∨ ∃ x : Str, xs = [.str x] ∧ (reprText x).length ≤ sizeLine ∧ Q (.str (reprText x)) H) := by
  intro pins s st H xs us Q I rv h
  rcases h with ⟨rfl, q⟩ | ⟨b, rfl, q⟩ | ⟨x, rfl, hz, q⟩
  · obtain ⟨u, rfl, ru⟩ := vals1 rv
    cases (show u = Value.none from ru)
    exact PySem.P.repr_of_none ⟨.str _, H, I.tok _, ⟨_, rfl⟩, q⟩
  · obtain ⟨u, rfl, ru⟩ := vals1 rv
    cases (show u = Value.bool b from ru)
    exact PySem.P.repr_of_bool ⟨.str _, H, I.tok _, ⟨_, rfl⟩, q⟩
  · obtain ⟨u, rfl, t, rfl⟩ := vals1 rv
    exact PySem.P.repr_of_str ⟨.str _, H, I.tok _, ⟨_, rfl⟩, q⟩ hz
theorem call_repr_emp (hg : X.A.guards = some []) (hu : X.A.units + 150 < cLine) : CallR X (.builtin "repr") (fun xs H Q => ∃ a, xs = [.ref a] ∧ H a = some (.dK []) ∧ Q (.str (PyData.dict []).shown) H) := by
  intro pins s st H xs us Q I rv h
  obtain ⟨a, rfl, ha, q⟩ := h
  obtain ⟨u, rfl, ru⟩ := vals1 rv
  cases (show u = Value.ref a from ru)
  obtain ⟨_, hs, vs, hkv, o, es, ep, ho, hex, hd, _, hpr, _⟩ := (show ObjOk X.prog X.w H s.heap a (.dK []) from I.hok a _ ha)
  cases hkv
  have he : es.toList = [] := by
    have := hpr.length
    simpa using this
  have rd : Reads s.heap (.ref a) (.dict []) ([a] ++ [] ++ []) := Reads.dict (kvs := []) ho hex.1 hd (by rw [he]; exact ReadsAll.nil) (by rw [he]; exact ReadsAll.nil)
  exact PySem.repr_of_reads' rd (by decide) (fun _ hm => by
    have : sysModules = a := by simpa using hm
    rw [← this] at hs
    simp at hs) hg (by
    have : (PyData.dict []).depth ≤ 2 := by decide
    omega) (fun _ _ e => e) (fun h' t tk k => ⟨.str _, H, I.kept k, ⟨_, rfl⟩, q⟩) (by decide +kernel)
theorem repr_data {k : Nat} (hr : Rm k X.A) (hK : c.K = X.K := by rfl) : CallR X (.builtin "repr") (rDA c.K (one reprD)) := callr_cq (callr_or (callr_or SkE.call_repr_int (call_reprD hr.gd hr.u150)) (callr_or call_repr_sc (call_repr_emp hr.gd hr.u150))) fun xs H Q ⟨F, ds, z, fh, dx, hz, q⟩ => by
  obtain ⟨d, rfl, hz⟩ := one_some hz
  cases dx with
  | cons h0 h1 =>
    cases h1
    cases h0 with
    | non =>
      cases hz
      exact .inr (.inl (.inl ⟨rfl, q _ F H (.inl ⟨rfl, rfl⟩) (.str _)⟩))
    | bl b =>
      cases hz
      exact .inr (.inl (.inr (.inl ⟨b, rfl, q _ F H (.inl ⟨rfl, rfl⟩) (.str _)⟩)))
    | str x =>
      have hz : (if (reprText x).length ≤ 16777216 then some (PyData.str (reprText x)) else none) = some z := by
        rw [← cI_eq]
        exact hz
      split at hz
      · cases hz
        exact .inr (.inl (.inr (.inr ⟨x, rfl, by rw [sizeLine_eq]; assumption, q _ F H (.inl ⟨rfl, rfl⟩) (.str _)⟩)))
      · cases hz
    | emp g =>
      cases hz
      exact .inr (.inr ⟨_, rfl, fh.at_ _ _ g (fun ps z => nomatch z), q _ F H (.inl ⟨rfl, rfl⟩) (.str _)⟩)
    | int i =>
      have hz : (if i.natAbs.log2 < 1920 then some (PyData.str (toString i)) else none) = some z := by
        rw [← cI_eq]
        exact hz
      split at hz
      · cases hz
        exact .inl (.inl ⟨i, rfl, by assumption, q _ F H (.inl ⟨rfl, rfl⟩) (.str _)⟩)
      · cases hz
    | @lst a vs ds g1 g2 =>
      have hz : (if (PyData.list ds).showable = true ∧ SeqAt.shaped (.list ds) = true ∧ (PyData.list ds).shown.length ≤ 16777216 then some (.str (PyData.list ds).shown) else none) = some z := by
        rw [← cI_eq]
        exact hz
      split at hz
      · rename_i hc
        cases hz
        exact .inl (.inr ⟨a, _, rfl, by rw [← hK]; exact rp_dp (dp_mono fh (.lst g1 g2)) hc.2.1, hc.1, hc.2.1, by rw [sizeLine_eq]; exact hc.2.2, q _ F H (.inl ⟨rfl, rfl⟩) (.str _)⟩)
      · cases hz
    | @tup a vs ds g1 g2 =>
      have hz : (if (PyData.tuple ds).showable = true ∧ SeqAt.shaped (.tuple ds) = true ∧ (PyData.tuple ds).shown.length ≤ 16777216 then some (.str (PyData.tuple ds).shown) else none) = some z := by
        rw [← cI_eq]
        exact hz
      split at hz
      · rename_i hc
        cases hz
        exact .inl (.inr ⟨a, _, rfl, by rw [← hK]; exact rp_dp (dp_mono fh (.tup g1 g2)) hc.2.1, hc.1, hc.2.1, by rw [sizeLine_eq]; exact hc.2.2, q _ F H (.inl ⟨rfl, rfl⟩) (.str _)⟩)
      · cases hz
    | @dct a es kv dd _ _ _ n w =>
      subst w
      cases kv with
      | nil => exact absurd rfl n
      | cons x kv => cases hz
    | @dci a od ks kv dd _ _ _ n w =>
      subst w
      cases kv with
      | nil => exact absurd rfl n
      | cons x kv => cases hz
    | _ => cases hz
/-! ### f(..).append(..): what was told is changed and dropped -/
def sAppX (m : M RV) : M Fl := m.bind fun rv => match rv with
  | .o (.l ds) => if ds.length < 16777216 then M.ret .nx else M.no
  | _ => M.no
/-! ### a new list from + and * -/
def binO (g : D → D → Option RV) (ma mb : M D) : M RV := ma.bind fun x => mb.bind fun y => M.opt (g x y)
def addO : D → D → Option RV
  | .list xs, .list ys => szC (xs.length + ys.length) (.o (.l (xs ++ ys)))
  | d, e => (addD d e).map .v
theorem o_add {a b : Expr} {ma mb : M D} {pos : Pos} (ha : PE X a (tM c ma)) (hb : PE X b (tM c mb)) (hK : c.K = X.K := by rfl) : PE X (.BinOp a .Add b pos) (tO c (binO addO ma mb)) :=
  pe_cq (pe_op ((add_data (c := c) hK).or op_catR) ha hb) fun st H Q ⟨pa, H0, F0, F, r, ok, po⟩ => seqM ok po fun d r1 F1 H1 v k1 e1 dp q => seqM k1 q fun d2 r2 F2 H2 v2 k2 e2 dp2 q2 => by
    obtain ⟨z, hz, q3⟩ := opt_po q2
    have dp := dp_mono e2 dp
    have old : ∀ w, addD d d2 = some w → z = .v w → (rD2 c.K addD v v2 H2 Q) := fun w hw e => by
      subst e
      exact ⟨F2, d, d2, w, k2.fH, dp, dp2, hw, fun u F' H' n dpu => by
        obtain ⟨k3, e3⟩ := n.ok k2
        exact q3 F' H' u k3 ((e1.trans e2).trans e3) dpu⟩
    have gen : (addD d d2).map RV.v = some z → (rD2 c.K addD v v2 H2 Q) := fun h => by
      cases hw : addD d d2 with
      | none =>
        rw [hw] at h
        cases h
      | some w =>
        rw [hw] at h
        cases h
        exact old w hw rfl
    cases dp with
    | @lst a1 vs ds g1 g2 =>
      cases dp2 with
      | @lst a2 ws es g3 g4 =>
        have hz : szC (ds.length + es.length) (RV.o (.l (ds ++ es))) = some z := hz
        unfold szC at hz
        split at hz
        · rename_i hl
          cases hz
          refine .inr ⟨a1, a2, vs, ws, rfl, rfl, by rw [← hK]; exact k2.fH.l g1, by rw [← hK]; exact k2.fH.l g3, by rw [dpa_len g2, dpa_len g4, sizeLine_eq]; exact hl, fun p np => ?_⟩
          exact q3 F2 _ _ (k2.lay np) (e1.trans e2) ⟨p, rfl, k2.fH.nn np, k2.hH.nn np, ⟨_, upd_same, dpa_app g2 g4⟩, .l (k2.nobody np).upd⟩
        · cases hz
      | _ => exact .inl (gen hz)
    | _ => exact .inl (gen hz)
noncomputable def mulO : D → D → Option RV
  | .list xs, .int k => cI ((-(2 ^ 63) ≤ k ∧ k < 2 ^ 63) ∧ xs.length * k.toNat ≤ 16777216) (some (.o (.l (List.replicate k.toNat xs).flatten))) none
  | _, _ => none
end
end Pu
namespace Pu
open PySem PySem.Spec PyProof.Rows L2
variable [TabT]
section
variable {X : Cx} {c : Cc}
/-- x = [..], x not changed later -/
theorem s_setLcV {i : Nat} {y : Str} {py : Pos} {elt tg iter : Expr} {ifs : List Expr} {scope : Scope} {own : List (Str × Nat)} {pos spos : Pos} {src : M (List D)} {js : List Nat} {t : Tg} {tt : M Bool} {te : M D} (hi : PI X tg iter (iM c src)) (ok : BlkOk X.N X.env.scope scope own)
    (hg : ∀ (s : Shared) (H : Hp) (C : Addr) (cl : List (Str × Addr)) (fp : List Addr), PG (X.blk s H scope (compEnvC scope cl C X.env) fp) tg (gM c.K js t)) (ht : ∀ (s : Shared) (H : Hp) (C : Addr) (cl : List (Str × Addr)) (fp : List Addr), PTs (X.blk s H scope (compEnvC scope cl C X.env) fp) ifs (tT c.nox tt))
    (he : ∀ (s : Shared) (H : Hp) (C : Addr) (cl : List (Str × Addr)) (fp : List Addr), PE (X.blk s H scope (compEnvC scope cl C X.env) fp) elt (tM c.nox te)) (hN : X.N.Nodup) (hjs : ∀ j ∈ js, j ∈ own.map (·.2) := by decide) (hc : X.calm = true := by rfl) (hy : X.N[i]? = some y := by rfl) (hyl : X.env.scope.names.lookup y = some .local := by rfl)
    (hsw : swapsWith (.ListComp elt [⟨tg, iter, ifs, 0⟩] scope pos) (some (.Name y py)) spos.line X.env = pure true := by exact sw_true rfl rfl rfl (by decide +kernel)) (hs : ∀ x, foldedSetIterable iter X.env x = pure x := by intro _; rfl) :
    PS X (.Assign [.Name y py] (.ListComp elt [⟨tg, iter, ifs, 0⟩] scope pos) spos) (sM c (sSet i (frzM (oComp src (own.map (·.2)) t tt te)))) :=
  ps_cq (ps_setLc hc hN hy hyl hsw hi ok hg ht he hs) fun Dd st H ⟨pa, H0, F0, F, r, okk, po⟩ => lc_ok hjs ⟨pa, H0, F0, F, r, okk, (Po.bind (Po.bind po)).mono (fun _ _ x => x) fun rv r1 q F1 H1 v k1 e1 dp => by
    cases rv with
    | v d =>
      obtain ⟨q, hi⟩ := setM_po q
      exact q F1 H1 _ (k1.setV hi dp) e1
    | o ct =>
      cases ct with
      | l ds =>
        obtain ⟨a, rfl, z1, z2, ⟨vs, z3, z4⟩, z5⟩ := dp
        have k2 := k1.frz z3 z2 z5.1 z1
        obtain ⟨q, hi⟩ := setM_po q
        exact q _ H1 _ (k2.setV hi (.lst (.inl (.inl upd_same)) (dpa_mono (Ex.new z1) z4))) (e1.trans (Ex.new z1))
      | t kvs => exact q.elim
      | n t =>
        obtain ⟨d, hd, q⟩ := opt_po' q
        obtain ⟨a, rfl, z⟩ := dp
        obtain ⟨F2, k2, eF, rp⟩ := k1.frzRv z hd
        obtain ⟨q, hi⟩ := setM_po q
        exact q F2 H1 _ (k2.setV hi rp) (e1.trans eF)
      | d kvs => exact q.elim⟩
/-! ### an own list compared -/
def eqD0 (d e : D) : Option D := if SeqAt.shaped d = true ∧ SeqAt.shaped e = true then some (.bool (PyData.eqv d e)) else none
def eqS (i : Nat) (mb : M D) : M D := fun r => match getC i r with
  | some (.l _) => (mb r).bind fun d r => match getC i r with
    | some (.l ds) => M.opt (eqD0 (.list ds) d) r
    | _ => .no
  | some (.d _) => .no
  | some (.t _) => .no
  | some (.n _) => .no
  | none => bin eqD (getS i) mb r
theorem pt_or' {e : Expr} {t t' : TT} (h : PT X e t) (h' : PT X e t') : PT X e (fun st H Q => t st H Q ∨ t' st H Q) := ⟨fun pins s st H Q I q => q.elim (h.run pins s st H Q I) (h'.run pins s st H Q I)⟩
def neS (i : Nat) (mb : M D) : M D := fun r => match getC i r with
  | some (.l _) => (mb r).bind fun d r => match getC i r with
    | some (.l ds) => M.opt (neD (.list ds) d) r
    | _ => .no
  | some (.d _) => .no
  | some (.t _) => .no
  | some (.n _) => .no
  | none => bin neD (getS i) mb r
theorem neS_ok {i : Nat} {x : Str} {mb : M D} {st : L2.St} {H : Hp} {Q : VK} (hK : c.K = X.K) (h : tM c (neS i mb) st H Q) : (tOp (rNeD X.K) (tVar i) (tM c mb) st H Q) ∨ (tOp (rD2 c.K neD) (tM c (getS i)) (tM c mb) st H Q) := by
  obtain ⟨pa, H0, F0, F, r, ok, po⟩ := h
  unfold neS at po
  split at po
  · rename_i ds0 hg
    obtain ⟨s0, hs0, hso0⟩ := getC_some hg
    obtain ⟨a, hst, _⟩ := ok.ownd hs0 hso0
    refine .inl ⟨_, hst, pa, H0, F0, F, r, ok, (Po.bind po).mono (fun _ _ x => x) fun d r1 q F1 H1 v k1 e1 dp => ?_⟩
    split at q
    · rename_i ds hg1
      obtain ⟨s1, hs1, hso1⟩ := getC_some hg1
      obtain ⟨a1, hst1, nF1, n01, vs, hH1, hr1⟩ := k1.ownd hs1 hso1
      rw [hst] at hst1
      cases hst1
      obtain ⟨z, hz, q2⟩ := opt_po q
      have hz : (if SeqAt.shaped (.list ds) = true ∧ SeqAt.shaped d = true then some (PyData.bool (!PyData.eqv (.list ds) d)) else none) = some z := by
        cases d <;> exact hz
      split at hz
      · rename_i hm
        cases hz
        exact ⟨_, d, by rw [← hK]; exact rp_dp (.lst (.inl (.inl hH1)) (dpa_mono k1.fH hr1)) hm.1, by rw [← hK]; exact rp_dp (dp_mono k1.fH dp) hm.2, hm.1, hm.2, q2 F1 H1 _ k1 e1 (.bl _)⟩
      · cases hz
    · exact q.elim
  · exact po.elim
  · exact po.elim
  · exact po.elim
  · exact .inr (bin_ok ⟨pa, H0, F0, F, r, ok, po⟩)
theorem t_neS (i : Nat) {x : Str} {b : Expr} {mb : M D} {px pos : Pos} (hb : PE X b (tM c mb)) (hu : X.A.units + 64 < cLine) (hK : c.K = X.K := by rfl) (hm : behindInMarks .NotEq b = false := by first | exact nomark _ | rfl) (hN : X.N[i]? = some x := by rfl) (hv : Vis X.env.scope x := by first | exact Or.inl rfl | exact Or.inr (Or.inl rfl) | exact Or.inr (Or.inr rfl)) (hd : (x == ("__debug__" : Str)) = false := by decide)
    (hcd : (x == ("__classdict__" : Str)) = false := by decide) : PT X (.Compare (.Name x px) [.NotEq] [b] pos) (tT c (tBool (neS i mb))) :=
  pt_cq (pt_or' (pt_cmpR (op_neD hu) (pe_var (i := i) hN hv hd hcd) hb hm) (pt_cmpR (ne_data hu hK) (e_var i hN hv hd hcd) hb hm)) fun st H Q h => by
    obtain ⟨pa, H0, F0, F, r, ok, po⟩ := h
    refine neS_ok (x := x) hK ?_
    refine seqM ok po fun d r1 F1 H1 v k1 e1 dp q => ?_
    obtain ⟨b, hb, q⟩ := opt_po q
    cases dp with
    | bl b' =>
      cases hb
      exact ⟨_, rfl, q F1 H1 k1 e1⟩
    | _ => cases hb
/-! ### a statement that is never come to -/
def sNever : M Fl := fun _ => .no
theorem s_never {s : Stmt} : PS X s (sM c sNever) := ⟨fun pins sh st H Dd I ⟨_, _, _, _, _, _, po⟩ => po.elim⟩
/-! ### a call without arguments -/
def cCall0 (f : List Sl → Re RV) : M RV := cCall f aNil
end
end Pu
namespace Pu
open PySem PySem.Spec PyProof.Rows L2
variable [TabT]
section
variable {X : Cx} {c : Cc}
/-! ### {} -/
theorem e_dict0 {pos : Pos} : PE X (.Dict [] [] pos) (tM c (M.ret (.dict []))) :=
  pe_cq pe_dnewK fun st H Q ⟨pa, H0, F0, F, r, ok, po⟩ p np =>
    po _ _ _ (ok.layF np) (Ex.new (ok.fH.nn np)) (.emp upd_same)
def oDict0 : M RV := M.ret (.o (.d []))
theorem o_dict0 {pos : Pos} : PE X (.Dict [] [] pos) (tO c oDict0) :=
  pe_cq pe_dnewK fun st H Q ⟨pa, H0, F0, F, r, ok, po⟩ p np =>
    po F _ _ (ok.lay np) (Ex.refl F) ⟨p, rfl, ok.fH.nn np, ok.hH.nn np, ⟨[], upd_same, .nil⟩, .d (ok.nobody np).upd⟩
/-! ### bool, str -/
def boolD : D → Option D
  | .int i => some (.bool (i != 0))
  | .bool b => some (.bool b)
  | _ => none
/-! ### in, not in a list of data -/
noncomputable def inD : D → D → Option D
  | d, .list ds => cI (SeqAt.shaped d = true ∧ SeqAt.shaped (.list ds) = true) (some (.bool (ds.any fun z => PyData.eqv z d))) none
  | _, _ => none
noncomputable def ninD : D → D → Option D
  | d, .list ds => cI (SeqAt.shaped d = true ∧ SeqAt.shaped (.list ds) = true) (some (.bool (!ds.any fun z => PyData.eqv z d))) none
  | _, _ => none
theorem nin_data (hu : X.A.units + 65 < cLine) (hK : c.K = X.K := by rfl) : OpR X (compareOp .NotIn) (rD2 c.K ninD) := opr_cq (op_notInD hu) fun x y H Q ⟨F, d, e, z, fh, dx, dy, hz, q⟩ => by
  cases dy with
  | @lst a vs ds g1 g2 =>
    have hz : (if SeqAt.shaped d = true ∧ SeqAt.shaped (.list ds) = true then some (PyData.bool (!ds.any fun z => PyData.eqv z d)) else none) = some z := by
      rw [← cI_eq]
      exact hz
    split at hz
    · rename_i hm
      cases hz
      exact ⟨d, ds, by rw [← hK]; exact rp_dp (dp_mono fh dx) hm.1, by rw [← hK]; exact rp_dp (dp_mono fh (.lst g1 g2)) hm.2, hm.1, hm.2, q _ F H (.inl ⟨rfl, rfl⟩) (.bl _)⟩
    · cases hz
  | _ => cases hz
/-! ### l.index(x) -/
noncomputable def indexD : D → D → Option D
  | .list ds, d => cI (SeqAt.shaped d = true ∧ SeqAt.shaped (.list ds) = true) ((ds.findIdx? fun z => PyData.eqv z d).map fun j => .int (j : Nat)) none
  | _, _ => none
noncomputable def eIndex (mo me : M D) : M D := mo.bind fun d => match d with
  | .list ds => me.bind fun b => M.opt (indexD (.list ds) b)
  | _ => M.no
theorem e_index {k : Nat} {o e : Expr} {mo me : M D} {apos cpos : Pos} (ho : PE X o (tM c mo)) (he : PE X e (tM c me)) (hr : Rm k X.A) (hK : c.K = X.K := by rfl) (hs1 : starEach [e] X.env = [(false, eval e X.env)] := by rfl)
    (hbase : attributeBase o "index" X.env (eval o X.env) = eval o X.env := by rfl)
    (hfew : ((backTo cpos (starEach [e] X.env)).all (fun x => !x.1) && (backToKw cpos (keywordEach [] X.env)).all (fun x => x.1.isSome) && decide (([e] : List Expr).length + ([] : List Keyword).length + (if ([] : List Keyword).isEmpty then 0 else 1) < 30)) = true := by rfl)
    (hline : (apos.endLine == cpos.line) = true := by rfl) (hplain : (backTo cpos (starEach [] X.env)).any (·.1) = false := by rfl) :
    PE X (.Call (.Attribute o "index" apos) [e] [] cpos) (tM c (eIndex mo me)) :=
  pe_cq (pe_bm PySem.F.plainAttrs_list PySem.F.slot_list_index PySem.F.type_list_index (mt_indexD hr.in65) ho (pa_cons he pa_nil hs1) hbase hfew hline hs1 hplain) fun st H Q ⟨pa, H0, F0, F, r, ok, po⟩ => seqM ok po fun d r1 F1 H1 v k1 e1 dp q => by
    cases dp with
    | @lst a vs ds g1 g2 =>
      have q := Po.bind (show Po _ ((me.bind fun b => M.opt (indexD (.list ds) b)) r1) _ from q)
      refine ⟨.inl ⟨rfl, vs, by rw [← hK]; exact k1.fH.l g1⟩, pa, H0, F0, F1, r1, k1, q.mono (fun _ _ x => x) fun b r2 q F2 H2 w k2 e2 dq => ?_⟩
      obtain ⟨z, hz, q2⟩ := opt_po q
      have hz : (if SeqAt.shaped b = true ∧ SeqAt.shaped (.list ds) = true then ((ds.findIdx? fun z => PyData.eqv z b).map fun j => PyData.int (j : Nat)) else none) = some z := by
        rw [← cI_eq]
        exact hz
      split at hz
      · rename_i hm
        cases hf : ds.findIdx? fun z => PyData.eqv z b with
        | none =>
          rw [hf] at hz
          cases hz
        | some j =>
          rw [hf] at hz
          cases hz
          obtain ⟨hj, h1, h2⟩ := List.findIdx?_eq_some_iff_getElem.mp hf
          refine ⟨a, w, b, ds, j, ds[j], rfl, rfl, by rw [← hK]; exact rp_dp (dp_mono (e2.trans k2.fH) (.lst g1 g2)) hm.2, by rw [← hK]; exact rp_dp (dp_mono k2.fH dq) hm.1, hm.2, hm.1, List.getElem?_eq_getElem hj, h1, ?_, q2 F2 H2 _ k2 (e1.trans e2) (.int _)⟩
          intro m z' hm' hz'
          have := h2 m hm'
          rw [List.getElem?_eq_getElem (by omega)] at hz'
          cases hz'
          simpa using this
      · cases hz
    | _ => exact (show False from q).elim
/-! ### l.pop(i) -/
noncomputable def popD (ds : List D) : D → Option (D × List D)
  | .int n => cI (0 ≤ n ∧ n < 2 ^ 63) ((ds[n.toNat]?).map fun y => (y, ds.eraseIdx n.toNat)) none
  | _ => none
noncomputable def ePop (i : Nat) (m : M D) : M D := fun r => match getC i r with
  | some (.l _) => (m r).bind fun d r => match getC i r with
    | some (.l ds) => (match popD ds d with
      | some p => .ok p.1 (putC i (.l p.2) r)
      | none => .no)
    | _ => .no
  | _ => .no
theorem e_pop (i : Nat) {x : Str} {e : Expr} {m : M D} {px apos cpos : Pos} (h : PE X e (tM c m)) (hK : c.K = X.K := by rfl) (hN : X.N[i]? = some x := by rfl) (hv : Vis X.env.scope x := by first | exact Or.inl rfl | exact Or.inr (Or.inl rfl) | exact Or.inr (Or.inr rfl)) (hd : (x == ("__debug__" : Str)) = false := by decide)
    (hcd : (x == ("__classdict__" : Str)) = false := by decide) (hs1 : starEach [e] X.env = [(false, eval e X.env)] := by rfl)
    (hbase : attributeBase (.Name x px) "pop" X.env (eval (.Name x px) X.env) = eval (.Name x px) X.env := by rfl)
    (hfew : ((backTo cpos (starEach [e] X.env)).all (fun x => !x.1) && (backToKw cpos (keywordEach [] X.env)).all (fun x => x.1.isSome) && decide (([e] : List Expr).length + ([] : List Keyword).length + (if ([] : List Keyword).isEmpty then 0 else 1) < 30)) = true := by rfl)
    (hline : (apos.endLine == cpos.line) = true := by rfl) (hplain : (backTo cpos (starEach [] X.env)).any (·.1) = false := by rfl) :
    PE X (.Call (.Attribute (.Name x px) "pop" apos) [e] [] cpos) (tM c (ePop i m)) :=
  pe_cq (pe_bm PySem.F.plainAttrs_list PySem.F.slot_list_pop PySem.F.type_list_pop mt_popAt (pe_var (i := i) hN hv hd hcd) (pa_cons h pa_nil hs1) hbase hfew hline hs1 hplain) fun st H Q ⟨pa, H0, F0, F, r, ok, po⟩ => by
    unfold ePop at po
    split at po
    · rename_i ds0 hg
      obtain ⟨s0, hs0, hso0⟩ := getC_some hg
      obtain ⟨a, hst, nF, n0, vs0, hH0, hr0⟩ := ok.ownd hs0 hso0
      refine ⟨_, hst, .inl ⟨rfl, vs0, .inl (.inl hH0)⟩, ?_⟩
      refine ⟨pa, H0, F0, F, r, ok, (Po.bind po).mono (fun _ _ x => x) fun d r1 q F1 H1 v k1 e1 dp => ?_⟩
      split at q
      · rename_i ds hg1
        obtain ⟨s1, hs1, hso1⟩ := getC_some hg1
        obtain ⟨a1, hst1, nF1, n01, vs, hH1, hr1⟩ := k1.ownd hs1 hso1
        rw [hst] at hst1
        cases hst1
        cases dp with
        | int n =>
          have ez : popD ds (.int n) = if 0 ≤ n ∧ n < 2 ^ 63 then ((ds[n.toNat]?).map fun y => (y, ds.eraseIdx n.toNat)) else none := by
            rw [← cI_eq]
            rfl
          rw [ez] at q
          by_cases hn : 0 ≤ n ∧ n < 2 ^ 63
          · rw [if_pos hn] at q
            cases hy : ds[n.toNat]? with
            | none =>
              rw [hy] at q
              exact q.elim
            | some y =>
              rw [hy] at q
              obtain ⟨w, g1, g2⟩ := dpa_get hr1 hy
              have hlt : n.toNat < vs.length := (List.getElem?_eq_some_iff.mp g1).1
              refine ⟨a, vs, n, n.toNat, w, rfl, rfl, hH1, by omega, hn.2, ?_, g1, ?_⟩
              · unfold seqIndex?
                have hneg : ¬ n < 0 := by omega
                have hin : (decide (0 ≤ n) && decide (n < (vs.length : Int))) = true := by
                  rw [Bool.and_eq_true, decide_eq_true_eq, decide_eq_true_eq]
                  omega
                simp only [hneg, if_false, hin, if_true]
              · exact q F1 _ _ (k1.putC hg1 hst ⟨_, upd_same, dpa_erase _ hr1⟩) e1 g2
          · rw [if_neg hn] at q
            exact q.elim
        | _ => exact q.elim
      · exact q.elim
    · exact po.elim
end
end Pu
namespace Pu
open PySem PySem.Spec PyProof.Rows L2
variable [TabT]
/-! ### a dict of the module: text keys, whole numbers -/
def Tabl (K : PySem.W.Frag) (w : World) (mg : Str → Option Value) (x : Str) (kvs : List (Str × Int)) : Prop := ∃ d es n, mg x = some (.ref d) ∧ KDict K w d es n ∧ ∀ z, ∃ r, PySem.W.nsIn K d z = some r ∧ (match kvs.find? fun p => decide (p.1 = z) with
  | none => r = none
  | some p => ∃ t, r = some (.int p.2 t))
/-! ### len(set(a tuple of at most two numbers)) -/
def dn : List Int → Nat
  | [] => 0
  | [_] => 1
  | a :: b :: _ => if a = b then 1 else 2
/-! ### the head with such tables -/
def ent (e : DictEntry) : Option (Str × Int) := match e.key with
  | .str k _ => (match e.val with
    | .int i _ => some (k, i)
    | _ => none)
  | _ => none
def tabV (K : PySem.W.Frag) (x : Str) : Option (List (Option (Str × Int))) := match K.lookup (He.ga K x) with
  | some ⟨_, _, .dict es _, _⟩ => some (es.toList.map ent)
  | _ => none
theorem ent_find (z : Str) : ∀ {l : List DictEntry} {kvs : List (Str × Int)}, l.map ent = kvs.map some → l.any (·.refKey) = false ∧ (match kvs.find? fun p => decide (p.1 = z) with
  | none => l.find? (·.key.isStr z) = none
  | some p => ∃ e t, l.find? (·.key.isStr z) = some e ∧ e.val = .int p.2 t)
  | [], [], _ => ⟨rfl, rfl⟩
  | [], _ :: _, h => by cases h
  | _ :: _, [], h => by cases h
  | e :: l, p :: kvs, h => by
    have h1 : ent e :: l.map ent = some p :: kvs.map some := h
    injection h1 with h2 h3
    obtain ⟨g1, g2⟩ := ent_find z h3
    obtain ⟨eh, ek, ev⟩ := e
    unfold ent at h2
    cases ek with
    | str k t =>
      cases ev with
      | int i t2 =>
        have h4 : some (k, i) = some p := h2
        cases h4
        refine ⟨?_, ?_⟩
        · rw [List.any_cons, g1]
          rfl
        · by_cases hk : k = z
          · rw [List.find?_cons_of_pos (by simp [hk]), List.find?_cons_of_pos (by simp [Value.isStr, hk])]
            exact ⟨_, t2, rfl, rfl⟩
          · rw [List.find?_cons_of_neg (by simp [hk]), List.find?_cons_of_neg (by simp [Value.isStr, hk])]
            exact g2
      | _ => cases h2
    | _ => cases h2
abbrev Tbs := List (Str × List (Str × Int))
def tsOf (xs : Tbs) : List He.Tab := xs.map fun p => (fun K => He.ga K p.1, p.2.map (·.1))
abbrev AlS : Type := He.AlT × List (Option (List (Option (Str × Int))))
def obsS (fa : List He.Fa) (fn : List He.DefD) (xs : Tbs) (K : PySem.W.Frag) : AlS := (He.obsT fa fn (tsOf xs) K, xs.map fun p => tabV K p.1)
def valS (fn : List He.DefD) (xs : Tbs) (w : World) : AlS := (He.valT fn (tsOf xs) w, xs.map fun p => some (p.2.map some))
def SaysS (fa : List He.Fa) (fn : List He.DefD) (xs : Tbs) (w : World) (K : PySem.W.Frag) : Prop := obsS fa fn xs K = valS fn xs w
section
variable {fa : List He.Fa} {fn : List He.DefD} {xs : Tbs} {w : World} {K : PySem.W.Frag}
theorem SaysS.d (c : SaysS fa fn xs w K) : He.SaysD fa fn K := He.SaysT.d (congrArg (fun z : AlS => z.1) c)
theorem SaysS.tab (c : SaysS fa fn xs w K) (i : Nat) {p : Str × List (Str × Int)} {mg : Str → Option Value} (h : xs[i]? = some p) (hm : mg p.1 = some (.ref (He.ga K p.1))) : Tabl K w mg p.1 p.2 := by
  have c1 : He.SaysT fa fn (tsOf xs) w K := congrArg (fun z : AlS => z.1) c
  obtain ⟨es, n, Dd⟩ := c1.tab i (t := (fun K => He.ga K p.1, p.2.map (·.1))) (by unfold tsOf; rw [List.getElem?_map, h]; rfl)
  have e : (xs.map fun p => tabV K p.1) = xs.map fun p => some (p.2.map some) := congrArg (fun z : AlS => z.2) c
  have e2 : (xs.map fun p => tabV K p.1)[i]? = (xs.map fun p => some (p.2.map some))[i]? := by rw [e]
  rw [List.getElem?_map, List.getElem?_map, h] at e2
  have e3 : tabV K p.1 = some (p.2.map some) := Option.some.inj e2
  have hat := Dd.at_
  unfold tabV at e3
  rw [hat] at e3
  have e4 : es.toList.map ent = p.2.map some := Option.some.inj e3
  refine ⟨He.ga K p.1, es, n, hm, Dd, fun z => ?_⟩
  obtain ⟨g1, g2⟩ := ent_find z e4
  unfold PySem.W.nsIn
  rw [hat]
  cases hf : p.2.find? fun p => decide (p.1 = z) with
  | none =>
    rw [hf] at g2
    have g2 : es.toList.find? (·.key.isStr z) = none := g2
    refine ⟨none, ?_, rfl⟩
    simp only [g2, g1]
    rfl
  | some q =>
    rw [hf] at g2
    obtain ⟨e, t, h1, h2⟩ := g2
    refine ⟨some e.val, ?_, t, by rw [h2]⟩
    simp only [h1]
end
end Pu
namespace Pu
open PySem PySem.Spec PyProof.Rows L2
/-! ### zip of a list and a tuple -/
end Pu
namespace Pu
open PySem PySem.Spec PyProof.Rows L2
variable [TabT]
/-! ### an object that stands already is tracked -/
structure Newly (X : Cx) (pins : List (Addr × Obj)) (a : Addr) : Prop where
  loc : a ≠ X.env.locals
  cel : ∀ x c, X.env.cells.lookup x = some c → c ≠ a
  pin : ∀ p ∈ X.pn ++ pins, p.1 ≠ a
  old : X.s_0.heap.get? a = none
theorem Newly.of {X : Cx} {pins : List (Addr × Obj)} {st : L2.St} {H : Hp} {s : Shared} {a : Addr} (I : Inv X pins st H s) (h : s.heap.get? a = none) (hx : X.ex = []) : Newly X pins a where
  loc := fun z => by
    obtain ⟨m, ⟨o, es, ep, q, _⟩, _⟩ := I.loc
    rw [← z, h] at q
    cases q
  cel := fun x c e z => by
    obtain ⟨v, o, q, _⟩ := I.cell x c e
    rw [z, h] at q
    cases q
  pin := fun p hp z => by
    obtain ⟨q, _⟩ := I.pin p hp
    rw [z, h] at q
    cases q
  old := by
    cases q : X.s_0.heap.get? a with
    | none => rfl
    | some o =>
      obtain ⟨o', q2⟩ := I.base.there a o q (by rw [hx]; simp)
      rw [h] at q2
      cases q2
/-! ### try: .. except x as n: y = n -/
/-! ### the classes of the program -/
def houseE : Str := "HouseError"
def isB (nm y : Str) : Bool := decide (nm = y) || decide (y = houseE)
/-! ### the rules -/
def sRaise (nm : Str) : M Fl := fun r => .ex ⟨nm, []⟩ r
def exOf (e : Exn) : D := .dict ((.str e.name, .none) :: e.flds.map fun p => (.str p.1, p.2))
/-- try: body, except HouseError as (slot j): (slot i) = it -/
def sTry (ns : List Str) (j i : Nat) (mb : M Fl) : M Fl := fun r => match mb r with
  | .ex e r1 => if e.name ∈ ns then (match (setN j (.v (exOf e)) r1).bind (setN i (.v (exOf e))) with
    | some r2 => .ok .nx (r2.set j .unk)
    | none => .no) else .no
  | x => x
def isED (ns : List Str) (y : Str) : D → Option D
  | .dict ((.str nm, .none) :: _) => if nm ∈ ns then some (.bool (isB nm y)) else none
  | _ => none
def isEV (ns : List Str) : D → Option D
  | .dict ((.str nm, .none) :: _) => if nm ∈ ns then some (.bool true) else none
  | _ => none
def isET (ns : List Str) (ys : List Str) : D → Option D
  | .dict ((.str nm, .none) :: _) => if nm ∈ ns then some (.bool (ys.any fun y => isB nm y)) else none
  | _ => none
/-! ### isinstance with a tuple of classes -/
/-! ### the head with one more Bool -/
abbrev AlB : Type := He.AlD × Bool
def SaysB (fa : List He.Fa) (fn : List He.DefD) (ex : PySem.W.Frag → Bool) (K : PySem.W.Frag) : Prop := He.SaysD fa fn K ∧ ex K = true
end Pu
namespace Pu
open PySem PySem.Spec PyProof.Rows L2
variable [TabT]
/-! ### zip of three tuples -/
def zip3D : List D → List D → List D → List D
  | x :: xs, y :: ys, z :: zs => .tuple [x, y, z] :: zip3D xs ys zs
  | _, _, _ => []
def zip3Of : List D → Option (List D)
  | [.tuple xs, .tuple ys, .tuple zs] => some (zip3D xs ys zs)
  | _ => none
/-! ### x.insert(n, e) -/
noncomputable def sInsert (i : Nat) (mk m : M D) : M Fl := fun r => match getC i r with
  | some (.l _) => (mk r).bind fun k r => (m r).bind fun d r => match k, getC i r with
    | .int n, some (.l ds) => cI (ds.length < 16777216 ∧ 0 ≤ n ∧ n < 2 ^ 63) (.ok .nx (putC i (.l (ds.take n.toNat ++ [d] ++ ds.drop n.toNat)) r)) .no
    | _, _ => .no
  | _ => .no
end Pu
namespace L2
open PySem PySem.Spec PyProof.Rows
end L2
namespace Pu
open PySem PySem.Spec PyProof.Rows L2
variable [TabT]
/-! ### sorted(set(a list of ints)) -/
def unaO (g : D → Option (List D)) (ma : M D) : M RV := ma.bind fun x => M.opt ((g x).map fun z => .o (.l z))
/-! ### sorted(a list of ints) -/
def insS (k : Int) : List Int → List Int
  | [] => [k]
  | x :: xs => if k ≤ x then k :: x :: xs else x :: insS k xs
def isort : List Int → List Int
  | [] => []
  | k :: ks => insS k (isort ks)
def sortD : List D → Option (List D)
  | [.list ds] => (intsOf ds).map fun ns => (isort ns).map .int
  | _ => none
end Pu
namespace Pu
open PySem PySem.Spec PyProof.Rows L2
variable [TabT]
/-! ### the fields of a caught exception -/
/-! ### HouseError.__init__(self, ..) -/
/-! ### the own __init__ of an exception: its fields are its parameters -/
def sRaiseF (nm : Str) (fs : List Str) (ms : M (List D)) : M Fl := ms.bind fun ds => fun r => if ds.length = fs.length then .ex ⟨nm, (fs.zip ds).reverse⟩ r else .no
theorem zip_fst {α β : Type} : ∀ {fs : List α} {ys : List β}, ys.length = fs.length → (fs.zip ys).map (·.1) = fs
  | [], [], _ => rfl
  | _ :: fs, _ :: ys, h => by simp [zip_fst (fs := fs) (ys := ys) (by simpa using h)]
/-! ### the head with the statics -/
end Pu
namespace Pu
open PySem PySem.Spec PyProof.Rows L2
/-! ### the tables of the defs that make lambdas -/
/-- the code object and its table of the global def x -/
def tabP (K : PySem.W.Frag) (x : Str) : Option (Addr × Addr) := match K.lookup (He.ga K x) with
  | some ⟨_, _, .func fd, _⟩ => (match fd.code with
    | .ref c => (match K.lookup c with
      | some ⟨_, _, .fields vs, _⟩ => (match (vs[11]? : Option Value) with
        | some (.ref P) => some (c, P)
        | _ => none)
      | _ => none)
    | _ => none)
  | _ => none
def lamQ (x : Str) : Str := (x ++ ".<locals>.") ++ "<lambda>"
def tabsN (ln : List Str) (K : PySem.W.Frag) : List (Addr × Str) := ln.filterMap fun x => (tabP K x).map fun p => (p.2, lamQ x)
def csN (ln : List Str) (K : PySem.W.Frag) : List (Addr × Addr) := ln.filterMap (tabP K)
def emptyT : Option Obj → Bool
  | some ⟨.none, none, .fields vs, sl⟩ => vs.isEmpty && sl.isEmpty
  | _ => false
theorem emptyT_ok {o : Option Obj} (h : emptyT o = true) : o = some { cls := .none, data := .fields #[] } := by
  unfold emptyT at h
  split at h
  · simp only [Bool.and_eq_true, Array.isEmpty_iff] at h
    obtain ⟨rfl, rfl⟩ := h
    rfl
  · cases h
def lamB (ln : List Str) (K : PySem.W.Frag) (g : Addr → Option Obj) : Bool := (ln.all fun x => match tabP K x with
  | some (c, P) => PySem.W.codeHdIn K c P && ((K.lookup P).isNone && emptyT (g P))
  | none => false) && (tabsN ln K).all fun p => (tabsN ln K).all fun q => !(p.1 == q.1) || p.2 == q.2
structure LamOk (ln : List Str) (K : PySem.W.Frag) (h : Heap) : Prop where
  at_ : ∀ x ∈ ln, ∃ c P, tabP K x = some (c, P) ∧ PySem.W.codeHdIn K c P = true ∧ K.lookup P = none ∧ h.get? P = some { cls := .none, data := .fields #[] }
  un : ∀ p ∈ tabsN ln K, ∀ q ∈ tabsN ln K, p.1 = q.1 → p.2 = q.2
theorem lamB_ok {ln : List Str} {K : PySem.W.Frag} {h : Heap} (e : lamB ln K h.get? = true) : LamOk ln K h := by
  unfold lamB at e
  simp only [Bool.and_eq_true, List.all_eq_true] at e
  obtain ⟨e1, e2⟩ := e
  refine ⟨fun x hx => ?_, fun p hp q hq z => ?_⟩
  · have q := e1 x hx
    cases ht : tabP K x with
    | none =>
      rw [ht] at q
      cases q
    | some cp =>
      obtain ⟨c, P⟩ := cp
      rw [ht] at q
      simp only [Bool.and_eq_true] at q
      obtain ⟨q1, q2, q3⟩ := q
      exact ⟨c, P, rfl, q1, Option.isNone_iff_eq_none.mp q2, emptyT_ok q3⟩
  · have y := e2 p hp q hq
    simp only [Bool.or_eq_true, Bool.not_eq_true', beq_iff_eq, beq_eq_false_iff_ne] at y
    rcases y with y | y
    · exact absurd z y
    · exact y
theorem LamOk.keeps {ln : List Str} {K : PySem.W.Frag} {h h' : Heap} (l : LamOk ln K h) (k : ∀ b o, h.get? b = some o → h'.get? b = some o) : LamOk ln K h' := ⟨fun x hx => by
  obtain ⟨c, P, q1, q2, q3, q4⟩ := l.at_ x hx
  exact ⟨c, P, q1, q2, q3, k _ _ q4⟩, l.un⟩
def asL (g : Addr → Option Obj) (n : Nat) (ln : List Str) : List Addr :=
  let as := He.asD g n ++ [cStatics]
  let ts := (csN ln (He.frG g as)).map (·.2)
  as.filter fun a => !ts.contains a
def obsLG (n : Nat) (fa : List He.Fa) (fn : List He.DefD) (ex : PySem.W.Frag → Bool) (ln : List Str) (g : Addr → Option Obj) : AlB := (He.obsD fa fn (He.frG g (asL g n ln)), ex (He.frG g (asL g n ln)) && lamB ln (He.frG g (asL g n ln)) g)
def hookL (n : Nat) (fa : List He.Fa) (fn : List He.DefD) (ex : PySem.W.Frag → Bool) (ln : List Str) : PySem.W.Hook where
  α := AlB
  obs := fun s => obsLG n fa fn ex ln s.heap.get?
  val := fun _ => (He.valD fn, true)
  says := fun _ h => ∃ K : PySem.W.Frag, K.In h ∧ SaysB fa fn ex K ∧ LamOk ln K h
  of := fun _ _ e => by
    have e2 := congrArg (fun z : AlB => z.2) e
    have e2 := Bool.and_eq_true_iff.mp e2
    exact ⟨_, He.frG_in, ⟨congrArg (fun z : AlB => z.1) e, e2.1⟩, lamB_ok e2.2⟩
  keeps := fun _ _ _ ⟨K, hK, c, l⟩ k => ⟨K, PySem.W.Frag.In.keeps hK k, c, l.keeps k⟩
theorem obsLG_eq {n : Nat} {fa : List He.Fa} {fn : List He.DefD} {ex : PySem.W.Frag → Bool} {ln : List Str} {g : Addr → Option Obj} {s : Shared} (h : ∀ a, g a = s.heap.get? a) : obsLG n fa fn ex ln g = (hookL n fa fn ex ln).obs s := by
  have e : g = s.heap.get? := funext h
  rw [e] <;> rfl
/-- what the law's start is told of the tables -/
theorem LamOk.cs {ln : List Str} {K : PySem.W.Frag} {h : Heap} (l : LamOk ln K h) (X : K.In h) : (∀ p ∈ csN ln K, h.get? p.2 = some { cls := .none, data := .fields #[] }) ∧ (∀ p ∈ csN ln K, K.lookup p.2 = none) ∧ (∀ p ∈ csN ln K, PySem.W.CodeHd h p.1 p.2) := by
  have key : ∀ p ∈ csN ln K, PySem.W.codeHdIn K p.1 p.2 = true ∧ K.lookup p.2 = none ∧ h.get? p.2 = some { cls := .none, data := .fields #[] } := fun p hp => by
    obtain ⟨x, hx, e⟩ := List.mem_filterMap.mp hp
    obtain ⟨c, P, q1, q2, q3, q4⟩ := l.at_ x hx
    rw [q1] at e
    cases e
    exact ⟨q2, q3, q4⟩
  exact ⟨fun p hp => (key p hp).2.2, fun p hp => (key p hp).2.1, fun p hp => PySem.W.codeHd_of_K X (key p hp).1⟩
theorem tabs_start {ln : List Str} {K : PySem.W.Frag} {H : Hp} (h : ∀ p ∈ csN ln K, H p.2 = some (.tbl #[])) : LamX.Tabs (tabsN ln K) H := fun p hp => by
  obtain ⟨x, hx, e⟩ := List.mem_filterMap.mp hp
  cases ht : tabP K x with
  | none =>
    rw [ht] at e
    cases e
  | some cp =>
    rw [ht] at e
    cases e
    exact LamX.TabS.nil (h cp (List.mem_filterMap.mpr ⟨x, hx, ht⟩))
/-! ### the lambda called, with no guard under way -/
/-! ### the def that calls the lambda inside its try -/
section
open LamX
variable [TabT]
/-! ### x(lambda: E) -/
/-- the lambda sees data alone -/
def hideS : Sl → Sl
  | .v d => .v d
  | _ => .unk
def lamRes (r1 : En) : Re Fl → Re RV
  | .ok (.rt rv) _ => .ok rv r1
  | .ok .nx _ => .ok (.v .none) r1
  | _ => .no
def cLam (ns : List Str) (n i : Nat) (br : M Fl) (th : M D) : M RV := fun r => match th (r.map hideS) with
  | .ok _ _ => lamRes r (br ((List.replicate n Sl.unk).set i (.v .none)))
  | .ex e _ => if e.name ∈ ns then lamRes r (br ((List.replicate n Sl.unk).set i (.v (exOf e)))) else .no
  | .no => .no
end
end Pu
namespace Pu
open PySem PySem.Spec PyProof.Rows L2
variable [TabT]
section
variable {X : Cx} {c : Cc}
/-! ### l.remove(x), l.count(x) over data -/
noncomputable def eRemove (i : Nat) (m : M D) : M D := fun r => match getC i r with
  | some (.l _) => (m r).bind fun d r => match getC i r with
    | some (.l ds) => cI (SeqAt.shaped d = true ∧ SeqAt.shaped (.list ds) = true ∧ (SeqAt.dataPlace ds d).isSome = true) (.ok .none (putC i (.l (ds.eraseIdx ((SeqAt.dataPlace ds d).getD 0))) r)) .no
    | _ => .no
  | _ => .no
noncomputable def countD : D → D → Option D
  | .list ds, d => cI (SeqAt.shaped d = true ∧ SeqAt.shaped (.list ds) = true) (some (.int ((ds.countP fun z => PyData.eqv z d : Nat) : Int))) none
  | _, _ => none
noncomputable def eCount (mo me : M D) : M D := mo.bind fun d => match d with
  | .list ds => me.bind fun b => M.opt (countD (.list ds) b)
  | _ => M.no
/-! ### d.get(k, x) of an owned dict -/
def eGet (i : Nat) (mk mx : M D) : M D := fun r => match getC i r with
  | some (.d _) => (mk r).bind fun k r => (mx r).bind fun x r => (match getC i r with
    | some (.d kvs) => (match keyD k with
      | some y => .ok ((vK kvs y).getD x) r
      | none => .no)
    | _ => .no)
  | _ => .no
/-! ### l.clear() -/
def eClear (i : Nat) : M D := fun r => match getC i r with
  | some (.l _) => .ok .none (putC i (.l []) r)
  | _ => .no
end
end Pu
namespace Pu
open PySem PySem.Spec PyProof.Rows L2
variable [TabT]
/-! ### zip of a tuple and a list -/
def zipW : List D → Option (List D)
  | [.tuple xs, .list ys] => some (zipD xs ys)
  | [.list xs, .list ys] => some (zipD xs ys)
  | [.tuple xs, .tuple ys] => some (zipD xs ys)
  | _ => none
end Pu
namespace Pu
open PySem PySem.Spec PyProof.Rows L2
variable [TabT]
section
variable {X : Cx} {c : Cc}
/-! ### repr(x), isinstance(x, T) of an owned name -/
noncomputable def eReprS (i : Nat) : M D := fun r => match getC i r with
  | some (.l ds) => M.opt (reprD (.list ds)) r
  | some (.d _) => .no
  | some (.t _) => .no
  | some (.n (.l its)) => M.opt (reprD (.list (its.map Im.data))) r
  | some (.n _) => .no
  | none => nry (one reprD) (aCons (getS i) aNil) r
noncomputable def eIsiS (T : String) (i : Nat) : M D := fun r => match getC i r with
  | some (.l ds) => M.opt ((kitB "list" T).map PyData.bool) r
  | some (.d _) => M.opt ((kitB "dict" T).map PyData.bool) r
  | some (.t _) => .no
  | some (.n (.l _)) => M.opt ((kitB "list" T).map PyData.bool) r
  | some (.n _) => .no
  | none => una (isiD T) (getS i) r
/-! ### list(d), sorted(d) of an owned dict -/
def kD : Key → D
  | .inl i => .int i
  | .inr x => .str x
def oListK (i : Nat) : M RV := fun r => match getC i r with
  | some (.d kvs) => .ok (.o (.l (kvs.map fun kv => kD kv.1))) r
  | some (.l _) => .no
  | some (.t _) => .no
  | some (.n _) => .no
  | none => nryO listD (aCons (getS i) aNil) r
def intKs : List Key → Option (List Int)
  | [] => some []
  | .inl i :: ks => (intKs ks).map (i :: ·)
  | .inr _ :: _ => none
noncomputable def oSortK (i : Nat) : M RV := fun r => match getC i r with
  | some (.d kvs) => (match intKs (kvs.map (·.1)) with
    | some is => cI (is.length < 64) (.ok (.o (.l ((isort is).map .int))) r) .no
    | none => .no)
  | some (.l _) => .no
  | some (.t _) => .no
  | some (.n _) => .no
  | none => nryO sortD (aCons (getS i) aNil) r
/-! ### tuple(x) of an owned list: x stays one's own -/
def eTupS (i : Nat) : M D := fun r => match getC i r with
  | some (.l ds) => .ok (.tuple ds) r
  | some (.d _) => .no
  | some (.t _) => .no
  | some (.n _) => .no
  | none => nry (one tupD) (aCons (getS i) aNil) r
end
end Pu
namespace Pu
open PySem PySem.Spec PyProof.Rows L2
variable [TabT]
section
variable {X : Cx} {c : Cc}
/-! ### max(list of ints, default=int) -/
def maxI (d : Int) : List Int → Int
  | [] => d
  | x :: xs => xs.foldl (fun a y => max a y) x
theorem lay0 : ∀ xs : List Int, PyData.canLayAll0 (xs.map .int) = true
  | [] => rfl
  | _ :: xs => lay0 xs
def maxdD : D → D → Option D
  | .list ds, .int d => (intsOf ds).map fun ns => .int (maxI d ns)
  | _, _ => none
/-! ### a call with an owned list lent -/
mutual
def noL : D → Bool
  | .tuple ds => noLAll ds
  | .list _ => false
  | .dict _ => false
  | _ => true
def noLAll : List D → Bool
  | [] => true
  | d :: ds => noL d && noLAll ds
end
def noLR : RV → Bool
  | .v d => noL d
  | .o (.l ds) => noLAll ds
  | .o (.d _) => false
  | .o (.t _) => false
  | .o (.n _) => false
end
end Pu
/-! ### sorted(set(a list of ints)), any number of them -/
namespace L2
open PySem PySem.Spec PyProof.Rows
end L2
namespace Pu
open PySem PySem.Spec PyProof.Rows L2
end Pu
/-! ### x(lambda: E) where E changes one object of the maker's -/
namespace Pu
open PySem PySem.Spec PyProof.Rows L2 LamX
end Pu
/-! ### texts -/
namespace Pu
open PySem PySem.Spec PyProof.Rows L2
end Pu
namespace Pu
open PySem PySem.Spec PyProof.Rows L2
/-! ### where a text stands in a text -/
end Pu
namespace Pu
open PySem PySem.Spec PyProof.Rows L2
/-! ### a text parted at a mark -/
end Pu
namespace Pu
open PySem PySem.Spec PyProof.Rows L2
variable [TabT]
section
variable {X : Cx} {c : Cc}
/-! ### l.reverse() -/
def eLRev (i : Nat) : M D := fun r => match getC i r with
  | some (.l ds) => .ok .none (putC i (.l ds.reverse) r)
  | _ => .no
end
@[simp] theorem eLRev_ap (i : Nat) (r : En) : eLRev i r = (match getC i r with
  | some (.l ds) => .ok .none (putC i (.l ds.reverse) r)
  | _ => .no) := rfl
end Pu
namespace Pu
open PySem PySem.Spec PyProof.Rows L2
variable [TabT]
/-! ### i // j of any size -/
noncomputable def fdivLD : D → D → Option D
  | .int i, .int j => cI (j ≠ 0) (some (.int (i.fdiv j))) none
  | _, _ => none
section
variable {X : Cx} {c : Cc}
theorem pylong_room {k : Nat} (hr : Rm k X.A) (NS : SeerK X.prog X.base) {pins : List (Addr × Obj)} {σ : L2.St} {H : Hp} {s : Shared} (I : Inv X pins σ H s) : PySem.PylongRoom (model X.prog X.w) X.A s := by
  have kp : ∀ b o, X.base.get? b = some o → s.heap.get? b = some o := fun b o e => (I.env0.bs b o e).1
  obtain ⟨env, l, hf, t⟩ := hr.top
  refine PySem.PylongRoom.of (I.ok.mod.nolimit.keeps kp) ?_ (PySem.SeerAt.of (NS.ns.keeps kp) NS.tree hf t.gen t.co t.bl t.gl)
  have := hr.dl
  show X.A.depth + 100 < recursionLimit
  omega
theorem op_fdivL {k : Nat} (hr : Rm k X.A) (NS : SeerK X.prog X.base) : OpR X (binaryOp .FloorDiv) (rI (fun _ j => j ≠ 0) fun i j => .int (i.fdiv j)) := by
  intro pins s σ H x y v u Q I rx ry h
  obtain ⟨i, j, rfl, rfl, hc, q⟩ := h
  obtain ⟨t, rfl⟩ := rx
  obtain ⟨t', rfl⟩ := ry
  exact floordiv_int hc ⟨.int (i.fdiv j), H, I.tok _, ⟨_, rfl⟩, q⟩ (.inr (pylong_room hr NS I))
theorem fdivL_data {k : Nat} (hr : Rm k X.A) (NS : SeerK X.prog X.base) : OpR X (binaryOp .FloorDiv) (rD2 c.K fdivLD) := opr_cq (op_fdivL hr NS) fun x y H Q ⟨F, d, e, z, fh, dx, dy, hz, q⟩ => by
  cases dx with
  | int i =>
    cases dy with
    | int j =>
      have hz : (if j ≠ 0 then some (PyData.int (i.fdiv j)) else none) = some z := by
        rw [← cI_eq]
        exact hz
      split at hz
      · rename_i hm
        cases hz
        exact ⟨i, j, rfl, rfl, hm, q _ F H (.inl ⟨rfl, rfl⟩) (.int _)⟩
      · cases hz
    | _ => cases hz
  | _ => cases hz
end
end Pu
namespace Pu
open PySem PySem.Spec PyProof.Rows L2
variable [TabT]
/-! ### f(x, ..) that lends an owned list x and hands further values -/
noncomputable def cCallBn (i : Nat) (f : List Sl → Re RV) (ms : M (List D)) : M RV := fun r => match getC i r with
  | some _ => (match ms r with
    | .ok es r1 => (match r1[i]? with
      | some (.o (.l ds)) => (match f (.v (.list ds) :: es.map .v) with
        | .ok rv _ => cI (noLR rv = true) (.ok rv r1) .no
        | _ => .no)
      | _ => .no)
    | _ => .no)
  | none => .no
end Pu
namespace Pu
open PySem PySem.Spec PyProof.Rows L2
variable [TabT]
/-! ### sorted(xs) of a list of data, any number -/
noncomputable def sortAD : D → Option (List D)
  | .list ds => cI (ds.length ≤ 1) (some ds) (cI (PySem.W.AllAlike ds ∧ PySem.W.Sortable ds ∧ ∀ d ∈ ds, SeqAt.shaped d = true) (some (ds.mergeSort (PySem.W.dataLe false id))) none)
  | _ => none
noncomputable def sortAL : List D → Option (List D)
  | [d] => sortAD d
  | _ => none
theorem vals_ap {K : PySem.W.Frag} {F : Hp} {R : Value → (D × V) → Prop} (hR : ∀ v b, R v b → RelV b.2 v ∧ Rp K F b.2 b.1) : ∀ {out : List Value} {bs : List (D × V)}, PySem.W.EachIs R out bs → Vals (bs.map (·.2)) out ∧ RpAll K F (bs.map (·.2)) (bs.map (·.1))
  | _, _, .nil => ⟨.nil, .nil⟩
  | _, _, .cons h t => by
    obtain ⟨h1, h2⟩ := hR _ _ h
    obtain ⟨g1, g2⟩ := vals_ap hR t
    exact ⟨.cons h1 g1, .cons h2 g2⟩
theorem ap_vals {K : PySem.W.Frag} {F : Hp} : ∀ {vs : List Value} {xs : List V} {ds : List D}, Vals xs vs → RpAll K F xs ds → PySem.W.EachIs (fun (v : Value) (b : D × V) => RelV b.2 v ∧ Rp K F b.2 b.1) vs (ds.zip xs)
  | _, _, _, .nil, .nil => .nil
  | _, _, _, .cons h t, .cons g q => .cons ⟨h, g⟩ (ap_vals t q)
theorem zipd_fst {ds : List D} {xs : List V} (h : xs.length = ds.length) : (ds.zip xs).map (·.1) = ds := List.map_fst_zip (by omega)
theorem perm_small {α : Type} : ∀ {l m : List α}, l.Perm m → m.length ≤ 1 → l = m
  | l, [], h, _ => h.eq_nil
  | l, [x], h, _ => List.perm_singleton.mp h
  | l, x :: y :: t, _, h => by simp at h
section
variable {X : Cx} {c : Cc}
theorem call_sortedA {k : Nat} (hr : Rm k X.A) (hK : c.K = X.K := by rfl) : CallR X (.builtin "sorted") (rDAo c.K sortAL) := by
  classical
  intro pins s σ H vs us Q I r h
  obtain ⟨F, ds, z, fh, dps, hz, q⟩ := h
  have hz : ∃ d, ds = [d] ∧ sortAD d = some z := by
    unfold sortAL at hz
    split at hz
    · exact ⟨_, rfl, hz⟩
    · cases hz
  obtain ⟨d, rfl, hz⟩ := hz
  obtain ⟨v, rfl, dp⟩ := rpa_one dps
  cases dp with
  | @lst a xs ds h1 h2 =>
    rw [Vals.ref1 r]
    obtain ⟨its, rv, hl, hlz⟩ := I.list (by rw [← hK]; exact fh.l h1)
    have lxd := dpa_len h2
    have hz : cI (ds.length ≤ 1) (some ds) (cI (PySem.W.AllAlike ds ∧ PySem.W.Sortable ds ∧ ∀ d ∈ ds, SeqAt.shaped d = true) (some (ds.mergeSort (PySem.W.dataLe false id))) none) = some z := hz
    have fin : ∀ (out : Array Value) (ys : List V), ys.length ≤ sizeLine → Vals ys out.toList → RpAll c.K F ys z → EP X pins σ Q (.ref (s.heap.objs.size + 1)) { s with heap := sortedAll s.heap its out } := fun out ys hys h3 h4 => by
      obtain ⟨ep, he'⟩ := PyProof.Rows.sortedAll_at s.heap its out
      exact ⟨.ref _, upd H (s.heap.objs.size + 1) (.lst ys), I.laid (t' := s.toks) (fun _ _ => PyProof.Rows.sortedAll_old) (Nat.le_succ _) ⟨hys, out.toList, ep, h3, he'⟩, rfl, q _ _ (I.hok.fresh (Nat.le_succ _)) h4⟩
    rw [cI_eq] at hz
    by_cases h11 : ds.length ≤ 1
    · rw [if_pos h11] at hz
      cases hz
      have lv := rv.length
      have key : ∀ out : List Value, SrtO.Srtd SrtO.ltIv out → SrtO.Stb SrtO.ltIv out its → EP X pins σ Q (.ref (s.heap.objs.size + 1)) { s with heap := sortedAll s.heap its out.toArray } := fun out _ hb => by
        have eo : out = its := perm_small hb.perm (by omega)
        subst eo
        exact fin out.toArray xs hlz (by simpa using rv) h2
      exact SrtO.sorted_ord (E := X.xe) SrtO.swo_int hl.isList (by rw [← rv.length]; exact hlz) (fun h2' _ _ _ _ => by omega) key
    · rw [if_neg h11, cI_eq] at hz
      split at hz
      · rename_i hc
        obtain ⟨hal, hso, hsh⟩ := hc
        cases hz
        have hzf := zipd_fst (ds := ds) (xs := xs) lxd
        have er : PySem.W.EachIs (fun (v : Value) (b : D × V) => ∃ as, Reads s.heap v (b.1) as) its (ds.zip xs) := by
          have base := ap_vals (K := c.K) (F := F) rv h2
          have go : ∀ {vs : List Value} {bs : List (D × V)}, PySem.W.EachIs (fun (v : Value) (b : D × V) => RelV b.2 v ∧ Rp c.K F b.2 b.1) vs bs → (∀ b ∈ bs, SeqAt.shaped b.1 = true) → PySem.W.EachIs (fun (v : Value) (b : D × V) => ∃ as, Reads s.heap v (b.1) as) vs bs := by
            intro vs bs e
            induction e with
            | nil => intro _; exact .nil
            | @cons v b as bs hvb _ ih =>
              intro hall
              refine .cons ?_ (ih fun b hb => hall b (List.mem_cons_of_mem _ hb))
              have hdp : Dp X.K H b.2 b.1 := by
                rw [← hK]
                exact rp_dp (dp_mono fh hvb.2) (hall b (List.mem_cons_self ..))
              exact Dp.reads I b.1 b.2 v hdp hvb.1
          exact go base fun b hb => hsh b.1 (List.of_mem_zip (a := b.1) (b := b.2) hb).1
        have p1 : PySem.W.AllAlike ((ds.zip xs).map fun b : D × V => b.1) := by rw [show (ds.zip xs).map (fun b : D × V => b.1) = ds from hzf]; exact hal
        have p2 : PySem.W.Sortable ((ds.zip xs).map fun b : D × V => b.1) := by rw [show (ds.zip xs).map (fun b : D × V => b.1) = ds from hzf]; exact hso
        have p3 : (ds.zip xs).length ≤ sizeLine := by
          rw [List.length_zip]
          exact Nat.le_trans (Nat.min_le_right _ _) hlz
        refine PySem.W.sorted_data (prog := X.prog) (w := X.w) (A := X.A) (E := X.xe) (s := s) (vs := its) (bs := ds.zip xs) (l := a) (Q := EP X pins σ Q) (enc := fun b : D × V => b.1) (R := fun v b => RelV b.2 v ∧ Rp c.K F b.2 b.1) hl.isList (ap_vals rv h2) er p1 p2 p3 (fun b hb => ?_) fun out hlen ho => ?_
        · have h64 := SeqAt.depth_of_shaped (hsh b.1 (List.of_mem_zip (a := b.1) (b := b.2) hb).1)
          have := hr.u150
          omega
        · obtain ⟨g1, g2⟩ := vals_ap (K := c.K) (F := F) (fun _ _ h => h) ho
          have em : ((ds.zip xs).mergeSort (PySem.W.dataLe false fun b : D × V => b.1)).map (·.1) = ds.mergeSort (PySem.W.dataLe false id) := by
            refine (List.map_mergeSort (r := PySem.W.dataLe false fun b : D × V => b.1) (s := PySem.W.dataLe false id) (f := fun b : D × V => b.1) (l := ds.zip xs) fun a _ b _ => rfl).trans ?_
            rw [show (ds.zip xs).map (fun b : D × V => b.1) = ds from hzf]
          rw [em] at g2
          refine fin _ _ ?_ (by simpa using g1) g2
          rw [List.length_map, List.length_mergeSort, List.length_zip]
          omega
      · cases hz
  | _ => cases hz
/-! ### {k: v}, the key a tuple -/
def oDictT1 (mk mv : M D) : M RV := mk.bind fun kd => mv.bind fun d => M.opt ((tkeyD kd).map fun y => .o (.t [(y, d)]))
/-! ### k in d, k not in d: an owned dict -/
def eInS (i : Nat) (mk : M D) : M D := mk.bind fun kd r => match getC i r with
  | some (.t kvs) => (match tkeyD kd with
    | some y => .ok (.bool (vK kvs y).isSome) r
    | none => .no)
  | some (.d kvs) => (match keyD kd with
    | some y => .ok (.bool (vK kvs y).isSome) r
    | none => .no)
  | _ => .no
def eNinS (i : Nat) (mk : M D) : M D := mk.bind fun kd r => match getC i r with
  | some (.t kvs) => (match tkeyD kd with
    | some y => .ok (.bool (!(vK kvs y).isSome)) r
    | none => .no)
  | some (.d kvs) => (match keyD kd with
    | some y => .ok (.bool (!(vK kvs y).isSome)) r
    | none => .no)
  | _ => .no
theorem tb_ok {m : M D} {st : L2.St} {H : Hp} {Q : Bool → Hp → Prop} (h : tT c (tBool m) st H Q) : tM c m st H fun v H' => ∃ b, v = .bl b ∧ Q b H' := by
  obtain ⟨pa, H0, F0, F, r, ok, po⟩ := h
  refine seqM ok po fun d r1 F1 H1 v k1 e1 dp q => ?_
  obtain ⟨b, hb, q⟩ := opt_po q
  cases dp with
  | bl b' =>
    cases hb
    exact ⟨_, rfl, q F1 H1 k1 e1⟩
  | _ => cases hb
/-! ### sum of a list or a tuple of ints -/
def sumAD : D → Option D
  | .list ds => (intsOf ds).map fun ns => .int ns.sum
  | .tuple ds => (intsOf ds).map fun ns => .int ns.sum
  | _ => none
/-! ### min, max of a list of ints -/
theorem maxOf_eqm (x : Int) (xs : List Int) : PySem.W.maxOf x xs = xs.foldl (fun a y => max a y) x := by
  unfold PySem.W.maxOf
  induction xs generalizing x with
  | nil => rfl
  | cons y ys ih =>
    rw [List.foldl_cons, List.foldl_cons]
    have e : (if PySem.W.DatumOrd.lt x y = true then y else x) = max x y := by
      by_cases h : x < y
      · rw [if_pos (show PySem.W.DatumOrd.lt x y = true from decide_eq_true h)]
        omega
      · rw [if_neg (show ¬ PySem.W.DatumOrd.lt x y = true from fun z => h (of_decide_eq_true z))]
        omega
    rw [e]
    exact ih (max x y)
def maxL : D → Option D
  | .list ds => (intsOf ds).bind fun ns => (match ns with
    | [] => none
    | x :: xs => some (.int (xs.foldl (fun a y => max a y) x)))
  | _ => none
theorem maxL_data (hu : X.A.units + 65 < cLine) (hK : c.K = X.K := by rfl) (hc : X.calm = true := by rfl) : CallR X (.builtin "max") (rDA c.K (one maxL)) := by
  intro pins s σ H vs us Q I r h
  obtain ⟨F, ds, z, fh, dps, hz, q⟩ := h
  obtain ⟨d, rfl, hz2⟩ := one_some hz
  clear hz
  obtain ⟨v, rfl, dp⟩ := rpa_one dps
  unfold maxL at hz2
  split at hz2
  · rename_i es
    cases ei : intsOf es with
    | none =>
      rw [ei] at hz2
      cases hz2
    | some ns =>
      rw [ei] at hz2
      cases ns with
      | nil => cases hz2
      | cons x xs =>
        cases hz2
        rw [intsOf_some ei] at dp
        cases dp with
        | @lst a ws _ g1 g2 =>
          have e := rpa_ints g2
          subst e
          rw [Vals.ref1 r]
          obtain ⟨its, rv, hl, hlz⟩ := I.list (by rw [← hK]; exact fh.l g1)
          have da : DpAll X.K H ((x :: xs).map V.int) ((x :: xs).map PyData.int) := rpa_dpa0 (dpa_ints (x :: xs)) (PyData.hasDict_of_canLay (.list ((x :: xs).map .int)) (lay0 (x :: xs)))
          obtain ⟨as, rs⟩ := Dp.readsAll I _ _ its da rv
          have HA : PySem.W.HoldAll s.heap its.toArray.toList (x :: xs) := ⟨as, rs⟩
          have dpt : PySem.W.Datum.depth Int ≤ 60 := by decide
          refine PySem.W.max_list_datum (I.ok.hd hc) hl.isList HA (by omega) fun i v h' tk hi hv kp => ?_
          obtain ⟨bs, hr⟩ := hv
          rw [maxOf_eqm] at hr
          have hr : Reads h' v (.int (xs.foldl (fun a y => max a y) x)) bs := hr
          cases hr with
          | int k t => exact ⟨.int _, H, I.kept (t' := tk) kp, ⟨t, rfl⟩, q _ F H (.inl ⟨rfl, rfl⟩) (.int _)⟩
  · cases hz2
end
end Pu
namespace Pu
open PySem PySem.Spec PyProof.Rows L2
variable [TabT]
section
variable {X : Cx} {c : Cc}
/-! ### e in x, e not in x for an owned list x, which stays owned -/
noncomputable def eInLS (i : Nat) (mk : M D) : M D := mk.bind fun kd r => match getC i r with
  | some (.l ds) => M.opt (inD kd (.list ds)) r
  | _ => .no
noncomputable def eNinLS (i : Nat) (mk : M D) : M D := mk.bind fun kd r => match getC i r with
  | some (.l ds) => M.opt (ninD kd (.list ds)) r
  | _ => .no
end
@[simp] theorem eInLS_ap (i : Nat) (mk : M D) (r : En) : eInLS i mk r = (mk r).bind fun kd r => (match getC i r with
  | some (.l ds) => M.opt (inD kd (.list ds)) r
  | _ => .no) := rfl
@[simp] theorem eNinLS_ap (i : Nat) (mk : M D) (r : En) : eNinLS i mk r = (mk r).bind fun kd r => (match getC i r with
  | some (.l ds) => M.opt (ninD kd (.list ds)) r
  | _ => .no) := rfl
end Pu
namespace Pu
open PySem PySem.Spec PyProof.Rows L2
variable [TabT]
/-! ### dict(a list of pairs whose keys are tuples) -/
abbrev QP := Addr × List Key × Addr × V
def mergeT (kvs more : List (List Key × V)) : List (List Key × V) := more.foldl (fun acc kv => putK acc kv.1 kv.2) kvs
theorem len_putK {κ : Type} [DecidableEq κ] (kvs : List (κ × V)) (k : κ) (v : V) : (putK kvs k v).length ≤ kvs.length + 1 := by
  unfold putK
  split <;> simp
theorem len_mergeT : ∀ (more kvs : List (List Key × V)), (mergeT kvs more).length ≤ kvs.length + more.length
  | [], kvs => by simp [mergeT]
  | p :: more, kvs => by
    have := len_mergeT more (putK kvs p.1 p.2)
    have := len_putK kvs p.1 p.2
    show (mergeT (putK kvs p.1 p.2) more).length ≤ _
    simp
    omega
theorem kt_all {H : Hp} : ∀ (qs : List QP) (prs : List (List Key × Addr × Value)) (kvs : List (List Key × V)) (xs : List (List Key × Addr × Value)), Paired (fun (q : QP) (p : List Key × Addr × Value) => q.2.1 = p.1 ∧ q.2.2.1 = p.2.1 ∧ H p.2.1 = some (.tup (p.1.map kV)) ∧ RelV q.2.2.2 p.2.2) qs prs → KT H kvs xs → KT H (mergeT kvs (qs.map fun q => (q.2.1, q.2.2.2))) (PySem.storedAllH xs prs)
  | _, _, kvs, xs, .nil, r => r
  | _, _, kvs, xs, .cons (a := q) (b := p) h t, r => by
    obtain ⟨e1, e2, hb, rv⟩ := h
    have h1 := KT.put r q.2.1 (b := p.2.1) (by rw [e1]; exact hb) rv
    have h2 := kt_all _ _ _ _ t h1
    show KT H (mergeT (putK kvs q.2.1 q.2.2.2) (List.map (fun q : QP => (q.2.1, q.2.2.2)) _)) (PySem.storedAllH (storedH xs p.1 p.2.1 p.2.2) _)
    rw [← e1]
    exact h2
section
variable {X : Cx}
theorem prs_of {pins : List (Addr × Obj)} {σ : L2.St} {H : Hp} {s : Shared} (I : Inv X pins σ H s) : ∀ {qs : List QP}, (∀ q ∈ qs, SqT X.K H q.1 [.ref q.2.2.1, q.2.2.2] ∧ H q.2.2.1 = some (.tup (q.2.1.map kV))) →
    ∃ prs : List (List Key × Addr × Value), Paired (fun (q : QP) (p : List Key × Addr × Value) => q.2.1 = p.1 ∧ q.2.2.1 = p.2.1 ∧ H p.2.1 = some (.tup (p.1.map kV)) ∧ RelV q.2.2.2 p.2.2) qs prs ∧ prs.length = qs.length ∧ ∀ (j : Nat) (p : List Key × Addr × Value), prs[j]? = some p → ∃ q, qs[j]? = some q ∧ IsTup s.heap q.1 #[.ref p.2.1, p.2.2] ∧ (tupleKind (mixKind X.prog X.w)).is s.heap p.1 p.2.1
  | [], _ => ⟨[], .nil, rfl, fun j p e => by simp at e⟩
  | q :: qs, h => by
    obtain ⟨prs, r, hl, hp⟩ := prs_of I (qs := qs) fun x hx => h x (List.mem_cons_of_mem _ hx)
    obtain ⟨h1, h2⟩ := h q (List.mem_cons_self ..)
    obtain ⟨its, rv, ht, _⟩ := I.tuple h1
    obtain ⟨u, y, ei, ru, ry⟩ := vals2 rv
    subst ei
    cases ru
    refine ⟨(q.2.1, q.2.2.1, y) :: prs, .cons ⟨rfl, rfl, h2, ry⟩ r, by rw [List.length_cons, List.length_cons, hl], fun j p e => ?_⟩
    cases j with
    | zero =>
      have e' : (q.2.1, q.2.2.1, y) = p := Option.some.inj e
      subst e'
      exact ⟨q, rfl, ht, key_of I.hok h2⟩
    | succ j =>
      obtain ⟨q', e1, e2, e3⟩ := hp j p (by simpa using e)
      exact ⟨q', by simpa using e1, e2, e3⟩
theorem call_dictPT (hcalm : X.calm = true) (hu : X.A.units + 3 < cLine) : CallR X (.type "dict") (fun xs H Q => ∃ (a : Addr) (qs : List QP), xs = [.ref a] ∧ SqL X.K H a (qs.map fun q => V.ref q.1) ∧ (∀ q ∈ qs, SqT X.K H q.1 [.ref q.2.2.1, q.2.2.2] ∧ H q.2.2.1 = some (.tup (q.2.1.map kV))) ∧
    ∀ p, H p = none → Q (.ref p) (upd H p (.dT (mergeT [] (qs.map fun q => (q.2.1, q.2.2.2)))))) := by
  intro pins s σ H xs us Q I r q
  obtain ⟨a, qs, ex, hq, hp, q⟩ := q
  subst ex
  obtain ⟨u, eu, rx⟩ := vals1 r
  subst eu
  cases rx
  obtain ⟨its, rv, pl, hz⟩ := I.list hq
  have ei : its = (qs.map (·.1)).map Value.ref := refs_at (by rw [List.map_map]; exact rv)
  subst ei
  rw [List.length_map] at hz
  obtain ⟨prs, rel, hl, hpr⟩ := prs_of I hp
  have PA := PySem.PairArg.list (prog := X.prog) (w := X.w) a ((qs.map (·.1)).map Value.ref).toArray (fun j => ((qs[j]?).map (·.1)).getD 0) (prs.map fun x => (Value.ref x.2.1, x.2.2))
  have ok : PySem.PlainSeq "list" s.heap a ((qs.map (·.1)).map Value.ref).toArray ∧ PySem.PairItems s.heap ((qs.map (·.1)).map Value.ref).toArray (fun j => ((qs[j]?).map (·.1)).getD 0) (prs.map fun x => (Value.ref x.2.1, x.2.2)) := by
    refine ⟨?_, by simp [hl], fun j k v e => ?_⟩
    · obtain ⟨o, n, ho, hc, hd, hdat⟩ := pl
      exact ⟨o, n, ho, hc, hd, hdat⟩
    · rw [List.getElem?_map] at e
      obtain ⟨p, e1, e2⟩ := Option.map_eq_some_iff.mp e
      obtain ⟨q', e3, e4, _⟩ := hpr j p e1
      cases e2
      refine ⟨by simp [e3], .inl ?_⟩
      show s.heap.IsTuple (((qs[j]?).map (·.1)).getD 0) _
      rw [e3]
      exact e4
  refine PySem.call_dict_pairsH (knd := tupleKind (mixKind X.prog X.w)) (ps := prs) PA (I.ok.hd hcalm) ?_ ok ⟨by simp, fun i key v e => ?_⟩ (fun h' hk x hx => ?_) (by simp [hl]; exact hz) fun h' tk hd' k => ?_
  · exact tupleKind_room_in1 (by show X.A.units + 1 + 1 < cLine; omega)
  · have e : (prs.map fun x => (Value.ref x.2.1, x.2.2))[i]? = some (key, v) := e
    rw [List.getElem?_map] at e
    obtain ⟨p, e1, e2⟩ := Option.map_eq_some_iff.mp e
    cases e2
    exact ⟨p.1, p.2.1, e1, rfl⟩
  · obtain ⟨j, hj, e⟩ := List.mem_iff_getElem.mp hx
    obtain ⟨_, _, _, o, its, n, h1, h2⟩ := hpr j x (by rw [List.getElem?_eq_getElem hj, e])
    exact ⟨o, its, n, hk _ _ (Nat.ne_of_lt (Heap.lt_size h1)) (by simp) h1, h2⟩
  · have hm : (s.heap.objs.size == sysModules) = false := beq_eq_false_iff_ne.mpr (Nat.ne_of_gt I.big)
    have hlen : (mergeT [] (qs.map fun q => (q.2.1, q.2.2.2))).length ≤ sizeLine := by
      refine Nat.le_trans (len_mergeT _ _) ?_
      simpa using hz
    obtain ⟨o, es, ep, d1, d2, d3, d4, d5, d6⟩ := hd'
    have hfr := I.hok.fresh (Nat.le_refl s.heap.objs.size)
    have kt : KT H (mergeT [] (qs.map fun q => (q.2.1, q.2.2.2))) (PySem.storedAllH [] prs) := kt_all qs prs [] [] rel .nil
    refine ⟨.ref s.heap.objs.size, upd H s.heap.objs.size (.dT (mergeT [] (qs.map fun q => (q.2.1, q.2.2.2)))), I.laid (t' := tk) (fun b o e => k b o (by simp) e) (Nat.le_refl _) ⟨hlen, hm, PySem.storedAllH [] prs, KT.keeps kt fun b ys e => by rw [upd_ne (ne_of_none e hfr)]; exact e, o, es, ep, d1, d2, d3, d4, d6⟩, rfl, q _ hfr⟩
variable {c : Cc}
def pairT : D → Option (List Key × D)
  | .tuple [k, v] => (tkeyD k).map fun y => (y, v)
  | _ => none
def pairsT : List D → Option (List (List Key × D))
  | [] => some []
  | d :: ds => (pairT d).bind fun p => (pairsT ds).map fun ps => p :: ps
theorem kvT_merge {K : PySem.W.Frag} {F : Hp} : ∀ {ls : List (List Key × V)} {lvs : List (List Key × D)}, KvAll K F ls lvs → ∀ {ks : List (List Key × V)} {kvs : List (List Key × D)}, KvAll K F ks kvs → KvAll K F (mergeT ks ls) (lvs.foldl (fun acc kv => pK acc kv.1 kv.2) kvs)
  | _, _, .nil, _, _, h => h
  | _, _, .cons r t, _, _, h => kvT_merge t (kv_put h r)
theorem qs_of {K : PySem.W.Frag} {F : Hp} : ∀ {us : List V} {xs : List D} {kvs : List (List Key × D)}, RpAll K F us xs → pairsT xs = some kvs → ∃ qs : List QP, us = qs.map (fun q => V.ref q.1) ∧ (∀ q ∈ qs, SqU F q.1 [.ref q.2.2.1, q.2.2.2] ∧ F q.2.2.1 = some (.tup (q.2.1.map kV))) ∧ KvAll K F (qs.map fun q => (q.2.1, q.2.2.2)) kvs
  | _, _, kvs, .nil, h => by
    cases h
    exact ⟨[], rfl, (fun q hq => by cases hq), KvAll.nil⟩
  | _, _, kvs, .cons (d := d) (ds := ds) h t, e => by
    have e : (pairT d).bind (fun p => (pairsT ds).map fun ps => p :: ps) = some kvs := e
    obtain ⟨p, hp, e⟩ := Option.bind_eq_some_iff.mp e
    obtain ⟨ps, hps, rfl⟩ := Option.map_eq_some_iff.mp e
    obtain ⟨qs, h1, h2, h3⟩ := qs_of t hps
    cases h with
    | @tup a xs es g1 g2 =>
      match es, g2, hp with
      | [k, v], .cons gk (.cons gv .nil), hp =>
        obtain ⟨y, hy, rfl⟩ := Option.map_eq_some_iff.mp hp
        obtain ⟨b, rfl, hb⟩ := rp_tkey gk hy
        refine ⟨(a, y, b, _) :: qs, by rw [h1]; rfl, fun q hq => ?_, .cons gv h3⟩
        rcases List.mem_cons.mp hq with rfl | hq
        · exact ⟨g1, hb⟩
        · exact h2 q hq
      | [], _, hp => cases hp
      | [_], _, hp => cases hp
      | _ :: _ :: _ :: _, _, hp => cases hp
    | _ => cases hp
def dictP : List D → Option (List (List Key × D))
  | [.list xs] => (pairsT xs).map fun kvs => kvs.foldl (fun acc kv => pK acc kv.1 kv.2) []
  | _ => none
def oDictP (ms : M (List D)) : M RV := ms.bind fun ds => M.opt ((dictP ds).map fun kvs => .o (.t kvs))
theorem o_dictP {x : Str} {e : Expr} {p pos : Pos} {ms : M (List D)} (hm : X.mg x = none) (ha : PA X [e] (tA c ms)) (hu : X.A.units + 3 < cLine) (hK : c.K = X.K := by rfl) (hc : X.calm = true := by rfl) (hg : Gl X x := by rfl) (hv : bootBuiltins x = some (.type "dict") := by decide +kernel) (hn : x ≠ "__name__" := by decide) (hdb : (x == ("__debug__" : Str)) = false := by decide)
    (he : starEach [e] X.env = [(false, eval e X.env)] := by rfl) (hpl : (backTo pos (starEach [] X.env)).any (·.1) = false := by rfl) : PE X (.Call (.Name x p) [e] [] pos) (tO c (oDictP ms)) :=
  pe_cq (pe_callTy (call_dictPT hc hu) hg hm hv ha hn hdb he hpl) fun _ _ _ ⟨pa, H0, F0, F, r, ok, po⟩ => seqA ok po fun ds r1 F1 H1 vs k1 e1 dps q => by
    obtain ⟨z, hz0, q3⟩ := opt_po q
    obtain ⟨kvs, hz, ez⟩ := Option.map_eq_some_iff.mp hz0
    clear hz0
    subst ez
    match ds, dps, hz with
    | [.list xs], .cons (.lst (a := a) (xs := us) g1 g2) .nil, hz =>
      obtain ⟨lvs, hl, ek⟩ := Option.map_eq_some_iff.mp hz
      subst ek
      obtain ⟨qs, rfl, h2, h3⟩ := qs_of g2 hl
      refine ⟨a, qs, rfl, by rw [← hK]; exact k1.fH.l g1, fun q hq => ?_, fun p np => ?_⟩
      · obtain ⟨z1, z2⟩ := h2 q hq
        exact ⟨(k1.fH.u z1).s, k1.fH.u z2⟩
      · exact q3 F1 _ _ (k1.lay np) e1 ⟨p, rfl, k1.fH.nn np, k1.hH.nn np, ⟨_, upd_same, kvT_merge h3 .nil⟩, .t (k1.nobody np).upd⟩
    | [], _, hz => cases hz
    | [.none], _, hz => cases hz
    | [.bool _], _, hz => cases hz
    | [.int _], _, hz => cases hz
    | [.str _], _, hz => cases hz
    | [.tuple _], _, hz => cases hz
    | [.dict _], _, hz => cases hz
    | _ :: _ :: _, _, hz => simp [dictP] at hz
end
@[simp] theorem oDictP_ap (ms : M (List D)) (r : En) : oDictP ms r = (ms r).bind fun ds => M.opt ((dictP ds).map fun kvs => RV.o (.t kvs)) := rfl
end Pu
namespace Pu
open PySem PySem.Spec PyProof.Rows L2
variable [TabT]
/-! ### f(.., x) that lends an owned x as the last value -/
section
variable {X : Cx} {c : Cc} {k n : Nat} {x : Str} {f : List Sl → Re RV} {e : Expr} {es : List Expr} {p pos : Pos} {ms : M (List D)}
def cCallZ (i : Nat) (f : List Sl → Re RV) (m1 m2 : M D) : M RV := fun r => match getC i r with
  | none => .no
  | some _ => (m1 r).bind fun d1 r => (m2 r).bind fun d2 r => match getC i r with
    | some ct => (match f [.v d1, .v d2, .io ct] with
      | .ok rv z => (match (z[2]? : Option Sl) with
        | some (Sl.io ct') => .ok rv (putC i ct' r)
        | _ => .no)
      | .ex e z => (match (z[2]? : Option Sl) with
        | some (Sl.io ct') => .ex e (putC i ct' r)
        | _ => .no)
      | .no => .no)
    | none => .no
theorem Rm.in3 {k : Nat} {A : Around} (hr : Rm k A) : A.units + 3 < cLine := by
  have := hr.in65
  omega
/-! ### e in x, x data or a dict with tuple keys of one's own -/
noncomputable def eInX (i : Nat) (mk : M D) : M D := fun r => match getC i r with
  | some (.t _) => eInS i mk r
  | none => bin inD mk (getS i) r
  | _ => .no
end
@[simp] theorem eInX_ap (i : Nat) (mk : M D) (r : En) : eInX i mk r = (match getC i r with
  | some (.t _) => eInS i mk r
  | none => bin inD mk (getS i) r
  | _ => .no) := rfl
@[simp] theorem cCallZ_ap (i : Nat) (f : List Sl → Re RV) (m1 m2 : M D) (r : En) : cCallZ i f m1 m2 r = (match getC i r with
  | none => .no
  | some _ => (m1 r).bind fun d1 r => (m2 r).bind fun d2 r => match getC i r with
    | some ct => (match f [.v d1, .v d2, .io ct] with
      | .ok rv z => (match (z[2]? : Option Sl) with
        | some (Sl.io ct') => .ok rv (putC i ct' r)
        | _ => .no)
      | .ex e z => (match (z[2]? : Option Sl) with
        | some (Sl.io ct') => .ex e (putC i ct' r)
        | _ => .no)
      | .no => .no)
    | none => .no) := rfl
end Pu
namespace Pu
open PySem PySem.Spec PyProof.Rows L2
variable [TabT]
/-! ### any of a tuple of ints -/
section
variable {X : Cx} {c : Cc}
def anyAD : D → Option D
  | .list ds => (boolsOf ds).map fun bs => .bool (bs.any id)
  | .tuple ds => (intsOf ds).map fun ns => .bool (ns.any fun n => n != 0)
  | _ => none
end
@[simp] theorem anyAD_b (ds : List D) : anyAD (.list ds) = (boolsOf ds).map fun bs => .bool (bs.any id) := rfl
end Pu
namespace Pu
open PySem PySem.Spec PyProof.Rows L2
/-! ### max of a tuple of ints -/
end Pu
namespace Pu
open PySem PySem.Spec PyProof.Rows L2
/-! ### repr of tuples that hold {} -/
end Pu
namespace Pu
open PySem PySem.Spec PyProof.Rows L2
variable [TabT]
/-! ### lists with lists of one's own within -/
/-- the items of an owned list -/
def asNl : Ct → Option (List Im)
  | .l ds => some (ds.map .v)
  | .n (.l its) => some its
  | _ => none
def imOf : RV → Option Im
  | .v d => some (.v d)
  | .o (.l ds) => some (.l ds)
  | _ => none
section
variable {K : PySem.W.Frag} {F H : Hp} {a : Addr}
theorem ItAll.app : ∀ {vs ws : List V} {is js : List Im}, ItAll K F H vs is → ItAll K F H ws js → ItAll K F H (vs ++ ws) (is ++ js)
  | _, _, _, _, .nil, h => h
  | _, _, _, _, .cons h t, q => .cons h (t.app q)
end
/-! ### for y in x[lo:hi]: .., the inner lists lent one by one -/
section
variable {K : PySem.W.Frag} {pa : Nat → Addr} {H0 F0 F H F' H' : Hp} {st st2 : L2.St} {r r2 : En}
open Classical in
/-- the frame while an inner list is lent: the outer list, the other inner lists stand -/
noncomputable def LdK (H0 H : Hp) (a b : Addr) (t : Nt) : Hp := fun x => if x = a ∨ (Inn H a (.n t) x ∧ x ≠ b) then H x else H0 x
omit [TabT] in
theorem LdK.at_ {a b x : Addr} {t : Nt} (h : x = a ∨ (Inn H a (.n t) x ∧ x ≠ b)) : LdK H0 H a b t x = H x := if_pos h
/-- a new object joins what must stand -/
theorem Ok.inL (k : Ok K pa H0 F0 F H st r) {L : Addr} {o : HO} (n : H L = none) : Ok K pa (upd H0 L o) F0 F (upd H L o) st r := by
  have kl := k.lay (o := o) n
  have nF := k.fH.nn n
  refine kl.frame ⟨fun a u z nt => ?_, fun a ps z => ?_⟩ (fun a z1 z2 => ?_) (fun j s c a h1 h2 h3 => ?_)
  · by_cases ha : a = L
    · subst ha
      rw [upd_same] at z ⊢
      exact z
    · rw [upd_ne ha] at z ⊢
      exact k.hH.at_ a u z nt
  · by_cases ha : a = L
    · subst ha
      rw [upd_same] at z ⊢
      exact ⟨#[], by rw [Array.append_empty]; exact z⟩
    · rw [upd_ne ha] at z ⊢
      exact k.hH.tb a ps z
  · by_cases ha : a = L
    · subst ha
      exact absurd nF z2
    · rw [upd_ne ha] at z1
      exact k.sep a z1 z2
  · obtain ⟨na, ni⟩ := k.nobody n j s c a h1 h2 h3
    obtain ⟨a', g1, g2, g3, g4⟩ := k.ownd h1 h2
    rw [h3] at g1
    cases g1
    rw [upd_ne na]
    refine ⟨g3, fun b hb => ?_⟩
    have hb' := hb.cg (upd_ne na).symm
    have nb : b ≠ L := fun z => ni (z ▸ hb')
    rw [upd_ne nb]
    exact (k.inn j s c a b h1 h2 h3 hb').2.1
end
/-! ### x[k1][k2] = e, within a list of lists of one's own -/
/-- a number that is written, or in a slot -/
def ksV (k : Sum Int Nat) (r : En) : Option Int := match k with
  | .inl n => some n
  | .inr j => match r[j]? with
    | some (.v (.int n)) => some n
    | _ => none
end Pu
namespace Pu
open PySem PySem.Spec PyProof.Rows L2
variable [TabT]
/-! ### an object of one's own that is no slot's, kept while something else is reckoned -/
open Classical in
noncomputable def FrN (H0 H : Hp) (a : Addr) (t : Nt) : Hp := fun x => if x = a ∨ Inn H a (.n t) x then H x else H0 x
omit [TabT] in
theorem FrN.at_ {H0 H : Hp} {a x : Addr} {t : Nt} (h : x = a ∨ Inn H a (.n t) x) : FrN H0 H a t x = H x := if_pos h
section
variable {K : PySem.W.Frag} {pa : Nat → Addr} {H0 F0 F H F' H' F2 H2 : Hp} {st st2 : L2.St} {r r2 : En} {a : Addr} {its : List Im}
/-- one more item -/
theorem CtOk.more (h : CtOk K F H a (.n (.l its))) (aw : Away H0 F H st r a (.n (.l its))) {vs : List V} (hH : H a = some (.lst vs)) {v : V} {it : Im} (hv : ItOk K F H v it) (hw : ∀ b ds, v = .ref b → it = .l ds → F b = none ∧ H0 b = none ∧ a ≠ b ∧ ¬ Inn H a (.n (.l its)) b ∧ Nob H st r b) :
    CtOk K F (upd H a (.lst (vs ++ [v]))) a (.n (.l (its ++ [it]))) ∧ Away H0 F (upd H a (.lst (vs ++ [v]))) st r a (.n (.l (its ++ [it]))) := by
  obtain ⟨vs', h1, hit, hun⟩ := h
  have h1 : H a = some (.lst vs') := h1
  rw [hH] at h1
  cases h1
  have hit : ItAll K F H vs its := hit
  have innA : ∀ (j : Nat) (b : Addr), InnAt (upd H a (.lst (vs ++ [v]))) a (.n (.l (its ++ [it]))) j b → (j < vs.length ∧ InnAt H a (.n (.l its)) j b) ∨ (j = vs.length ∧ ∃ ds, v = .ref b ∧ it = .l ds) := fun j b ⟨us, ds, g1, g2, g3⟩ => by
    rw [upd_same] at g1
    cases g1
    have g3 : (its ++ [it])[j]? = some (.l ds) := g3
    by_cases hj : j < vs.length
    · rw [List.getElem?_append_left hj] at g2
      rw [List.getElem?_append_left (by rw [← hit.len]; exact hj)] at g3
      exact .inl ⟨hj, vs, ds, by rw [hH]; rfl, g2, g3⟩
    · have hj2 : j = vs.length := by
        have := (List.getElem?_eq_some_iff.mp g2).1
        rw [List.length_append, List.length_singleton] at this
        omega
      subst hj2
      rw [List.getElem?_append_right (Nat.le_refl _)] at g2
      rw [hit.len, List.getElem?_append_right (Nat.le_refl _)] at g3
      simp at g2 g3
      exact .inr ⟨rfl, ds, g2, g3⟩
  refine ⟨⟨vs ++ [v], upd_same, ?_, ?_⟩, aw.1.upd, fun b ⟨j, hb⟩ => ?_⟩
  · show ItAll K F (upd H a (.lst (vs ++ [v]))) (vs ++ [v]) (its ++ [it])
    refine ItAll.app (hit.mono (Ex.refl F) fun j b ds g1 g2 => upd_ne fun z => (aw.2 b ⟨j, vs, ds, by rw [hH]; rfl, g1, g2⟩).2.2.1 z.symm) (.cons ?_ .nil)
    cases it with
    | v d => exact hv
    | l ds =>
      obtain ⟨b, ws, rfl, g1, g2⟩ := hv
      obtain ⟨_, _, g3, _⟩ := hw b ds rfl rfl
      exact ⟨b, ws, rfl, (upd_ne g3.symm).trans g1, g2⟩
  · intro p1 p2 b ne g1 g2
    rcases innA p1 b g1 with ⟨l1, y1⟩ | ⟨rfl, ds1, y1, z1⟩ <;> rcases innA p2 b g2 with ⟨l2, y2⟩ | ⟨rfl, ds2, y2, z2⟩
    · exact hun p1 p2 b ne y1 y2
    · exact (hw b ds2 y2 z2).2.2.2.1 ⟨p1, y1⟩
    · exact (hw b ds1 y1 z1).2.2.2.1 ⟨p2, y2⟩
    · exact ne rfl
  · rcases innA j b hb with ⟨l1, y1⟩ | ⟨rfl, ds1, y1, z1⟩
    · obtain ⟨f1, f2, f3, f4⟩ := aw.2 b ⟨j, y1⟩
      exact ⟨f1, f2, f3, f4.cg fun i s c b' q1 q2 q3 => upd_ne (aw.1 i s c b' q1 q2 q3).1⟩
    · obtain ⟨f1, f2, f3, f4, f5⟩ := hw b ds1 y1 z1
      exact ⟨f1, f2, f3, f5.cg fun i s c b' q1 q2 q3 => upd_ne (aw.1 i s c b' q1 q2 q3).1⟩
/-- what is nobody's, behind a block -/
theorem Nob.back {is : List Nat} {q : En} (hn : noOwn r is = true) (h : Nob H (wipe st is) (wipeE q is) a) : Nob H st (backE r (wipeE q is) is) a := fun j s ct b hj hct hst => by
  rw [backE_get] at hj
  by_cases hji : j ∈ is
  · rw [if_pos hji] at hj
    split at hj
    · cases hj
      have hz := List.all_eq_true.mp hn j hji
      rw [List.getD_eq_getElem?_getD] at hct
      cases hr : r[j]? with
      | none =>
        rw [hr] at hz
        cases hz
      | some x =>
        rw [hr] at hz hct
        have hz : x.own.isNone = true := hz
        have hct : x.own = some ct := hct
        rw [hct] at hz
        cases hz
    · cases hj
  · rw [if_neg hji] at hj
    exact h j s ct b hj hct (by rw [wipe_get, if_neg hji]; exact hst)
end
/-! ### [e for x in xs], e a list of one's own -/
section
variable {X : Cx} {c : Cc}
/-! ### list(range(..)) -/
noncomputable def oListR (m : M D) : M RV := m.bind fun d r => match d with
  | .int n => cI (n ≤ 16777216 ∧ -1000000 ≤ n) (.ok (.o (.l (rngD 0 n.toNat))) r) .no
  | _ => .no
/-! ### x[k], x[l] = (d, e) -/
end
end Pu
namespace Pu
open PySem PySem.Spec PyProof.Rows L2
/-! ### repr(x), empty dicts within -/
mutual
inductive Gd (h : Heap) : Value → PyData → Prop
  | none : Gd h .none .none
  | bool (b) : Gd h (.bool b) (.bool b)
  | int (i t) : Gd h (.int i t) (.int i)
  | str (x t) : Gd h (.str x t) (.str x)
  | list {a : Addr} {o : Obj} {vs : Array Value} {n : Nat} {xs : List PyData} : h.get? a = some o → o.cls = .type "list" → o.data = .seq vs n → GdAll h vs.toList xs → Gd h (.ref a) (.list xs)
  | tuple {a : Addr} {o : Obj} {vs : Array Value} {n : Nat} {xs : List PyData} : h.get? a = some o → o.cls = .type "tuple" → o.data = .seq vs n → GdAll h vs.toList xs → Gd h (.ref a) (.tuple xs)
  | emp {a : Addr} {o : Obj} {es : Array DictEntry} {n : Nat} : h.get? a = some o → o.cls = .type "dict" → o.data = .dict es n → es.toList = [] → (a == sysModules) = false → Gd h (.ref a) (.dict [])
inductive GdAll (h : Heap) : List Value → List PyData → Prop
  | nil : GdAll h [] []
  | cons {v : Value} {vs : List Value} {d : PyData} {ds : List PyData} : Gd h v d → GdAll h vs ds → GdAll h (v :: vs) (d :: ds)
end
mutual
theorem Gd.reads {h : Heap} : ∀ {v : Value} {d : PyData}, Gd h v d → ∃ as, Reads h v d as
  | _, _, .none => ⟨_, .none⟩
  | _, _, .bool b => ⟨_, .bool b⟩
  | _, _, .int i t => ⟨_, .int i t⟩
  | _, _, .str x t => ⟨_, .str x t⟩
  | _, _, .list h1 h2 h3 h4 => by
    obtain ⟨as, r⟩ := GdAll.reads h4
    exact ⟨_, .list h1 h2 h3 r⟩
  | _, _, .tuple h1 h2 h3 h4 => by
    obtain ⟨as, r⟩ := GdAll.reads h4
    exact ⟨_, .tuple h1 h2 h3 r⟩
  | _, _, .emp h1 h2 h3 h4 _ => ⟨_, .dict (kvs := []) h1 h2 h3 (by rw [h4]; exact .nil) (by rw [h4]; exact .nil)⟩
theorem GdAll.reads {h : Heap} : ∀ {vs : List Value} {ds : List PyData}, GdAll h vs ds → ∃ as, ReadsAll h vs ds as
  | _, _, .nil => ⟨_, .nil⟩
  | _, _, .cons a b => by
    obtain ⟨as, r⟩ := Gd.reads a
    obtain ⟨bs, q⟩ := GdAll.reads b
    exact ⟨_, .cons r q⟩
end
mutual
def shE : PyData → Bool
  | .none | .bool _ | .int _ | .str _ => true
  | .list xs | .tuple xs => shEAll xs
  | .dict [] => true
  | .dict (_ :: _) => false
def shEAll : List PyData → Bool
  | [] => true
  | x :: xs => shE x && shEAll xs
end
variable [TabT]
end Pu
namespace Pu
open PySem PySem.Spec PyProof.Rows L2
end Pu
namespace Pu
open PySem PySem.Spec PyProof.Rows L2
/-! ### x[k].clear(), x a tuple of one's own with a list of one's own within -/
end Pu
namespace Pu
open PySem PySem.Spec PyProof.Rows L2
/-! ### objects of one's own lent as data while something is reckoned, and taken back -/
end Pu
namespace Pu
open PySem PySem.Spec PyProof.Rows L2
variable [TabT]
/-! ### a frozen dict with whole numbers as keys -/
/-- what stands at i -/
def fdG : List (D × D) → Int → Option D
  | [], _ => none
  | (.int j, d) :: r, i => if j = i then some d else fdG r i
  | _ :: _, _ => none
def ixKD : D → D → Option D
  | .dict dd, .int i => fdG dd i
  | _, _ => none
def inKD : D → D → Option D
  | .int i, .dict (x :: r) => some (.bool (fdG (x :: r) i).isSome)
  | _, _ => none
def ninKD : D → D → Option D
  | .int i, .dict (x :: r) => some (.bool (!(fdG (x :: r) i).isSome))
  | _, _ => none
def lenKD : D → Option D
  | .dict (x :: r) => some (.int ((x :: r).length : Nat))
  | _ => none
def keysKD : D → Option (List D)
  | .dict (x :: r) => some ((x :: r).map (·.1))
  | _ => none
def itemsKD : D → Option (List D)
  | .dict (x :: r) => some ((x :: r).map fun q => .tuple [q.1, q.2])
  | _ => none
theorem fdG_rp {K : PySem.W.Frag} {F : Hp} (i : Int) : ∀ {ks : List (Int × V)} {kv : List (Int × D)}, ks.map (·.1) = kv.map (·.1) → RpAll K F (ks.map (·.2)) (kv.map (·.2)) →
    (∃ v d, valV (ks.map fun p => ((Sum.inl p.1 : Key), p.2)) (.inl i) = some v ∧ fdG (kv.map fun q => (PyData.int q.1, q.2)) i = some d ∧ Rp K F v d) ∨
    (valV (ks.map fun p => ((Sum.inl p.1 : Key), p.2)) (.inl i) = none ∧ fdG (kv.map fun q => (PyData.int q.1, q.2)) i = none)
  | [], [], _, _ => .inr ⟨rfl, rfl⟩
  | [], _ :: _, h, _ => by cases h
  | _ :: _, [], h, _ => by cases h
  | p :: ks, q :: kv, h, r => by
    obtain ⟨h1, h2⟩ := List.cons.inj h
    have h1 : p.1 = q.1 := h1
    cases r with
    | cons r1 r2 =>
      by_cases e : p.1 = i
      · refine .inl ⟨p.2, q.2, ?_, ?_, r1⟩
        · rw [List.map_cons]
          exact valV_pos (by rw [e])
        · show (if q.1 = i then some q.2 else _) = _
          rw [if_pos (by rw [← h1]; exact e)]
      · have ih := fdG_rp i h2 r2
        rw [List.map_cons, List.map_cons, valV_neg (by intro z; exact e (Sum.inl.inj z))]
        have eg : fdG ((PyData.int q.1, q.2) :: kv.map fun q => (PyData.int q.1, q.2)) i = fdG (kv.map fun q => (PyData.int q.1, q.2)) i := by
          show (if q.1 = i then some q.2 else _) = _
          rw [if_neg (by rw [← h1]; exact e)]
        rw [eg]
        exact ih
section
variable {X : Cx} {c : Cc}
theorem e_ixK2 {o e : Expr} {mo me : M D} {pos : Pos} (ho : PE X o (tM c mo)) (he : PE X e (tM c me)) (hu : X.A.units + 1 < cLine) (hK : c.K = X.K := by rfl) (hs : NoSl e := by exact fun _ _ => rfl) : PE X (.Subscript o e pos) (tM c (bin ixKD mo me)) :=
  pe_cq (pe_dget hu ho he hs) fun st H Q ⟨pa, H0, F0, F, r, ok, po⟩ => seqM ok po fun d r1 F1 H1 v k1 e1 dp q => by
    have q := Po.bind (show Po _ ((me.bind fun b => M.opt (ixKD d b)) r1) _ from q)
    refine ⟨pa, H0, F0, F1, r1, k1, q.mono (fun _ _ x => x) fun b r2 q F2 H2 w k2 e2 dq => ?_⟩
    obtain ⟨z, hz, q2⟩ := opt_po q
    have dp := dp_mono e2 dp
    cases dq with
    | int i =>
      cases dp with
      | @dci a od ks kv dd h1 h2 h3 h4 h5 =>
        subst h5
        rcases fdG_rp i h2 h3 with ⟨v, d, g1, g2, g3⟩ | ⟨g1, g2⟩
        · have hz : fdG (kv.map fun q => (PyData.int q.1, q.2)) i = some z := hz
          rw [g2] at hz
          cases hz
          exact ⟨a, v, rfl, .inl ⟨_, .inl i, .inr ⟨od, k2.fH.at_ _ _ h1 fun ps z => nomatch z⟩, rfl, g1.symm⟩, q2 F2 H2 _ k2 (e1.trans e2) g3⟩
        · have hz : fdG (kv.map fun q => (PyData.int q.1, q.2)) i = some z := hz
          rw [g2] at hz
          cases hz
      | @dct a es kv dd h1 h2 h3 h4 h5 =>
        subst h5
        cases kv with
        | nil => exact absurd rfl h4
        | cons q kv => cases hz
      | _ => cases hz
    | _ => cases d <;> cases hz
theorem dget_rp {K : PySem.W.Frag} {F H : Hp} {v : V} {x : D × D} {r : List (D × D)} (i : Int) (h : Rp K F v (.dict (x :: r))) (fh : Ex F H) : ((∃ nm, x.1 = .str nm) ∨ (∃ b, x.1 = .bool b) ∨ ∃ l, x.1 = .tuple l) ∨ ∃ a o, v = .ref a ∧ DGet H a (.int i) o ∧ o.isSome = (fdG (x :: r) i).isSome := by
  generalize hd : x :: r = dd at h
  cases h with
  | emp _ => cases hd
  | exc0 _ _ => cases hd; exact .inl (.inl ⟨_, rfl⟩)
  | excF _ _ _ _ _ => cases hd; exact .inl (.inl ⟨_, rfl⟩)
  | fnv => cases hd; exact .inl (.inr (.inl ⟨_, rfl⟩))
  | @dct a es kv dd h1 h2 h3 h4 h5 =>
    subst h5
    cases kv with
    | nil => exact absurd rfl h4
    | cons q kv => cases hd; exact .inl (.inr (.inr ⟨_, rfl⟩))
  | @dci a od ks kv dd h1 h2 h3 h4 h5 =>
    subst h5
    have hD := fh.at_ _ _ h1 fun ps z => nomatch z
    rcases fdG_rp i h2 h3 with ⟨v, d, g1, g2, g3⟩ | ⟨g1, g2⟩
    · exact .inr ⟨a, some v, rfl, .inl ⟨_, .inl i, .inr ⟨od, hD⟩, rfl, g1.symm⟩, by rw [g2]; rfl⟩
    · exact .inr ⟨a, none, rfl, .inl ⟨_, .inl i, .inr ⟨od, hD⟩, rfl, g1.symm⟩, by rw [g2]; rfl⟩
/-- is it a dict that numbers stand for -/
def isKD : D → Bool
  | .dict ((.int _, _) :: _) => true
  | _ => false
def inK (x d : D) : Option D := if isKD d = true then inKD x d else none
def ninK (x d : D) : Option D := if isKD d = true then ninKD x d else none
theorem din_ok {g : D → D → Option D} {neg : Bool} (hg : ∀ x d z, g x d = some z → ∃ i y r, x = .int i ∧ d = .dict (y :: r) ∧ (∃ j, y.1 = .int j) ∧ z = .bool (if neg then !(fdG (y :: r) i).isSome else (fdG (y :: r) i).isSome)) {mk md : M D} {st : L2.St} {H : Hp} {Q : VK} (h : tM c (bin g mk md) st H Q) :
    tM c mk st H fun y H1 => tM c md st H1 fun x H2 => ∃ a o, x = .ref a ∧ DGet H2 a y o ∧ Q (.bl (if neg then !o.isSome else o.isSome)) H2 := by
  obtain ⟨pa, H0, F0, F, r, ok, po⟩ := h
  refine seqM ok po fun d r1 F1 H1 v k1 e1 dp q => ?_
  have q := Po.bind (show Po _ ((md.bind fun b => M.opt (g d b)) r1) _ from q)
  refine ⟨pa, H0, F0, F1, r1, k1, q.mono (fun _ _ x => x) fun b r2 q F2 H2 w k2 e2 dq => ?_⟩
  obtain ⟨z, hz, q2⟩ := opt_po q
  obtain ⟨i, y, rr, rfl, rfl, ⟨j, hj⟩, rfl⟩ := hg _ _ _ hz
  cases dp with
  | int i =>
    rcases dget_rp i dq k2.fH with (⟨nm, e⟩ | ⟨nm, e⟩ | ⟨nm, e⟩) | ⟨a, o, rfl, g1, g2⟩
    · rw [hj] at e
      cases e
    · rw [hj] at e
      cases e
    · rw [hj] at e
      cases e
    · refine ⟨a, o, rfl, g1, ?_⟩
      rw [g2]
      exact q2 F2 H2 _ k2 (e1.trans e2) (.bl _)
theorem ninK_some {x d z : D} (h : ninK x d = some z) : ∃ i y r, x = .int i ∧ d = .dict (y :: r) ∧ (∃ j, y.1 = .int j) ∧ z = .bool (if true = true then !(fdG (y :: r) i).isSome else (fdG (y :: r) i).isSome) := by
  unfold ninK at h
  split at h
  · rename_i hk
    unfold isKD at hk
    split at hk
    · cases x with
      | int i =>
        cases h
        exact ⟨i, _, _, rfl, rfl, ⟨_, rfl⟩, rfl⟩
      | _ => cases h
    · cases hk
  · cases h
theorem t_ninK {ek ed : Expr} {mk md : M D} {pos : Pos} (hk : PE X ek (tM c mk)) (hd : PE X ed (tM c md)) (hu : X.A.units + 1 < cLine) (hbm : behindInMarks .NotIn ed = false := by rfl) : PT X (.Compare ek [.NotIn] [ed] pos) (tT c (tBool (bin ninK mk md))) :=
  pt_cq (pt_cmp (pc_dnotin hu hk hd) hbm) fun st H Q h => din_ok (neg := true) (fun _ _ _ => ninK_some) (tb_ok h)
/-! ### for k in d, for k, v in d.items() -/
theorem dci_get {K : PySem.W.Frag} {F : Hp} : ∀ {ks : List (Int × V)} {kv : List (Int × D)} {i : Nat} {q : Int × D}, ks.map (·.1) = kv.map (·.1) → RpAll K F (ks.map (·.2)) (kv.map (·.2)) → kv[i]? = some q → ∃ v, (ks.map fun p => ((Sum.inl p.1 : Key), p.2))[i]? = some (.inl q.1, v) ∧ Rp K F v q.2
  | [], [], _, _, _, _, h => by cases h
  | [], _ :: _, _, _, h, _, _ => by cases h
  | _ :: _, [], _, _, h, _, _ => by cases h
  | p :: ks, x :: kv, i, q, h, r, e => by
    obtain ⟨h1, h2⟩ := List.cons.inj h
    have h1 : p.1 = x.1 := h1
    cases r with
    | cons r1 r2 =>
      cases i with
      | zero =>
        cases e
        exact ⟨p.2, by rw [← h1]; rfl, r1⟩
      | succ i =>
        have e : kv[i]? = some q := e
        obtain ⟨v, g1, g2⟩ := dci_get h2 r2 e
        exact ⟨v, g1, g2⟩
theorem dci_len {ks : List (Int × V)} {kv : List (Int × D)} (h : ks.map (·.1) = kv.map (·.1)) : ks.length = kv.length := by
  have := congrArg List.length h
  simpa using this
theorem yl_keysK {K : PySem.W.Frag} {F : Hp} {a : Addr} {od : Obj} {ks : List (Int × V)} {kv : List (Int × D)} (h1 : F a = some (.frz od (.dK (ks.map fun p => ((Sum.inl p.1 : Key), p.2))))) (h2 : ks.map (·.1) = kv.map (·.1)) (h3 : RpAll K F (ks.map (·.2)) (kv.map (·.2))) : Yl K F (Itk a od (ks.map fun p => ((Sum.inl p.1 : Key), p.2))) (kv.map fun q => PyData.int q.1) where
  go := fun i H hi e => by
    refine ⟨e.at_ _ _ h1 (fun ps z => nomatch z), ?_⟩
    rw [List.length_map] at hi ⊢
    rw [dci_len h2]
    exact hi
  stop := fun H e => by
    refine ⟨e.at_ _ _ h1 (fun ps z => nomatch z), ?_⟩
    rw [List.length_map, List.length_map, dci_len h2]
    exact Nat.le_refl _
  yld := fun i H x H' d hd e hy => by
    obtain ⟨rfl, k, v, hk, rfl⟩ := hy
    left
    refine ⟨rfl, ?_⟩
    rw [List.getElem?_map] at hd
    cases hq : kv[i]? with
    | none =>
      rw [hq] at hd
      cases hd
    | some q =>
      rw [hq] at hd
      cases hd
      obtain ⟨v', g1, g2⟩ := dci_get h2 h3 hq
      rw [hk] at g1
      cases g1
      exact .int _
theorem yl_itemsK {K : PySem.W.Frag} {F : Hp} {a : Addr} {od : Obj} {ks : List (Int × V)} {kv : List (Int × D)} (h1 : F a = some (.frz od (.dK (ks.map fun p => ((Sum.inl p.1 : Key), p.2))))) (h2 : ks.map (·.1) = kv.map (·.1)) (h3 : RpAll K F (ks.map (·.2)) (kv.map (·.2))) : Yl K F (Iti a od (ks.map fun p => ((Sum.inl p.1 : Key), p.2))) (kv.map fun q => PyData.tuple [.int q.1, q.2]) where
  go := fun i H hi e => by
    refine ⟨e.at_ _ _ h1 (fun ps z => nomatch z), ?_⟩
    rw [List.length_map] at hi ⊢
    rw [dci_len h2]
    exact hi
  stop := fun H e => by
    refine ⟨e.at_ _ _ h1 (fun ps z => nomatch z), ?_⟩
    rw [List.length_map, List.length_map, dci_len h2]
    exact Nat.le_refl _
  yld := fun i H x H' d hd e hy => by
    obtain ⟨T, k, v, hk, rfl, nT, rfl⟩ := hy
    rw [List.getElem?_map] at hd
    cases hq : kv[i]? with
    | none =>
      rw [hq] at hd
      cases hd
    | some q =>
      rw [hq] at hd
      cases hd
      obtain ⟨v', g1, g2⟩ := dci_get h2 h3 hq
      rw [hk] at g1
      cases g1
      exact .inr ⟨T, _, _, rfl, nT, rfl, rfl, .cons (.int _) (.cons g2 .nil)⟩
def keysK (d : D) : Option (List D) := if isKD d = true then keysKD d else none
def itemsK (d : D) : Option (List D) := if isKD d = true then itemsKD d else none
def iKeysK (m : M D) : M (List D) := m.bind fun d => M.opt (keysK d)
def iItemsK (m : M D) : M (List D) := m.bind fun d => M.opt (itemsK d)
theorem isKD_rp {K : PySem.W.Frag} {F : Hp} {v : V} {d : D} (h : Rp K F v d) (e : isKD d = true) : ∃ (a : Addr) (od : Obj) (ks : List (Int × V)) (kv : List (Int × D)), v = .ref a ∧ F a = some (.frz od (.dK (ks.map fun p : Int × V => ((Sum.inl p.1 : Key), p.2)))) ∧ ks.map (·.1) = kv.map (·.1) ∧ RpAll K F (ks.map (·.2)) (kv.map (·.2)) ∧ d = .dict (kv.map fun q : Int × D => (PyData.int q.1, q.2)) := by
  cases h with
  | @dci a od ks kv dd h1 h2 h3 h4 h5 => exact ⟨a, od, ks, kv, rfl, h1, h2, h3, by rw [h5]⟩
  | @dct a es kv dd h1 h2 h3 h4 h5 =>
    subst h5
    cases kv with
    | nil => exact absurd rfl h4
    | cons q kv => cases e
  | _ => cases e
theorem i_keysK {tg e : Expr} {m : M D} (h : PE X e (tM c m)) : PI X tg e (iM c (iKeysK m)) :=
  pi_cq (pi_keys h) fun st H R ⟨pa, H0, F0, F, r, ok, po⟩ => seqM ok po fun d r1 F1 H1 v k1 e1 dp q => by
    obtain ⟨xs, hx, q2⟩ := opt_po q
    unfold keysK at hx
    split at hx
    · rename_i hk
      obtain ⟨a, od, ks, kv, rfl, g1, g2, g3, rfl⟩ := isKD_rp dp hk
      have : xs = kv.map fun q => PyData.int q.1 := by
        cases kv with
        | nil => cases hk
        | cons x kv =>
          cases hx
          simp
      subst this
      exact ⟨a, od, rfl, .inl ⟨_, k1.fH.at_ _ _ g1 (fun ps z => nomatch z), q2 F1 H1 _ k1 e1 (yl_keysK g1 g2 g3)⟩⟩
    · cases hx
theorem i_itemsK {elts : List Expr} {kk : Nat} {tpos apos cpos : Pos} {e : Expr} {m : M D} (h : PE X e (tM c m)) (hbase : attributeBase e "items" X.env (eval e X.env) = eval e X.env := by rfl) (hline : (apos.endLine == cpos.line) = true := by rfl) : PI X (.Tuple elts kk tpos) (.Call (.Attribute e "items" apos) [] [] cpos) (iM c (iItemsK m)) :=
  pi_cq (pi_items h hbase hline) fun st H R ⟨pa, H0, F0, F, r, ok, po⟩ => seqM ok po fun d r1 F1 H1 v k1 e1 dp q => by
    obtain ⟨xs, hx, q2⟩ := opt_po q
    unfold itemsK at hx
    split at hx
    · rename_i hk
      obtain ⟨a, od, ks, kv, rfl, g1, g2, g3, rfl⟩ := isKD_rp dp hk
      have : xs = kv.map fun q => PyData.tuple [.int q.1, q.2] := by
        cases kv with
        | nil => cases hk
        | cons x kv =>
          cases hx
          simp
      subst this
      exact ⟨a, od, _, rfl, k1.fH.at_ _ _ g1 (fun ps z => nomatch z), q2 F1 H1 _ k1 e1 (yl_itemsK g1 g2 g3)⟩
    · cases hx
/-! ### an owned dict is frozen -/
def intsKv : List (Key × D) → Option (List (Int × D))
  | [] => some []
  | (.inl i, d) :: r => (intsKv r).map ((i, d) :: ·)
  | (.inr _, _) :: _ => none
def dctOf (kvs : List (Key × D)) : Option D := match intsKv kvs with
  | some (q :: qs) => some (.dict ((q :: qs).map fun q => (PyData.int q.1, q.2)))
  | _ => none
theorem intsKv_rp {K : PySem.W.Frag} {F : Hp} : ∀ {kvs : List (Key × D)} {ks : List (Key × V)} {kv : List (Int × D)}, KvAll K F ks kvs → intsKv kvs = some kv → ∃ ks' : List (Int × V), ks = ks'.map (fun p => ((Sum.inl p.1 : Key), p.2)) ∧ ks'.map (·.1) = kv.map (·.1) ∧ RpAll K F (ks'.map (·.2)) (kv.map (·.2))
  | [], _, _, h, e => by
    cases h
    cases e
    exact ⟨[], rfl, rfl, .nil⟩
  | (.inr x, d) :: r, _, _, _, e => by cases e
  | (.inl i, d) :: r, _, kv, h, e => by
    cases h with
    | @cons _ v _ ks _ h1 h2 =>
      have e : (intsKv r).map ((i, d) :: ·) = some kv := e
      cases hr : intsKv r with
      | none =>
        rw [hr] at e
        cases e
      | some kv' =>
        rw [hr] at e
        cases e
        obtain ⟨ks', g1, g2, g3⟩ := intsKv_rp h2 hr
        exact ⟨(i, v) :: ks', by rw [g1]; rfl, by rw [List.map_cons, List.map_cons, g2], .cons h1 g3⟩
theorem pe_lockD {e : Expr} {t : TE} (h : PE X e t) : PE X e (fun st H Q => t st H fun v H' => Q v H' ∨ ∃ a u, v = .ref a ∧ H' a = some u ∧ Mut (some u) ∧ ∀ od, Q v (upd H' a (.frz od u))) := ⟨fun pins s st H Q I q => by
  refine thn (h.run pins s st H _ I q) fun u s1 ⟨x, H1, I1, rx, z⟩ => ?_
  rcases z with z | ⟨a, uu, rfl, ha, mu, z⟩
  · exact ⟨x, H1, I1, rx, z⟩
  · obtain ⟨od, I2⟩ := I1.lock ha mu
    exact ⟨_, _, I2, rx, z od⟩⟩
noncomputable def frzD (m : M RV) : M D := m.bind fun rv => match rv with
  | .v d => M.ret d
  | .o (.d kvs) => M.opt (dctOf kvs)
  | _ => M.no
theorem e_frzD {e : Expr} {m : M RV} (h : PE X e (tO c m)) : PE X e (tM c (frzD m)) :=
  pe_cq (pe_lockD h) fun st H Q ⟨pa, H0, F0, F, r, ok, po⟩ => seqO ok po fun rv r1 F1 H1 v k1 e1 dp q => by
    cases rv with
    | v d => exact .inl (q F1 H1 v k1 e1 dp)
    | o ct =>
      cases ct with
      | d kvs =>
        obtain ⟨z, hz, q2⟩ := opt_po (show Po _ (M.opt (dctOf kvs) r1) _ from q)
        obtain ⟨a, rfl, z1, z2, ⟨ks, z3, z4⟩, z5⟩ := dp
        unfold dctOf at hz
        split at hz
        · rename_i q qs hi
          cases hz
          obtain ⟨ks', g1, g2, g3⟩ := intsKv_rp z4 hi
          subst g1
          refine .inr ⟨a, _, rfl, z3, trivial, fun od => ?_⟩
          have k2 := k1.aside (o := .frz od (.dK (ks'.map fun p => ((Sum.inl p.1 : Key), p.2)))) z2 z1 z5.1 (tabs_upd k1.tb z3 (fun ps z => nomatch z) (fun c q z => by unfold LamX.CodeO at z; cases z))
          have k3 := k2.frz upd_same z2 z5.1.upd z1
          exact q2 _ _ _ k3 (e1.trans (Ex.new z1)) (.dci upd_same g2 (dpa_mono (Ex.new z1) g3) (by simp) rfl)
        · cases hz
      | _ => exact (show False from q).elim
/-! ### len of a frozen dict -/
theorem call_lenR : CallR X (.builtin "len") (fun xs H Q => ∃ a kvs, xs = [V.ref a] ∧ Rd H a (.dK kvs) ∧ Q (.int kvs.length) H) := by
  intro pins s st H xs us Q I rv h
  obtain ⟨a, kvs, rfl, ha, q⟩ := h
  obtain ⟨u, rfl, ru⟩ := vals1 rv
  cases ru
  exact d_len I ha fun t s' I' => ⟨.int kvs.length, H, I', ⟨t, rfl⟩, q⟩
def lenK (d : D) : Option D := if isKD d = true then lenKD d else lenD d
theorem lenK_data (hK : c.K = X.K := by rfl) : CallR X (.builtin "len") (rDA c.K (one lenK)) := callr_cq (callr_or (len_data hK) call_lenR) fun xs H Q ⟨F, ds, z, fh, dps, hz, q⟩ => by
  obtain ⟨d, rfl, hz⟩ := one_some hz
  have hz1 : lenK d = some z := hz
  unfold lenK at hz1
  split at hz1
  · rename_i hk
    obtain ⟨v, rfl, dp⟩ := rpa_one dps
    obtain ⟨a, od, ks, kv, rfl, g1, g2, g3, rfl⟩ := isKD_rp dp hk
    cases kv with
    | nil => cases hk
    | cons x kv =>
      cases hz1
      refine .inr ⟨a, _, rfl, .inr ⟨od, fh.at_ _ _ g1 (fun ps z => nomatch z)⟩, ?_⟩
      have := q _ F H (.inl ⟨rfl, rfl⟩) (.int _)
      rw [List.length_map, dci_len g2]
      simpa using this
  · exact .inl ⟨F, [d], z, fh, dps, hz1, q⟩
end
end Pu
namespace Pu
open PySem PySem.Spec PyProof.Rows L2
variable [TabT]
/-! ### len(set(a list of tuples of whole numbers)) -/
/-- how many unlike ones -/
def cntU : List (List Int) → Nat
  | [] => 0
  | x :: xs => if x ∈ xs then cntU xs else cntU xs + 1
def dedU : List (List Int) → List (List Int)
  | [] => []
  | x :: xs => if x ∈ xs then dedU xs else x :: dedU xs
omit [TabT] in
theorem dedU_mem : ∀ (xs : List (List Int)) (y : List Int), y ∈ dedU xs ↔ y ∈ xs
  | [], _ => Iff.rfl
  | x :: xs, y => by
    unfold dedU
    split
    · rename_i h
      rw [dedU_mem xs y, List.mem_cons]
      exact ⟨.inr, fun z => z.elim (fun e => e ▸ h) id⟩
    · rw [List.mem_cons, List.mem_cons, dedU_mem xs y]
omit [TabT] in
theorem dedU_nd : ∀ xs : List (List Int), (dedU xs).Nodup
  | [] => List.Pairwise.nil
  | x :: xs => by
    unfold dedU
    split
    · exact dedU_nd xs
    · rename_i h
      exact List.nodup_cons.mpr ⟨fun z => h ((dedU_mem xs x).mp z), dedU_nd xs⟩
omit [TabT] in
theorem dedU_len : ∀ xs : List (List Int), (dedU xs).length = cntU xs
  | [] => rfl
  | x :: xs => by
    unfold dedU cntU
    split
    · exact dedU_len xs
    · rw [List.length_cons, dedU_len xs]
omit [TabT] in
theorem cntU_nd : ∀ {xs : List (List Int)}, xs.Nodup → cntU xs = xs.length
  | [], _ => rfl
  | x :: xs, h => by
    obtain ⟨h1, h2⟩ := List.nodup_cons.mp h
    unfold cntU
    rw [if_neg h1, cntU_nd h2, List.length_cons]
omit [TabT] in
theorem cntU_of {xs l : List (List Int)} (nd : l.Nodup) (h : ∀ k, k ∈ l ↔ k ∈ xs) : l.length = cntU xs := by
  rw [← dedU_len]
  exact ((List.perm_ext_iff_of_nodup nd (dedU_nd xs)).mpr fun k => (h k).trans (dedU_mem xs k).symm).length_eq
omit [TabT] in
theorem cntU_le : ∀ xs : List (List Int), cntU xs ≤ xs.length
  | [] => Nat.le_refl _
  | x :: xs => by
    unfold cntU
    have := cntU_le xs
    split <;> simp <;> omega
def tupsI : List D → Option (List (List Int))
  | [] => some []
  | .tuple ds :: r => match ixIntsD ds, tupsI r with
    | some ns, some rs => some (ns :: rs)
    | _, _ => none
  | _ :: _ => none
where ixIntsD : List D → Option (List Int)
  | [] => some []
  | .int i :: r => (ixIntsD r).map (i :: ·)
  | _ :: _ => none
omit [TabT] in
theorem ixIntsD_eq : ∀ {ds : List D} {ns : List Int}, tupsI.ixIntsD ds = some ns → ds = ns.map .int
  | [], _, h => by cases h; rfl
  | .int i :: r, ns, h => by
    have h : (tupsI.ixIntsD r).map (i :: ·) = some ns := h
    cases hr : tupsI.ixIntsD r with
    | none => rw [hr] at h; cases h
    | some z => rw [hr] at h; cases h; rw [ixIntsD_eq hr]; rfl
  | .none :: _, _, h => by cases h
  | .bool _ :: _, _, h => by cases h
  | .str _ :: _, _, h => by cases h
  | .list _ :: _, _, h => by cases h
  | .tuple _ :: _, _, h => by cases h
  | .dict _ :: _, _, h => by cases h
omit [TabT] in
theorem ixIntsD_of : ∀ ns : List Int, tupsI.ixIntsD (ns.map .int) = some ns
  | [] => rfl
  | n :: ns => by
    show (tupsI.ixIntsD (ns.map .int)).map (n :: ·) = _
    rw [ixIntsD_of ns]
    rfl
def lsetTD : D → Option D
  | .list ds => match tupsI ds with
    | some ts => if ts.length < 64 then some (.int (cntU ts : Nat)) else none
    | none => none
  | _ => none
theorem tupsI_rp {K : PySem.W.Frag} {F : Hp} : ∀ {vs : List V} {ds : List D} {ts : List (List Int)}, RpAll K F vs ds → tupsI ds = some ts → ∃ ks : List (Addr × List Int), vs = ks.map (fun p => V.ref p.1) ∧ ts = ks.map (·.2) ∧ ∀ p ∈ ks, SqT K F p.1 (p.2.map V.int)
  | _, _, _, .nil, h => by
    cases h
    exact ⟨[], rfl, rfl, fun _ z => nomatch z⟩
  | _, _, ts, @RpAll.cons _ _ v vs d ds h1 h2, h => by
    cases h1 with
    | @tup a xs es g1 g2 =>
      unfold tupsI at h
      cases hi : tupsI.ixIntsD es with
      | none => rw [hi] at h; cases h
      | some ns =>
        cases hr : tupsI ds with
        | none => rw [hi, hr] at h; cases h
        | some rs =>
          rw [hi, hr] at h
          cases h
          obtain ⟨ks, e1, e2, e3⟩ := tupsI_rp h2 hr
          have e := ixIntsD_eq hi
          subst e
          have e := rpa_ints g2
          subst e
          refine ⟨(a, ns) :: ks, by rw [e1]; rfl, by rw [e2]; rfl, fun p hp => ?_⟩
          rcases List.mem_cons.mp hp with rfl | hp
          · exact g1.s
          · exact e3 p hp
    | _ => unfold tupsI at h; cases h
def tLenSetU (K : PySem.W.Frag) (ta : TE) : TE := fun σ H Q => ta σ H fun x H1 => ∃ (l : Addr) (ks : List (Addr × List Int)), x = .ref l ∧ SqL K H1 l (ks.map fun p => V.ref p.1) ∧ (∀ p ∈ ks, SqT K H1 p.1 (p.2.map V.int)) ∧ ks.length < 64 ∧ Q (.int (cntU (ks.map (·.2)) : Nat)) H1
omit [TabT] in
theorem pe_lenSetU {X : Cx} {a : Expr} {ta : TE} {p p2 q pos : Pos} (hg : Gl X "len") (hm : X.mg "len" = none) (hg2 : Gl X "set") (hm2 : X.mg "set" = none) (ha : PE X a ta) (hc : X.calm = true) (hu : X.A.units + 64 < cLine)
    (na : starEach [a] X.env = (false, eval a X.env) :: starEach [] X.env) (nb : starEach [.Call (.Name "set" p2) [a] [] q] X.env = (false, eval (.Call (.Name "set" p2) [a] [] q) X.env) :: starEach [] X.env) : PE X (.Call (.Name "len" p) [.Call (.Name "set" p2) [a] [] q] [] pos) (tLenSetU X.K ta) := by
  refine ⟨fun pins s σ H Q I h => ?_⟩
  refine Call_ (ld_blt I hg hm boot_len ?_)
  refine PyProof.Rows.callWith_builtin1 (PyProof.Rows.args_cons ?_ rfl) rfl rfl
  refine Call_ (ld_blt I hg2 hm2 boot_set ?_)
  refine PyProof.Rows.callWith_type1 (PyProof.Rows.args_cons (thn (ha.run pins s σ H _ I h) fun v s1 ⟨x, H1, I1, r1, q1⟩ => PyProof.Rows.args_nil ?_) na) na rfl
  obtain ⟨l, ks, rfl, hq, hk, hf, q1⟩ := q1
  cases r1
  obtain ⟨its, rv, pl, hz⟩ := I1.list hq
  refine call_set_tups (P := X.prog) (w := X.w) ks (I1.ok.hd hc) pl.isList (by simpa using refs_of_vals rv) (fun p hp => I1.isT (hk p hp)) hf (by omega) fun h' tk L es ep t R g k => ?_
  refine PyProof.Rows.args_nil ?_
  obtain ⟨o, ho, hex, hd⟩ := R.ob
  have I2 : Inv X pins σ H1 { s1 with heap := h', toks := tk } := I1.kept fun b o e => k b o e
  have hlen : L.length = cntU (ks.map (·.2)) := by
    have := cntU_of (xs := ks.map (·.2)) R.nd fun y => ⟨fun hy => by
      obtain ⟨p, hp, rfl⟩ := List.mem_map.mp hy
      exact List.mem_map.mpr ⟨p, List.mem_of_mem_take (g.sub p hp), rfl⟩, fun hy => by
      obtain ⟨p, hp, rfl⟩ := List.mem_map.mp hy
      exact g.all p (by rw [List.take_length]; exact hp)⟩
    rw [List.length_map] at this
    exact this
  have hsz : es.size = L.length := SetTR.size (s := { s1 with heap := h' }) R
  have hes : es.size = cntU (ks.map (·.2)) := hsz.trans hlen
  have hle := R.few
  refine call_len_set ho hex hd (SetTR.fits (s := { s1 with heap := h' }) R) (by rw [hsz]; omega) ⟨.int (cntU (ks.map (·.2)) : Nat), H1, I2.tok _, ⟨_, by rw [hes]⟩, q1⟩
section
variable {X : Cx} {c : Cc}
theorem e_lsetT {a : Expr} {m : M D} {p p2 q pos : Pos} (hm : X.mg "len" = none) (hm2 : X.mg "set" = none) (ha : PE X a (tM c m)) (hu : X.A.units + 64 < cLine) (hK : c.K = X.K := by rfl) (hg : Gl X "len" := by rfl) (hg2 : Gl X "set" := by rfl) (hc : X.calm = true := by rfl)
    (na : starEach [a] X.env = (false, eval a X.env) :: starEach [] X.env := by rfl) (nb : starEach [.Call (.Name "set" p2) [a] [] q] X.env = (false, eval (.Call (.Name "set" p2) [a] [] q) X.env) :: starEach [] X.env := by rfl) : PE X (.Call (.Name "len" p) [.Call (.Name "set" p2) [a] [] q] [] pos) (tM c (una lsetTD m)) :=
  pe_cq (pe_lenSetU hg hm hg2 hm2 ha hc hu na nb) fun st H Q ⟨pa, H0, F0, F, r, ok, po⟩ => seqM ok po fun d r1 F1 H1 v k1 e1 dp q => by
    obtain ⟨z, hz, q⟩ := opt_po q
    cases dp with
    | @lst a vs ds g1 g2 =>
      have hz : (match tupsI ds with
        | some ts => if ts.length < 64 then some (.int (cntU ts : Nat)) else none
        | none => none) = some z := hz
      cases ht : tupsI ds with
      | none => rw [ht] at hz; cases hz
      | some ts =>
        rw [ht] at hz
        dsimp only at hz
        split at hz
        · rename_i hl
          cases hz
          obtain ⟨ks, rfl, rfl, e3⟩ := tupsI_rp g2 ht
          refine ⟨a, ks, rfl, by rw [← hK]; exact k1.fH.l g1, fun p hp => by rw [← hK]; exact k1.fH.t (e3 p hp), by simpa using hl, q F1 H1 _ k1 e1 (.int _)⟩
        · cases hz
    | _ => cases hz
end
end Pu
namespace Pu
open PySem PySem.Spec PyProof.Rows L2
/-! ### tuples within tuples, asked by a set -/
end Pu
namespace Pu
open PySem PySem.Spec PyProof.Rows L2
/-! ### tables of up to 512 places -/
def MaskW (m : Nat) : Prop := MaskOk m ∨ m = 511
def orb : Nat → Nat → List Nat
  | 0, _ => []
  | n + 1, x => x :: orb n ((x * 5 + 1) % 512)
def inAll (l : List Nat) (n : Nat) : Bool := (List.range n).all fun j => l.any fun x => x == j
theorem lcgN_add' (m : Nat) : ∀ (k a : Nat), lcgI m (lcgN m a) k = lcgN m (a + k)
  | 0, _ => rfl
  | k + 1, a => by
    show (lcgI m (lcgN m a) k * 5 + 1) % (m + 1) = (lcgN m (a + k) * 5 + 1) % (m + 1)
    rw [lcgN_add' m k a]
theorem orb_mem : ∀ (n a x : Nat), x ∈ orb n (lcgN 511 a) → ∃ k, k < n ∧ lcgN 511 (a + k) = x
  | 0, _, _, h => nomatch h
  | n + 1, a, x, h => by
    rcases List.mem_cons.mp h with rfl | h
    · exact ⟨0, Nat.succ_pos _, rfl⟩
    · obtain ⟨k, hk, e⟩ := orb_mem n (a + 1) x h
      exact ⟨k + 1, Nat.succ_lt_succ hk, by rw [← e]; congr 1; omega⟩
theorem orb_all : inAll (orb 512 0) 512 = true := by decide +kernel
theorem lcg_511 {j : Nat} (hj : j ≤ 511) : ∃ b, b ≤ 511 ∧ lcgN 511 b = j := by
  have h := List.all_eq_true.mp orb_all j (List.mem_range.mpr (by omega))
  obtain ⟨x, hx, e⟩ := List.any_eq_true.mp h
  have e := beq_iff_eq.mp e
  subst e
  obtain ⟨k, hk, e⟩ := orb_mem 512 0 x hx
  exact ⟨k, by omega, by rw [← e]; congr 1; omega⟩
theorem lcg_511r : lcgN 511 512 = 0 := by decide +kernel
theorem lcg_511m : ∀ k, lcgN 511 (512 + k) = lcgN 511 k
  | 0 => lcg_511r
  | k + 1 => by
    show (lcgN 511 (512 + k) * 5 + 1) % 512 = (lcgN 511 k * 5 + 1) % 512
    rw [lcg_511m k]
theorem lcgI_W {m : Nat} (hm : MaskW m) {i j : Nat} (hi : i ≤ m) (hj : j ≤ m) : ∃ k, k ≤ m ∧ lcgI m i k = j := by
  rcases hm with hm | rfl
  · exact lcgI_all hm hi hj
  · obtain ⟨a, ha, rfl⟩ := lcg_511 hi
    obtain ⟨b, hb, rfl⟩ := lcg_511 hj
    by_cases c : a ≤ b
    · exact ⟨b - a, by omega, by rw [lcgN_add']; congr 1; omega⟩
    · refine ⟨b + 512 - a, by omega, ?_⟩
      rw [lcgN_add', show a + (b + 512 - a) = 512 + b by omega, lcg_511m]
theorem meets_W {m : Nat} (hm : MaskW m) (h : Int) {j : Nat} (hj : j ≤ m) : ∃ n, n ≤ m + 12 ∧ runI m (SetTable.bits h) n = j := by
  obtain ⟨k, hk, e⟩ := lcgI_W hm (runI_le m (SetTable.bits h) 12) hj
  exact ⟨12 + k, by omega, by rw [runI_tail (bits_lt h)]; exact e⟩
theorem nth_W {m : Nat} (hm : MaskW m) (h : Int) {j : Nat} (hj : j ≤ m) : ∃ k, k < 10 * SetTable.turns m ∧ way m h k = j := by
  obtain ⟨n, hn, e⟩ := meets_W hm h hj
  obtain ⟨k, hk, e2⟩ := run_nth m (SetTable.bits h) n
  refine ⟨k, by unfold SetTable.turns; omega, ?_⟩
  show (nth m (runAt m (SetTable.bits h % (m + 1)) (SetTable.bits h)) k).j = j
  rw [e2]
  exact e
theorem wayW_le (m : Nat) (h : Int) (k : Nat) : way m h k ≤ m := by
  have hi : SetTable.bits h % (m + 1) ≤ m := Nat.le_of_lt_succ (Nat.mod_lt _ (Nat.succ_pos _))
  have r := runEnd_bd hi
  have q := nth_in (m := m) k (runAt m (SetTable.bits h % (m + 1)) (SetTable.bits h)) (by
    show SetTable.bits h % (m + 1) + (SetTable.runEnd m (SetTable.bits h % (m + 1)) - SetTable.bits h % (m + 1)) ≤ m
    omega)
  show (nth m (runAt m (SetTable.bits h % (m + 1)) (SetTable.bits h)) k).j ≤ m
  omega
/-- a table whose places are found again from their hashes -/
structure TabW (t : SetTable) (hs : List Int) : Prop where
  ris : Ris t.place.toList
  dm : t.dummies = #[]
  sz : t.place.size = hs.length
  mok : MaskW t.mask
  bd : ∀ x ∈ t.place.toList, x ≤ t.mask
  reach : ∀ (i : Nat) (h : Int) (j : Nat), hs[i]? = some h → t.place.toList[i]? = some j → ∃ k, way t.mask h k = j ∧ ∀ k', k' < k → way t.mask h k' ∈ t.place.toList
section
variable {t : SetTable} {hs : List Int}
theorem TabW.first (T : TabW t hs) (hl : hs.length ≤ t.mask) (h : Int) : ∃ n, n < 10 * SetTable.turns t.mask ∧ way t.mask h n ∉ t.place.toList ∧ ∀ k, k < n → way t.mask h k ∈ t.place.toList := by
  obtain ⟨j, hj, hn⟩ := st_missing t.place.toList (t.mask + 1) (by rw [Array.length_toList, T.sz]; omega)
  obtain ⟨k, hk, e⟩ := nth_W T.mok h (Nat.le_of_lt_succ hj)
  obtain ⟨n, h1, h2, h3⟩ := st_least (p := fun k => way t.mask h k ∉ t.place.toList) k (by rw [← e] at hn; exact hn)
  exact ⟨n, Nat.lt_of_le_of_lt h1 hk, h2, fun k' hk' => Classical.byContradiction fun c => h3 k' hk' c⟩
theorem TabW.put (T : TabW t hs) {h : Int} {n : Nat} (hn : way t.mask h n ∉ t.place.toList) (hb : ∀ k, k < n → way t.mask h k ∈ t.place.toList) :
    (t.put (way t.mask h n)).2 = SetTable.below t.place (way t.mask h n) ∧ SetTable.below t.place (way t.mask h n) ≤ hs.length ∧
    TabW (t.put (way t.mask h n)).1 (hs.take (SetTable.below t.place (way t.mask h n)) ++ h :: hs.drop (SetTable.below t.place (way t.mask h n))) ∧
    (t.put (way t.mask h n)).1.mask = t.mask ∧ (t.put (way t.mask h n)).1.led = t.led ∧ (t.put (way t.mask h n)).1.plain = t.plain ∧
    (t.put (way t.mask h n)).1.fill = hs.length + 1 := by
  have hjm := wayW_le t.mask h n
  generalize ej : way t.mask h n = j at hn hjm
  have c1 := (below_cut T.ris j).1
  have hpl : SetTable.below t.place j ≤ t.place.toList.length := by
    rw [Array.length_toList]
    exact c1
  have hph : SetTable.below t.place j ≤ hs.length := T.sz ▸ c1
  have hsz : t.place.toList.length = hs.length := by rw [Array.length_toList, T.sz]
  have hpp := put_place t j
  have hsize : (t.put j).1.place.size = hs.length + 1 := by rw [← Array.length_toList, hpp, len_ins _ hpl, hsz]
  have up : ∀ {x : Nat}, x ∈ t.place.toList → x ∈ (t.put j).1.place.toList := fun hx => by
    rw [hpp]
    exact mem_ins.2 (.inr hx)
  refine ⟨rfl, hph, ?_, rfl, rfl, rfl, ?_⟩
  · refine { ris := ris_insert T.ris fun e => hn (List.mem_of_getElem? (by rw [Array.getElem?_toList]; exact e)), dm := put_dm T.dm j, sz := by rw [len_ins _ hph]; exact hsize, mok := T.mok, bd := fun x hx => ?_, reach := fun i h' j' h1 h2 => ?_ }
    · rw [hpp] at hx
      rcases mem_ins.1 hx with rfl | z
      · exact hjm
      · exact T.bd x z
    · rw [tins_get hs hph] at h1
      rw [hpp, tins_get _ hpl] at h2
      show ∃ k, way t.mask h' k = j' ∧ ∀ k', k' < k → way t.mask h' k' ∈ (t.put j).1.place.toList
      by_cases c : i < SetTable.below t.place j
      · rw [if_pos c] at h1 h2
        obtain ⟨k, e, z⟩ := T.reach i h' j' h1 h2
        exact ⟨k, e, fun k' hk' => up (z k' hk')⟩
      · rw [if_neg c] at h1 h2
        by_cases d : i = SetTable.below t.place j
        · rw [if_pos d] at h1 h2
          cases h1
          cases h2
          exact ⟨n, ej, fun k' hk' => up (hb k' hk')⟩
        · rw [if_neg d] at h1 h2
          obtain ⟨k, e, z⟩ := T.reach (i - 1) h' j' h1 h2
          exact ⟨k, e, fun k' hk' => up (z k' hk')⟩
  · show (t.put j).1.place.size + (t.put j).1.dummies.size = hs.length + 1
    rw [hsize, put_dm T.dm j]
    rfl
end
end Pu
namespace Pu
open PySem PySem.Spec PyProof.Rows L2
/-! ### a set whose members are of one kind of key -/
section
variable {P : Program} {w : World}
/-- what a set wants of a kind of key beyond what a dict wants -/
structure Asked {K : Type} [DecidableEq K] (knd : HeapKind P w K) : Prop where
  seen : ∀ {A : Around} {E : Value → Shared → Prop} {s : Shared} {k : K} {b : Addr} {Q : Bool → Shared → Prop}, knd.is s.heap k b → ∀ {ys : List Value}, (∀ y ∈ ys, ∃ k' c, y = Value.ref c ∧ knd.is s.heap k' c) → Q false s → wpAny (model P w) A (searchCouldBeSeen (.ref b) ys) Q E s
  byv : ∀ {A : Around} {E : Value → Shared → Prop} {s : Shared} {k : K} {b : Addr} {Q : Bool → Shared → Prop}, knd.is s.heap k b → Q true s → wpAny (model P w) A (hashByValue 8 (.ref b)) Q E s
  stay : knd.Stays
theorem Asked.keep {K : Type} [DecidableEq K] {knd : HeapKind P w K} (S : Asked knd) {h h' : Heap} {k : K} {b : Addr} (hb : knd.is h k b) (hk : ∀ c o, h.get? c = some o → h'.get? c = some o) : knd.is h' k b :=
  S.stay.stays (fun c o _ _ hc _ => hk c o hc) hb
section
variable {K : Type} [DecidableEq K] {knd : HeapKind P w K} {A : Around} {E : Value → Shared → Prop} {s : Shared}
def kRows (knd : HeapKind P w K) (L : List (Addr × K)) : List (Int × Value) := L.map fun p => (knd.hash p.2, Value.ref p.1)
theorem kRows_len (L : List (Addr × K)) : (kRows knd L).length = L.length := List.length_map ..
/-- at a stands a set of keys of the kind -/
structure SetK (knd : HeapKind P w K) (h : Heap) (a : Addr) (L : List (Addr × K)) (es : Array (Int × Value)) (ep : Nat) (t : SetTable) : Prop where
  ob : ∃ o, h.get? a = some o ∧ o.ExactSet ∧ o.data = .set es ep t
  rows : es.toList = kRows knd L
  tab : TabW t (L.map fun p => knd.hash p.2)
  nd : (L.map (·.2)).Nodup
  key : ∀ p ∈ L, knd.is h p.2 p.1
  plain : t.plain = true
  led : w.params.followText "set-order" = true ∨ t.led = true
  room : L.length * 5 < t.mask * 3
  few : L.length < 300
variable {a : Addr} {L : List (Addr × K)} {es : Array (Int × Value)} {ep : Nat} {t : SetTable}
theorem SetK.size (R : SetK knd s.heap a L es ep t) : es.size = L.length := by
  rw [← Array.length_toList, R.rows, kRows_len]
theorem SetK.psz (R : SetK knd s.heap a L es ep t) : t.place.toList.length = L.length := by
  have := R.tab.sz
  rw [List.length_map] at this
  rw [Array.length_toList, this]
theorem fits_of {t : SetTable} {n : Nat} (hs : t.place.size = n) (hd : t.dummies = #[]) (hn : n ≤ t.mask) : t.fits n = true := by
  unfold SetTable.fits SetTable.fill
  rw [hd, Bool.and_eq_true, beq_iff_eq, decide_eq_true_eq]
  show t.place.size = n ∧ t.place.size + 0 ≤ t.mask
  omega
theorem SetK.fits (R : SetK knd s.heap a L es ep t) : t.fits es.size = true := by
  have h1 := R.psz
  rw [Array.length_toList] at h1
  have h3 := R.room
  exact fits_of (h1.trans R.size.symm) R.tab.dm (by rw [R.size]; omega)
end
end
end Pu
namespace Pu
open PySem PySem.Spec PyProof.Rows L2
section
variable {P : Program} {w : World} {K : Type} [DecidableEq K] {knd : HeapKind P w K} {A : Around} {E : Value → Shared → Prop} {s : Shared}
variable {a : Addr} {L : List (Addr × K)} {es : Array (Int × Value)} {ep : Nat} {t : SetTable}
/-- what the set has got of the first i items -/
structure Has (ks : List (Addr × K)) (i : Nat) (L : List (Addr × K)) : Prop where
  sub : ∀ p ∈ L, p ∈ ks.take i
  all : ∀ p ∈ ks.take i, p.2 ∈ L.map (·.2)
  len : L.length ≤ i
theorem Has.zero (ks : List (Addr × K)) : Has ks 0 [] := ⟨fun p h => (by cases h), fun p h => (by simp at h), Nat.le_refl _⟩
theorem Has.step {ks L L' : List (Addr × K)} {i : Nat} {x : Addr × K} (g : Has ks i L) (h : ks[i]? = some x) (c1 : x.2 ∈ L.map (·.2) → L' = L) (c2 : x.2 ∉ L.map (·.2) → L'.Perm (x :: L)) : Has ks (i + 1) L' := by
  by_cases hm : x.2 ∈ L.map (·.2)
  · rw [c1 hm]
    refine ⟨fun p hp => ?_, fun p hp => ?_, Nat.le_succ_of_le g.len⟩
    · rw [take_next h]
      exact List.mem_append_left _ (g.sub p hp)
    · rw [take_next h] at hp
      rcases List.mem_append.mp hp with z | z
      · exact g.all p z
      · rw [List.mem_singleton.mp z]; exact hm
  · have pm := c2 hm
    refine ⟨fun p hp => ?_, fun p hp => ?_, ?_⟩
    · rw [take_next h]
      rcases List.mem_cons.mp (pm.mem_iff.mp hp) with e | z
      · rw [e]; exact List.mem_append_right _ (List.mem_singleton.mpr rfl)
      · exact List.mem_append_left _ (g.sub p z)
    · rw [(pm.map (·.2)).mem_iff, List.map_cons]
      rw [take_next h] at hp
      rcases List.mem_append.mp hp with z | z
      · exact List.mem_cons_of_mem _ (g.all p z)
      · rw [List.mem_singleton.mp z]; exact List.mem_cons_self
    · rw [pm.length_eq, List.length_cons]
      exact Nat.succ_le_succ g.len
theorem SetK.keep {h h' : Heap} (R : SetK knd h a L es ep t) (ha : ∀ o, h.get? a = some o → h'.get? a = some o) (ht : ∀ p ∈ L, knd.is h' p.2 p.1) : SetK knd h' a L es ep t := by
  obtain ⟨o, ho, r⟩ := R.ob
  exact { ob := ⟨o, ha o ho, r⟩, rows := R.rows, tab := R.tab, nd := R.nd, key := ht, plain := R.plain, led := R.led, room := R.room, few := R.few }
end
end Pu
namespace Pu
open PySem PySem.Spec PyProof.Rows L2
end Pu
namespace Pu
open PySem PySem.Spec PyProof.Rows L2
/-! ### len(set(a list of tuples within tuples)) -/
end Pu
namespace Pu
open PySem PySem.Spec PyProof.Rows L2
end Pu
namespace Pu
open PySem PySem.Spec PyProof.Rows L2
variable [TabT]
/-! ### f(..) that lends some owned names, at any places -/
abbrev Az := List (Sum Nat D)
inductive ZAll (K : PySem.W.Frag) (F : Hp) (st : L2.St) : List V → Az → Prop
  | nil : ZAll K F st [] []
  | l {v : V} {vs : List V} {i : Nat} {xs : Az} : st[i]? = some (some v) → ZAll K F st vs xs → ZAll K F st (v :: vs) (.inl i :: xs)
  | d {v : V} {vs : List V} {d : D} {xs : Az} : Rp K F v d → ZAll K F st vs xs → ZAll K F st (v :: vs) (.inr d :: xs)
omit [TabT] in
theorem ZAll.len {K : PySem.W.Frag} {F : Hp} {st : L2.St} : ∀ {vs : List V} {xs : Az}, ZAll K F st vs xs → vs.length = xs.length
  | _, _, .nil => rfl
  | _, _, .l _ t => congrArg Nat.succ t.len
  | _, _, .d _ t => congrArg Nat.succ t.len
omit [TabT] in
theorem ZAll.getD {K : PySem.W.Frag} {F : Hp} {st : L2.St} : ∀ {vs : List V} {xs : Az} {p : Nat} {d : D}, ZAll K F st vs xs → xs[p]? = some (.inr d) → ∃ v, vs[p]? = some v ∧ Rp K F v d
  | _, _, _, _, .nil, e => by simp at e
  | _, _, 0, _, .l h t, e => by simp at e
  | _, _, 0, _, .d h t, e => by
    simp at e
    subst e
    exact ⟨_, rfl, h⟩
  | _, _, p + 1, _, .l h t, e => by
    obtain ⟨v, g1, g2⟩ := ZAll.getD (p := p) t (by simpa using e)
    exact ⟨v, by simpa using g1, g2⟩
  | _, _, p + 1, _, .d h t, e => by
    obtain ⟨v, g1, g2⟩ := ZAll.getD (p := p) t (by simpa using e)
    exact ⟨v, by simpa using g1, g2⟩
omit [TabT] in
theorem ZAll.mono {K : PySem.W.Frag} {F F' : Hp} {st : L2.St} (e : Ex F F') : ∀ {vs : List V} {xs : Az}, ZAll K F st vs xs → ZAll K F' st vs xs
  | _, _, .nil => .nil
  | _, _, .l h t => .l h (t.mono e)
  | _, _, .d h t => .d (dp_mono e h) (t.mono e)
end Pu
namespace Pu
open PySem PySem.Spec PyProof.Rows L2
variable [TabT]
/-! ### for rows, .. in ((x, ..), (y["k"], ..), (y["l"], ..)): each list changed in its turn -/
section
variable {K : PySem.W.Frag} {pa pa' : Nat → Addr} {H0 H1 F0 F H : Hp} {st : L2.St} {r r' : En}
theorem Ok.nobH (k : Ok K pa H0 F0 F H st r) {p : Addr} (h : H0 p ≠ none) : Nob H st r p := fun i s c a h1 h2 h3 => by
  obtain ⟨a', g1, g2, g3, g4⟩ := k.ownd h1 h2
  rw [h3] at g1
  cases g1
  exact ⟨fun z => h (z ▸ g3), fun n => h (k.inn i s c a p h1 h2 h3 n).2.1⟩
theorem Ok.less (k : Ok K pa H0 F0 F H st r) (hl : r'.length = r.length) (h : ∀ (j : Nat) (s' : Sl), r'[j]? = some s' → r[j]? = some s' ∨ s' = .unk ∨ (s' = .pin ∧ st[j]? = some (some (.ref (pa j))))) : Ok K pa H0 F0 F H st r' := by
  have old : ∀ (j : Nat) (s' : Sl) (c : Ct), r'[j]? = some s' → s'.own = some c → r[j]? = some s' := fun j s' c h1 h2 => by
    rcases h j s' h1 with h3 | rfl | ⟨rfl, _⟩
    · exact h3
    · cases h2
    · cases h2
  refine ⟨k.hH, k.fF, k.fH, k.sep, by rw [hl]; exact k.len, fun j s' h1 n => ?_, k.tb, fun i j s q c c' a ne h1 h2 o1 o2 g1 g2 => k.dis i j s q c c' a ne (old i s c h1 o1) (old j q c' h2 o2) o1 o2 g1 g2, fun i s c a b h1 h2 h3 h4 => ?_⟩
  · rcases h j s' h1 with h3 | rfl | ⟨rfl, h3⟩
    · exact k.sl j s' h3 n
    · exact absurd rfl n
    · exact ⟨_, h3, rfl⟩
  · obtain ⟨g1, g2, g3⟩ := k.inn i s c a b (old i s c h1 h2) h2 h3 h4
    exact ⟨g1, g2, fun j q c' a' w1 w2 w3 => g3 j q c' a' (old j q c' w1 w2) w2 w3⟩
/-- an owned object becomes one that must come back -/
theorem Ok.toIo (k : Ok K pa H0 F0 F H st r) {i : Nat} {a : Addr} {c : Ct} (h : r[i]? = some (.o c)) (ha : st[i]? = some (some (.ref a))) (hp : pa' i = a) (hq : ∀ j, j ≠ i → pa' j = pa j) : Ok K pa' H0 F0 F H st (r.set i (.io c)) := by
  have li : i < r.length := (List.getElem?_eq_some_iff.mp h).1
  have view : ∀ (j : Nat) (s' : Sl), (r.set i (.io c))[j]? = some s' → (j = i ∧ s' = .io c) ∨ (j ≠ i ∧ r[j]? = some s') := fun j s' e => by
    by_cases q : i = j
    · subst q
      rw [List.getElem?_set_self li] at e
      cases e
      exact .inl ⟨rfl, rfl⟩
    · rw [List.getElem?_set_ne q] at e
      exact .inr ⟨fun z => q z.symm, e⟩
  have old : ∀ (j : Nat) (s' : Sl) (c' : Ct), (r.set i (.io c))[j]? = some s' → s'.own = some c' → ∃ s, r[j]? = some s ∧ s.own = some c' := fun j s' c' h1 h2 => by
    rcases view j s' h1 with ⟨rfl, rfl⟩ | ⟨_, h3⟩
    · exact ⟨_, h, h2⟩
    · exact ⟨s', h3, h2⟩
  refine ⟨k.hH, k.fF, k.fH, k.sep, by rw [List.length_set]; exact k.len, fun j s' h1 n => ?_, k.tb, fun i1 j1 s q c1 c2 a ne h1 h2 o1 o2 g1 g2 => ?_, fun i1 s c1 a1 b h1 h2 h3 h4 => ?_⟩
  · rcases view j s' h1 with ⟨rfl, rfl⟩ | ⟨nj, h3⟩
    · obtain ⟨v, g1, a', rfl, g2, g3, g4⟩ := k.sl j _ h (fun z => nomatch z)
      rw [ha] at g1
      cases g1
      refine ⟨_, ha, ?_⟩
      show V.ref a = V.ref (pa' j) ∧ F (pa' j) = none ∧ H0 (pa' j) = none ∧ CtOk K F H (pa' j) c
      rw [hp]
      exact ⟨rfl, g2, g3, g4⟩
    · obtain ⟨v, g1, g2⟩ := k.sl j s' h3 n
      refine ⟨v, g1, ?_⟩
      rw [hq j nj]
      exact g2
  · obtain ⟨s', y1, y2⟩ := old i1 s c1 h1 o1
    obtain ⟨q', y3, y4⟩ := old j1 q c2 h2 o2
    exact k.dis i1 j1 s' q' c1 c2 a ne y1 y3 y2 y4 g1 g2
  · obtain ⟨s', y1, y2⟩ := old i1 s c1 h1 h2
    obtain ⟨g1, g2, g3⟩ := k.inn i1 s' c1 a1 b y1 y2 h3 h4
    refine ⟨g1, g2, fun j q c' a' w1 w2 w3 => ?_⟩
    obtain ⟨q', y3, y4⟩ := old j q c' w1 w2
    exact g3 j q' c' a' y3 y4 w3
theorem Ok.pinS (k : Ok K pa H0 F0 F H st r) (S : Addr → Prop) (h1 : ∀ x, S x → H1 x = H x ∧ F x = none ∧ Nob H st r x) (h2 : ∀ x, ¬ S x → H1 x = H0 x) : Ok K pa H1 F0 F H st r := by
  classical
  refine k.frame ⟨fun x o e nt => ?_, fun x ps e => ?_⟩ (fun x z1 z2 => ?_) fun j s c a g1 g2 g3 => ?_
  · by_cases hx : S x
    · rw [(h1 x hx).1] at e
      exact e
    · rw [h2 x hx] at e
      exact k.hH.at_ x o e nt
  · by_cases hx : S x
    · rw [(h1 x hx).1] at e
      exact ⟨#[], by rw [Array.append_empty]; exact e⟩
    · rw [h2 x hx] at e
      exact k.hH.tb x ps e
  · by_cases hx : S x
    · exact absurd (h1 x hx).2.1 z2
    · rw [h2 x hx] at z1
      exact k.sep x z1 z2
  · obtain ⟨a', y1, y2, y3, y4⟩ := k.ownd g1 g2
    rw [g3] at y1
    cases y1
    refine ⟨?_, fun b hb => ?_⟩
    · rw [h2 a fun hx => ((h1 a hx).2.2 j s c a g1 g2 g3).1 rfl]
      exact y3
    · rw [h2 b fun hx => ((h1 b hx).2.2 j s c a g1 g2 g3).2 hb]
      exact (k.inn j s c a b g1 g2 g3 hb).2.1
theorem Ok.unpin (k : Ok K pa H1 F0 F H st r) (h : ∀ x, H0 x = H1 x ∨ H0 x = none) : Ok K pa H0 F0 F H st r := by
  have sub : ∀ x o, H0 x = some o → H1 x = some o := fun x o e => by
    rcases h x with g | g
    · rw [← g]; exact e
    · rw [g] at e; cases e
  have non : ∀ x, H1 x = none → H0 x = none := fun x e => by
    rcases h x with g | g
    · rw [g]; exact e
    · exact g
  refine k.frame ⟨fun x o e nt => k.hH.at_ x o (sub x o e) nt, fun x ps e => k.hH.tb x ps (sub x _ e)⟩ (fun x z1 z2 => k.sep x (fun q => z1 (non x q)) z2) fun j s c a g1 g2 g3 => ?_
  obtain ⟨a', y1, y2, y3, y4⟩ := k.ownd g1 g2
  rw [g3] at y1
  cases y1
  exact ⟨non a y3, fun b hb => non b (k.inn j s c a b g1 g2 g3 hb).2.1⟩
/-- a list that must stand is lent into a slot -/
theorem Ok.take (k : Ok K pa H1 F0 F H st r) {q : Nat} {qs : Sl} {b : Addr} {ws : List V} {L : List D} (hq : r[q]? = some qs) (hio : qs.isIo = false) (hb : H1 b = some (.lst ws)) (hF : F b = none) (hr : RpAll K F ws L) :
    Ok K (fun j => if j = q then b else pa j) (fun x => if x = b then none else H1 x) F0 F H (st.set q (some (.ref b))) (r.set q (.io (.l L))) := by
  have lq : q < r.length := (List.getElem?_eq_some_iff.mp hq).1
  have nb : Nob H st r b := k.nobH (ne_none hb)
  have hHb : H b = some (.lst ws) := k.hH.at_ b _ hb fun ps z => nomatch z
  have k1 : Ok K pa (fun x => if x = b then none else H1 x) F0 F H st r := k.unpin fun x => by
    by_cases e : x = b
    · exact .inr (if_pos e)
    · exact .inl (if_neg e)
  have k2 : Ok K pa (fun x => if x = b then none else H1 x) F0 F H (st.set q (some (.ref b))) (r.set q (.o (.l L))) := k1.set (s := .o (.l L)) (fun s' e => by
    rw [hq] at e
    cases e
    exact hio) rfl ⟨b, rfl, hF, if_pos rfl, ws, hHb, hr⟩ fun a c e1 e2 => by
      cases e1
      cases e2
      exact .l (nb.unk)
  have k3 := k2.toIo (pa' := fun j => if j = q then b else pa j) (i := q) (a := b) (c := .l L) (List.getElem?_set_self lq) (List.getElem?_set_self (by rw [k.len]; exact lq)) (if_pos rfl) fun j nj => if_neg nj
  rw [List.set_set] at k3
  exact k3
end
/-- the state between two turns -/
def S3 (c : Cc) (pa : Nat → Addr) (H0 F0 F : Hp) (ts : List (Addr × HO)) (i j : Nat) (a1 b1 : Addr) (k1 k2 : Key) (G A B : List D) (st : L2.St) (H : Hp) (r : En) : Prop :=
  ∃ F' H1, Ok c.K pa H1 F0 F' H st r ∧ Ex F F' ∧ (∀ x, H0 x = H1 x ∨ H0 x = none) ∧ (∀ p ∈ ts, H1 p.1 = some p.2) ∧ H1 (pa j) = some (.dK [(k1, .ref a1), (k2, .ref b1)]) ∧ F' (pa j) = none ∧
    (∃ ws, H1 (pa i) = some (.lst ws) ∧ RpAll c.K F' ws G ∧ F' (pa i) = none) ∧ (∃ ws, H1 a1 = some (.lst ws) ∧ RpAll c.K F' ws A ∧ F' a1 = none) ∧ (∃ ws, H1 b1 = some (.lst ws) ∧ RpAll c.K F' ws B ∧ F' b1 = none)
section
variable {X : Cx} {c : Cc} {pa : Nat → Addr} {H0 F0 F : Hp} {ts : List (Addr × HO)} {i j : Nat} {a1 b1 : Addr} {k1 k2 : Key} {G A B G' A' B' : List D}
omit [TabT] in
theorem base_upd {H1 : Hp} {b : Addr} {o : HO} (h : ∀ x, H0 x = H1 x ∨ H0 x = none) (hb : H0 b = none) : ∀ x, H0 x = upd H1 b o x ∨ H0 x = none := fun x => by
  by_cases e : x = b
  · subst e
    exact .inr hb
  · rw [upd_ne e]
    exact h x
end
section
variable {X : Cx} {c : Cc} {pa : Nat → Addr} {H0 F0 F : Hp} {ts : List (Addr × HO)} {i j : Nat} {a1 b1 : Addr} {k1 k2 : Key} {G A B : List D} {st : L2.St} {H : Hp} {r : En}
/-- the object at a slot, the lists within another's dict: all stand from now on -/
theorem S3.begin (k : Ok c.K pa H0 F0 F H st r) (hi : r[i]? = some (.io (.l G))) (hj : r[j]? = some (.io (.n (.d [(k1, .l A), (k2, .l B)])))) (hij : i ≠ j) :
    ∃ a1 b1, S3 c pa H0 F0 F [] i j a1 b1 k1 k2 G A B st H ((r.set i .pin).set j .pin) ∧ H0 (pa i) = none ∧ H0 (pa j) = none ∧ H0 a1 = none ∧ H0 b1 = none ∧ pa i ≠ a1 ∧ pa i ≠ b1 ∧ a1 ≠ b1 := by
  classical
  obtain ⟨vi, si, rfl, zi, n0i, ws1, h1, y1⟩ := k.sl i _ hi (fun z => nomatch z)
  obtain ⟨vj, sj, rfl, zj, n0j, us, ⟨ks, hd, hkeys, hvals⟩, hit, hun⟩ := k.sl j _ hj (fun z => nomatch z)
  have hl2 : us.length = 2 := hit.len
  obtain ⟨w1, g1, a1, ws2, rfl, h2, y2⟩ := hit.get (j := 0) (i := .l A) rfl
  obtain ⟨w2, g2, b1, ws3, rfl, h3, y3⟩ := hit.get (j := 1) (i := .l B) rfl
  have eks : ks = [(k1, .ref a1), (k2, .ref b1)] := by
    rw [hvals] at g1 g2 hl2
    match ks, hkeys, g1, g2, hl2 with
    | [(p1, q1), (p2, q2)], hkeys, g1, g2, _ =>
      simp at hkeys g1 g2
      obtain ⟨rfl, rfl⟩ := hkeys
      subst g1
      subst g2
      rfl
    | [], _, g1, _, _ => simp at g1
    | [_], _, _, g2, _ => simp at g2
    | _ :: _ :: _ :: _, _, _, _, hl => simp at hl
  subst eks
  have ia : Inn H (pa j) (.n (.d [(k1, .l A), (k2, .l B)])) a1 := ⟨0, us, A, by rw [hd, hvals]; rfl, g1, rfl⟩
  have ib : Inn H (pa j) (.n (.d [(k1, .l A), (k2, .l B)])) b1 := ⟨1, us, B, by rw [hd, hvals]; rfl, g2, rfl⟩
  obtain ⟨fa, n0a, fa3⟩ := k.inn j _ _ _ a1 hj rfl sj ia
  obtain ⟨fb, n0b, fb3⟩ := k.inn j _ _ _ b1 hj rfl sj ib
  have nia : pa i ≠ a1 := (fa3 i _ _ _ hi rfl si).1
  have nib : pa i ≠ b1 := (fb3 i _ _ _ hi rfl si).1
  have nab : a1 ≠ b1 := fun z => hun 0 1 a1 (by decide) ⟨us, A, by rw [hd, hvals]; rfl, g1, rfl⟩ ⟨us, B, by rw [hd, hvals]; rfl, by rw [z]; exact g2, rfl⟩
  have li : i < r.length := (List.getElem?_eq_some_iff.mp hi).1
  have lj : j < r.length := (List.getElem?_eq_some_iff.mp hj).1
  have view : ∀ (n : Nat) (s' : Sl), ((r.set i .pin).set j .pin)[n]? = some s' → (s' = .pin ∧ (n = i ∨ n = j)) ∨ (n ≠ i ∧ n ≠ j ∧ r[n]? = some s') := fun n s' e => by
    by_cases q : j = n
    · subst q
      rw [List.getElem?_set_self (by rw [List.length_set]; exact lj)] at e
      cases e
      exact .inl ⟨rfl, .inr rfl⟩
    · rw [List.getElem?_set_ne q] at e
      by_cases q2 : i = n
      · subst q2
        rw [List.getElem?_set_self li] at e
        cases e
        exact .inl ⟨rfl, .inl rfl⟩
      · rw [List.getElem?_set_ne q2] at e
        exact .inr ⟨fun z => q2 z.symm, fun z => q z.symm, e⟩
  have kp : Ok c.K pa H0 F0 F H st ((r.set i .pin).set j .pin) := k.less (by rw [List.length_set, List.length_set]) fun n s' e => by
    rcases view n s' e with ⟨rfl, rfl | rfl⟩ | ⟨_, _, e⟩
    · exact .inr (.inr ⟨rfl, si⟩)
    · exact .inr (.inr ⟨rfl, sj⟩)
    · exact .inl e
  have nobs : ∀ x, (x = pa i ∨ x = pa j ∨ x = a1 ∨ x = b1) → Nob H st ((r.set i .pin).set j .pin) x := fun x hx n s' c' a e1 e2 e3 => by
    rcases view n s' e1 with ⟨rfl, _⟩ | ⟨ni, nj, e⟩
    · cases e2
    · rcases hx with rfl | rfl | rfl | rfl
      · refine ⟨fun z => ?_, fun z => ((k.inn n s' c' a _ e e2 e3 z).2.2 i _ _ _ hi rfl si).1 rfl⟩
        subst z
        exact k.dis n i s' _ c' _ _ ni e hi e2 rfl e3 si
      · refine ⟨fun z => ?_, fun z => ((k.inn n s' c' a _ e e2 e3 z).2.2 j _ _ _ hj rfl sj).1 rfl⟩
        subst z
        exact k.dis n j s' _ c' _ _ nj e hj e2 rfl e3 sj
      · obtain ⟨z1, z2⟩ := fa3 n s' c' a e e2 e3
        exact ⟨z1, z2 nj⟩
      · obtain ⟨z1, z2⟩ := fb3 n s' c' a e e2 e3
        exact ⟨z1, z2 nj⟩
  have kS : Ok c.K pa (fun x => if (x = pa i ∨ x = pa j ∨ x = a1 ∨ x = b1) then H x else H0 x) F0 F H st ((r.set i .pin).set j .pin) := kp.pinS (fun x => x = pa i ∨ x = pa j ∨ x = a1 ∨ x = b1) (fun x hx => ⟨if_pos hx, by
    rcases hx with rfl | rfl | rfl | rfl
    · exact zi
    · exact zj
    · exact fa
    · exact fb, nobs x hx⟩) fun x hx => if_neg hx
  refine ⟨a1, b1, ⟨F, _, kS, Ex.refl F, fun x => ?_, fun p hp => (by cases hp), ?_, zj, ⟨ws1, ?_, y1, zi⟩, ⟨ws2, ?_, y2, fa⟩, ⟨ws3, ?_, y3, fb⟩⟩, n0i, n0j, n0a, n0b, nia, nib, nab⟩
  · by_cases hx : x = pa i ∨ x = pa j ∨ x = a1 ∨ x = b1
    · right
      rcases hx with rfl | rfl | rfl | rfl
      · exact n0i
      · exact n0j
      · exact n0a
      · exact n0b
    · exact .inl (if_neg hx).symm
  · exact (if_pos (.inr (.inl rfl))).trans hd
  · exact (if_pos (.inl rfl)).trans h1
  · exact (if_pos (.inr (.inr (.inl rfl)))).trans h2
  · exact (if_pos (.inr (.inr (.inr rfl)))).trans h3
theorem S3.add (hW : S3 c pa H0 F0 F ts i j a1 b1 k1 k2 G A B st H r) {t : Addr} {o : HO} (n : H t = none) : S3 c pa H0 F0 F ((t, o) :: ts) i j a1 b1 k1 k2 G A B st (upd H t o) r := by
  obtain ⟨F', H1, k, e, hb0, hts1, hd, fj, ⟨ws1, x1, y1, z1⟩, ⟨ws2, x2, y2, z2⟩, ⟨ws3, x3, y3, z3⟩⟩ := hW
  have n1 : H1 t = none := k.hH.nn n
  have n0 : H0 t = none := (hb0 t).elim (fun z => z.trans n1) id
  have ne : ∀ x u, H1 x = some u → x ≠ t := fun x u h z => by
    rw [z, n1] at h
    cases h
  refine ⟨F', _, k.inL n, e, base_upd hb0 n0, fun p hp => ?_, by rw [upd_ne (ne _ _ hd)]; exact hd, fj, ⟨ws1, by rw [upd_ne (ne _ _ x1)]; exact x1, y1, z1⟩, ⟨ws2, by rw [upd_ne (ne _ _ x2)]; exact x2, y2, z2⟩, ⟨ws3, by rw [upd_ne (ne _ _ x3)]; exact x3, y3, z3⟩⟩
  rcases List.mem_cons.mp hp with rfl | hp
  · exact upd_same
  · rw [upd_ne (ne _ _ (hts1 p hp))]
    exact hts1 p hp
end
end Pu
namespace Pu
open PySem PySem.Spec PyProof.Rows L2
/-! ### {"k": a list of one's own, "l": another} -/
end Pu
namespace Pu
open PySem PySem.Spec PyProof.Rows L2
variable [TabT]
theorem sp_start {K : PySem.W.Frag} {mg : Str → Option Value} {f : List Sl → Re RV} {ns : List Int} {H : Hp} {a : Addr} (hl : ∃ r, f [.v (.list (ns.map .int))] = .ok (.v (.bool true)) r) (hS : SqL K H a (ns.map V.int)) (tb : LamX.Tabs (TabT.T K) H) : spG K mg 1 f [.ref a] H (fun v _ => v = .bl true) fun _ _ _ => False := by
  obtain ⟨r, hr⟩ := hl
  refine ⟨rfl, fun _ => 0, H, H, _, argsV (vs := [.ref a]) (ds := [.list (ns.map .int)]) (.cons (.lst hS (dpa_ints ns)) .nil) (Ex.refl H) tb, argsOkV _, ?_⟩
  rw [show [PyData.list (ns.map PyData.int)].map Sl.v = [Sl.v (.list (ns.map .int))] from rfl, hr]
  intro F' H' v ok rv
  cases rv
  rfl
theorem no_cx {P : Program} {w : World} {H : Hp} {s s' : Shared} {e : Value} (h : L2.CX P w [] H s (fun _ _ _ => False) e s') : False := by
  obtain ⟨_, _, _, _, _, _, _, _, _, _, _, _, z⟩ := h
  exact z
/-- the law called from outside, with the tables of code objects -/
theorem lawG {P : Program} {w : World} {K : PySem.W.Frag} {mg mb : Str → Option Value} {k : Nat} {fa a : Addr} {cs : List (Addr × Addr)} {fd : FuncData} {x : Str} {sp : Sp} {s₁ : Shared} {vs : List Value} {ns : List Int}
    (KX : K.In s₁.heap) (hns : s₁.heap.Ns mainGlobals mg) (hb : s₁.heap.Ns builtinsNs mb) (hbb : ∀ x : Str, x ≠ "__name__" → mb x = bootBuiltins x) (hlim : s₁.heap.NoLimit) (hg : s₁.gens = #[])
    (hT : ∀ p ∈ cs, s₁.heap.get? p.2 = some { cls := .none, data := .fields #[] }) (nT : ∀ p ∈ cs, K.lookup p.2 = none) (C : ∀ p ∈ cs, PySem.W.CodeHd s₁.heap p.1 p.2)
    (hbm : ∃ (bm : Addr) (ob : Obj), mg "__builtins__" = some (.ref bm) ∧ bm ≠ builtinsNs ∧ s₁.heap.get? bm = some ob ∧ ob.cls = .type "module" ∧ ob.dict = some builtinsNs ∧ ob.data = .plain)
    (ha : s₁.heap.get? a = some { cls := .type "list", data := .seq vs.toArray }) (hi : IntsAre vs ns) (hl : ns.length ≤ sizeLine) (hr : RmC k callerA) (hsr : s₁.heap.NoSeer)
    (F : ∀ base : Heap, K.In base → base.Ns mainGlobals mg → base.NoSeer → (∀ p ∈ cs, LamX.TabB base mg p.1 p.2) → FnG P w K mg base k fa fd [x] sp) (hbind : ∀ (s : Shared) (u : Value), BindsTo s fd ⟨[u], []⟩ [(x, u)])
    (hsp : ∀ H : Hp, (∀ p ∈ cs, H p.2 = some (.tbl #[])) → SqL K H a (ns.map V.int) → sp [.ref a] H (fun v _ => v = .bl true) fun _ _ _ => False) :
    codeAny (model P w) callerA (.call (.ref fa) ⟨[.ref a], []⟩) (fun r s' => r = .ok (.ret (.bool true)) ∧ OldK s₁.heap s'.heap ∧ s'.os = s₁.os ∧ AllBare s'.gens) s₁ := by
  have rv := vals_ints hi
  have lenV := hi.length
  have isT : ∀ b : Addr, b ∈ cs.map (·.2) → s₁.heap.get? b = some { cls := .none, data := .fields #[] } := fun b hb => by
    obtain ⟨p, hp, e⟩ := List.mem_map.mp hb
    rw [← e]
    exact hT p hp
  have aT : a ∉ cs.map (·.2) := fun z => by
    have q := isT a z
    rw [ha] at q
    have z' : Data.seq vs.toArray _ = Data.fields #[] := congrArg Obj.data (Option.some.inj q)
    cases z'
  have memT : ∀ p ∈ cs, p.2 ∈ cs.map (·.2) := fun p hp => List.mem_map.mpr ⟨p, hp, rfl⟩
  -- from an abstract heap in which nothing but the script and the tables may be tracked
  have core : ∀ H : Hp, (∀ p ∈ cs, H p.2 = some (.tbl #[])) → (∀ b, H b = none ∨ b ∈ cs.map (·.2) ∨ ∃ o xs, H b = some (.frz o (.lst xs))) → SqL K H a (ns.map V.int) → HOk P w H s₁.heap → (∀ b, H b ≠ none → b = a ∨ b ∈ cs.map (·.2)) → (H a ≠ none → K.lookup a = none) →
      codeAny (model P w) callerA (.call (.ref fa) ⟨[.ref a], []⟩) (fun r s' => r = .ok (.ret (.bool true)) ∧ OldK s₁.heap s'.heap ∧ s'.os = s₁.os ∧ AllBare s'.gens) s₁ := by
    intro H hH hO hS hok hA hK
    have base_of : ∀ {b : Addr} {o : Obj}, s₁.heap.get? b = some o → H b = none → (hidT s₁.heap H).get? b = some o := fun e n => hidT_get e n
    have noD : ∀ {b : Addr} {o : Obj}, s₁.heap.get? b = some o → (∀ vs n, o.data ≠ .seq vs n) → o.data ≠ .fields #[] → H b = none := fun {b o} e h1 h2 => by
      cases q : H b with
      | none => rfl
      | some u =>
        rcases hA b (by rw [q]; simp) with e' | e'
        · rw [e', ha] at e
          cases e
          exact (h1 _ _ rfl).elim
        · rw [isT b e'] at e
          cases e
          exact (h2 rfl).elim
    have noA : ∀ {b : Addr} {o : Obj} {es : Array DictEntry} {ep : Nat}, s₁.heap.get? b = some o → o.data = .dict es ep → H b = none := fun {b o es ep} e d => by
      refine noD e (fun vs n z => ?_) fun z => ?_
      · rw [d] at z
        cases z
      · rw [d] at z
        cases z
    have nsK : ∀ {b : Addr} {m : Str → Option Value}, s₁.heap.Ns b m → (hidT s₁.heap H).Ns b m := fun {b m} ⟨o, es, ep, e, d, r⟩ => ⟨o, es, ep, base_of e (noA e d), d, r⟩
    have hKb : K.In (hidT s₁.heap H) := fun b o e => base_of (KX b o e) (by
      cases q : H b with
      | none => rfl
      | some u =>
        rcases hA b (by rw [q]; simp) with e' | e'
        · rw [e'] at e q
          rw [hK (by rw [q]; simp)] at e
          cases e
        · obtain ⟨p, hp, ep⟩ := List.mem_map.mp e'
          rw [← ep, nT p hp] at e
          cases e)
    have hM : L2.Mod K mg (hidT s₁.heap H) := ⟨hKb, nsK hns, ⟨mb, nsK hb, hbb⟩, let ⟨mc, h1, h2⟩ := hlim; ⟨mc, nsK h1, h2⟩⟩
    have hSR : (hidT s₁.heap H).NoSeer := ⟨(let ⟨mc, a, b⟩ := hsr.statics; ⟨mc, nsK a, b⟩), (let ⟨mc, a, b⟩ := hsr.mods; ⟨mc, nsK a, b⟩), (let ⟨mb, a, b⟩ := hsr.imp; ⟨mb, nsK a, b⟩), by
      obtain ⟨bm, ob, b1, b2, b3, b4, b5, b6⟩ := hbm
      refine ⟨mg, bm, ob, nsK hns, b1, base_of b3 (noD b3 (fun vs n z => ?_) fun z => ?_), b4, b5⟩
      · rw [b6] at z
        cases z
      · rw [b6] at z
        cases z⟩
    have TB : ∀ p ∈ cs, LamX.TabB (hidT s₁.heap H) mg p.1 p.2 := fun p hp => by
      have hTp := hT p hp
      refine ⟨?_, ?_, fun z => ?_⟩
      · obtain ⟨o, us, file, tf, flags, tg, inF, text, tt, e1, r1, r2, r3, r4, r5, r6, r7, r8, hne⟩ := C p hp
        refine ⟨o, us, file, tf, flags, tg, inF, text, tt, base_of e1 (noD e1 (fun vs n z => ?_) fun z => ?_), r1, r2, r3, r4, r5, r6, r7, r8, hne⟩
        · rw [r2] at z
          cases z
        · rw [r2] at z
          cases z
          simp at r3
      · obtain ⟨bm, ob, b1, b2, b3, b4, b5, b6⟩ := hbm
        have nG : bm ≠ mainGlobals := fun q => by
          obtain ⟨o, es, ep, e, hd, _⟩ := hns
          rw [q, e] at b3
          cases b3
          rw [hd] at b6
          cases b6
        have nP : bm ≠ p.2 := fun q => by
          rw [q, hTp] at b3
          cases b3
          cases b6
        refine ⟨bm, ob, b1, b2, nG, nP, base_of b3 (noD b3 (fun vs n z => ?_) fun z => ?_), b4, b5, b6⟩
        · rw [b6] at z
          cases z
        · rw [b6] at z
          cases z
      · obtain ⟨o, es, ep, e, hd, _⟩ := hns
        rw [z, hTp] at e
        cases e
        cases hd
    have e0 : Env0 P w K mg (hidT s₁.heap H) callerA [] s₁ H := ⟨rfl, hM, fun b o e => of_hidT e, Nat.le_of_eq (hidT_size _ _), trivial, fun b hb => absurd (show b ∈ ([] : List Addr) from hb) (by simp), hok, .of_eq hg⟩
    refine codeAny_mono ((F _ hKb (nsK hns) hSR TB).run callerA [] s₁ H ⟨[.ref a], []⟩ [.ref a] [.ref a] _ _ hr e0 (hbind s₁ (.ref a)) (.cons rfl .nil) (hsp H hH hS)) fun r s' h => ?_
    cases r with
    | error e => exact (no_cx h).elim
    | ok fl =>
      cases fl with
      | next => exact False.elim h
      | brk => exact False.elim h
      | cont => exact False.elim h
      | ret u =>
        obtain ⟨v, H', os, bare, un, hok', r', q⟩ := h
        have q' : v = .bl true := q
        subst q'
        obtain rfl : u = Value.bool true := r'
        have key : ∀ b o, b ∉ cs.map (·.2) → s₁.heap.get? b = some o → s'.heap.get? b = some o := fun b o nb e => by
          cases q : H b with
          | none => exact un.keep b o e q (by intro z; exact absurd (show b ∈ ([] : List Addr) from z) (by simp)) (by simp)
          | some u =>
            rcases hO b with z | z | ⟨ob, xs, z⟩
            · rw [q] at z; cases z
            · exact absurd z nb
            · have z2 := un.frzs b ob _ z
              obtain ⟨e1, _⟩ := hok b _ z
              obtain ⟨e2, _⟩ := hok' b _ z2
              rw [e] at e1; cases e1
              exact e2
        have grown : ∀ p ∈ cs, ∃ more : Array Value, s'.heap.get? p.2 = some { cls := .none, data := .fields more } := fun p hp => by
          obtain ⟨more, z⟩ := un.tbls p.2 #[] (hH p hp)
          exact ⟨_, hok' p.2 _ z⟩
        refine ⟨rfl, ⟨fun b o e => ?_, fun b o e => ?_⟩, os, bare⟩
        · by_cases hb : b ∈ cs.map (·.2)
          · obtain ⟨p, hp, ep⟩ := List.mem_map.mp hb
            obtain ⟨more, hm⟩ := grown p hp
            rw [← ep] at e ⊢
            rw [hT p hp] at e
            cases e
            exact .inr (.inl ⟨((C p hp).tab (hT p hp)).isCodeTable, rfl, #[], more, rfl, by rw [Array.empty_append]; exact hm⟩)
          · exact .inl (key b o hb e)
        · by_cases hb : b ∈ cs.map (·.2)
          · obtain ⟨p, hp, ep⟩ := List.mem_map.mp hb
            obtain ⟨more, hm⟩ := grown p hp
            rw [← ep]
            exact ⟨_, hm⟩
          · exact ⟨o, key b o hb e⟩
  cases hk : K.lookup a with
  | some o =>
    have e := KX a o hk
    rw [ha] at e
    cases e
    refine core (fun b => if b ∈ cs.map (·.2) then some (.tbl #[]) else none) (fun p hp => if_pos (memT p hp)) (fun b => ?_) (.inr ⟨_, vs.toArray, _, hk, rfl, rfl, rfl, by rw [List.size_toArray, lenV]; exact hl, by simpa using rv⟩) (fun b u z => ?_) (fun b z => ?_) fun z => absurd (show (if a ∈ cs.map (·.2) then some (HO.tbl #[]) else none) = none from if_neg aT) z
    · by_cases hb : b ∈ cs.map (·.2)
      · exact .inr (.inl hb)
      · exact .inl (if_neg hb)
    · by_cases hb : b ∈ cs.map (·.2)
      · have z' := (if_pos hb).symm.trans z
        cases z'
        exact isT b hb
      · have z' := (if_neg hb).symm.trans z
        cases z'
    · by_cases hb : b ∈ cs.map (·.2)
      · exact .inr hb
      · exact absurd (if_neg hb) z
  | none =>
    refine core (fun b => if b = a then some (.frz { cls := .type "list", data := .seq vs.toArray } (.lst (ns.map V.int))) else if b ∈ cs.map (·.2) then some (.tbl #[]) else none) (fun p hp => (if_neg (show ¬ p.2 = a from fun z => aT (by rw [← z]; exact memT p hp))).trans (if_pos (memT p hp))) (fun b => ?_)
      (.inl (.inr ⟨{ cls := .type "list", data := .seq vs.toArray }, if_pos rfl⟩)) (fun b u z => ?_) (fun b z => ?_) fun _ => hk
    · by_cases hb : b = a
      · exact .inr (.inr ⟨_, _, if_pos hb⟩)
      · by_cases hb2 : b ∈ cs.map (·.2)
        · exact .inr (.inl hb2)
        · exact .inl ((if_neg hb).trans (if_neg hb2))
    · by_cases hb : b = a
      · have z' := (if_pos hb).symm.trans z
        cases z'
        rw [hb]
        exact ⟨ha, by rw [List.length_map]; exact hl, vs, _, rv, ha⟩
      · have z1 := (if_neg hb).symm.trans z
        by_cases hb2 : b ∈ cs.map (·.2)
        · have z' := (if_pos hb2).symm.trans z1
          cases z'
          exact isT b hb2
        · have z' := (if_neg hb2).symm.trans z1
          cases z'
    · by_cases hb : b = a
      · exact .inl hb
      · by_cases hb2 : b ∈ cs.map (·.2)
        · exact .inr hb2
        · exact absurd ((if_neg hb).trans (if_neg hb2)) z
theorem walk_ofP {l : PySem.W.OpenLaw} {n k : Nat} {q : Program} {loose : List Str} {XP : (Str → Option Value) → Heap → Prop} {YP : World → Heap → Prop} {d : DefRec} {x : Str} (hn : l.most = some n) (hn2 : n ≤ sizeLine) (hdf : d.params.defaults = []) (hr : RmC k callerA) (hi : PyProof.Rows.importsNone q = true)
    (F : ∀ (w : World) (mg : Str → Option Value) (fa : Addr) (h : Heap), YP w h → h.Ns mainGlobals mg → mg d.name = some (.ref fa) → ∃ (K : PySem.W.Frag) (fd : FuncData) (cs : List (Addr × Addr)) (sp : Sp), K.In h ∧ (∀ p ∈ cs, h.get? p.2 = some { cls := .none, data := .fields #[] }) ∧ (∀ p ∈ cs, K.lookup p.2 = none) ∧ (∀ p ∈ cs, PySem.W.CodeHd h p.1 p.2) ∧ (∀ (s : Shared) (u : Value), BindsTo s fd ⟨[u], []⟩ [(x, u)]) ∧
      (∀ (H : Hp) (a : Addr) (ns : List Int), ns.length ≤ n → (∀ z ∈ ns, Builtin.Int.intBits z ≤ 1048576) → (∀ p ∈ cs, H p.2 = some (.tbl #[])) → SqL K H a (ns.map V.int) → sp [.ref a] H (fun v _ => v = .bl true) fun _ _ _ => False) ∧ ∀ base : Heap, K.In base → base.Ns mainGlobals mg → base.NoSeer → (∀ p ∈ cs, LamX.TabB base mg p.1 p.2) → FnG l.prog w K mg base k fa fd [x] sp) :
    PySem.W.WalkO q loose XP YP l.row.toRowW d [] (fun f vs => PySem.call f vs) :=
  Att.attach_callB hn hdf fun w t0 t1 mg mb fa o pm cd doc a us ns G Y ho hd hcd hmg hobj hints hlen hbits hg => by
    obtain ⟨K, fd, cs, sp, KX, hT, nT, C, hb, hsp, hF⟩ := F w mg fa _ Y G.T.g hmg
    exact lawG KX G.T.g G.T.b G.T.builtins G.T.nolimit hg hT nT C G.T.bmain hobj hints (Nat.le_trans hlen hn2) hr (G.T.seer hi) hF hb fun H hH hS => hsp H a ns hlen hbits hH hS
end Pu
namespace Pu
open PySem L2
variable [TabT]
theorem ite_some {α : Type} (p : Prop) [Decidable p] (a b : α) : ((if p then some a else none) = some b) = (p ∧ a = b) := by
  by_cases h : p
  · rw [if_pos h]
    simp [h]
  · rw [if_neg h]
    simp [h]
/-! ### what a mirror does, from the left -/
variable {α β : Type} {X : Exn → En → Prop} {k : α → En → Prop}
@[simp] theorem qo_ok (a : α) (r : En) : Po X (.ok a r) k = k a r := rfl
@[simp] theorem qo_ex (e : Exn) (r : En) : Po X (.ex e r) k = X e r := rfl
@[simp] theorem qo_no : Po X (.no : Re α) k = False := rfl
@[simp] theorem qo_bind (x : Re β) (f : β → M α) : Po X (x.bind f) k = Po X x fun a r => Po X (f a r) k := by cases x <;> rfl
theorem qo_opt (o : Option α) (r : En) : Po X (M.opt o r) k = ∃ a, o = some a ∧ k a r := by
  cases o with
  | none => simp [M.opt]
  | some a => simp [M.opt]
theorem qo_mono {x : Re α} {k' : α → En → Prop} (h : Po X x k') (i : ∀ a r, k' a r → k a r) : Po X x k := h.mono (fun _ _ z => z) i
theorem qo_true {f : Re RV} (h : Po (fun _ _ => False) f fun rv _ => rv = .v (.bool true)) : ∃ r, f = .ok (.v (.bool true)) r := by
  cases f with
  | ok a r => exact ⟨r, by rw [show a = .v (.bool true) from h]⟩
  | ex e r => exact h.elim
  | no => exact h.elim
@[simp] theorem getS_ap (i : Nat) (r : En) : getS i r = (match r[i]? with
  | some (.v d) => .ok d r
  | _ => .no) := rfl
@[simp] theorem bin_ap (g : D → D → Option D) (a b : M D) (r : En) : bin g a b r = (a r).bind fun x r => (b r).bind fun y r => M.opt (g x y) r := rfl
@[simp] theorem una_ap (g : D → Option D) (a : M D) (r : En) : una g a r = (a r).bind fun x r => M.opt (g x) r := rfl
@[simp] theorem nry_ap (g : List D → Option D) (a : M (List D)) (r : En) : nry g a r = (a r).bind fun x r => M.opt (g x) r := rfl
@[simp] theorem unaO_ap (g : D → Option (List D)) (a : M D) (r : En) : unaO g a r = (a r).bind fun x r => M.opt ((g x).map fun z => .o (.l z)) r := rfl
@[simp] theorem nryO_ap (g : List D → Option (List D)) (a : M (List D)) (r : En) : nryO g a r = (a r).bind fun x r => M.opt ((g x).map fun z => .o (.l z)) r := rfl
@[simp] theorem aNil_ap (r : En) : aNil r = .ok [] r := rfl
@[simp] theorem aCons_ap (a : M D) (b : M (List D)) (r : En) : aCons a b r = (a r).bind fun x r => (b r).bind fun y r => .ok (x :: y) r := rfl
@[simp] theorem frzM_ap (m : M RV) (r : En) : frzM m r = (m r).bind fun rv r => M.opt rv.data r := rfl
@[simp] theorem data_v (d : D) : RV.data (.v d) = some d := rfl
@[simp] theorem data_l (ds : List D) : RV.data (.o (.l ds)) = some (.list ds) := rfl
@[simp] theorem eTup_ap (m : M (List D)) (r : En) : eTup m r = (m r).bind fun ds r => M.opt (szC ds.length (.tuple ds)) r := rfl
@[simp] theorem oLst_ap (m : M (List D)) (r : En) : oLst m r = (m r).bind fun ds r => M.opt (szC ds.length (.o (.l ds))) r := rfl
theorem szC_iff (n : Nat) (a b : α) : (szC n a = some b) = (n ≤ 16777216 ∧ a = b) := by
  unfold szC
  exact ite_some _ _ _
@[simp] theorem tBool_ap (m : M D) (r : En) : tBool m r = (m r).bind fun d r => M.opt (match d with
  | .bool b => some b
  | _ => none) r := rfl
@[simp] theorem tTru_ap (m : M D) (r : En) : tTru m r = (m r).bind fun d r => M.opt (tru d) r := rfl
@[simp] theorem tNotM_ap (m : M Bool) (r : En) : tNotM m r = (m r).bind fun b r => .ok (!b) r := rfl
@[simp] theorem tAndM_ap (m n : M Bool) (r : En) : tAndM m n r = (m r).bind fun b r => if b = true then n r else .ok false r := by
  show (m r).bind (fun b => if b = true then n else M.ret false) = _
  congr 1
  funext b r
  cases b <;> rfl
@[simp] theorem tOrM_ap (m n : M Bool) (r : En) : tOrM m n r = (m r).bind fun b r => if b = true then .ok true r else n r := by
  show (m r).bind (fun b => if b = true then M.ret true else n) = _
  congr 1
  funext b r
  cases b <;> rfl
@[simp] theorem eNot_ap (m : M D) (r : En) : eNot m r = (tBool m r).bind fun b r => .ok (.bool (!b)) r := rfl
@[simp] theorem eNotT_ap (m : M D) (r : En) : eNotT m r = (tTru m r).bind fun b r => .ok (.bool (!b)) r := rfl
@[simp] theorem eAnd_ap (m n : M D) (r : En) : eAnd m n r = (tBool m r).bind fun b r => if b = true then n r else .ok (.bool false) r := by
  show (tBool m r).bind (fun b => if b = true then n else M.ret (.bool false)) = _
  congr 1
  funext b r
  cases b <;> rfl
@[simp] theorem eOr_ap (m n : M D) (r : En) : eOr m n r = (tBool m r).bind fun b r => if b = true then .ok (.bool true) r else n r := by
  show (tBool m r).bind (fun b => if b = true then M.ret (.bool true) else n) = _
  congr 1
  funext b r
  cases b <;> rfl
@[simp] theorem eIf_ap (t : M Bool) (m n : M D) (r : En) : eIf t m n r = (t r).bind fun b r => if b = true then m r else n r := by
  show (t r).bind (fun b => if b = true then m else n) = _
  congr 1
  funext b r
  cases b <;> rfl
@[simp] theorem eChain_ap (g g' : D → D → Option D) (a b d : M D) (r : En) : eChain g g' a b d r = (a r).bind fun x r => (b r).bind fun y r => (M.opt (g x y) r).bind fun z r => (match z with
  | .bool true => (d r).bind fun z r => M.opt (g' y z) r
  | .bool false => .ok (.bool false) r
  | _ => .no) := by
  show (a r).bind (fun x => b.bind fun y => (M.opt (g x y)).bind fun z => (match z with
  | .bool true => d.bind fun z => M.opt (g' y z)
  | .bool false => M.ret (.bool false)
  | _ => M.no)) = _
  congr 1
  funext x r
  show (b r).bind _ = _
  congr 1
  funext y r
  show (M.opt (g x y) r).bind _ = _
  congr 1
  funext z r
  cases z with
  | bool b => cases b <;> rfl
  | _ => rfl
@[simp] theorem setN_ap (i : Nat) (s : Sl) (r : En) : setN i s r = (match r[i]? with
  | some q => if q.isIo = true then none else some (r.set i s)
  | none => none) := by
  unfold setN
  cases r[i]? with
  | none => rfl
  | some q => cases q <;> rfl
@[simp] theorem io_unk : Sl.isIo .unk = false := rfl
@[simp] theorem io_v (d : D) : Sl.isIo (.v d) = false := rfl
@[simp] theorem io_o (c : Ct) : Sl.isIo (.o c) = false := rfl
@[simp] theorem io_io (c : Ct) : Sl.isIo (.io c) = true := rfl
@[simp] theorem setM_ap (i : Nat) (s : Sl) (r : En) : setM i s r = (match setN i s r with
  | some r' => .ok .nx r'
  | none => .no) := rfl
@[simp] theorem slOf_v (d : D) : slOf (.v d) = .v d := rfl
@[simp] theorem slOf_o (d : Ct) : slOf (.o d) = .o d := rfl
@[simp] theorem sSet_ap (i : Nat) (m : M D) (r : En) : sSet i m r = (m r).bind fun d r => setM i (.v d) r := rfl
@[simp] theorem sSetO_ap (i : Nat) (m : M RV) (r : En) : sSetO i m r = (m r).bind fun d r => setM i (slOf d) r := rfl
@[simp] theorem sNil_ap (r : En) : sNil r = .ok .nx r := rfl
theorem sSeq_ap (m n : M Fl) (r : En) : sSeq m n r = (m r).bind fun fl r => (match fl with
  | .nx => n r
  | f => .ok f r) := by
  show (m r).bind (fun fl => (match fl with
  | .nx => n
  | f => M.ret f)) = _
  congr 1
  funext fl r
  cases fl <;> rfl
theorem qo_seq {kk : Fl → En → Prop} (m n : M Fl) (r : En) : Po X (sSeq m n r) kk = Po X (m r) fun fl r => (match fl with
  | .nx => Po X (n r) kk
  | f => kk f r) := by
  rw [sSeq_ap, qo_bind]
  congr 1
  funext fl r
  cases fl <;> rfl
@[simp] theorem sIf_ap (t : M Bool) (a b : M Fl) (r : En) : sIf t a b r = (t r).bind fun x r => if x = true then a r else b r := by
  show (t r).bind (fun x => if x = true then a else b) = _
  congr 1
  funext x r
  cases x <;> rfl
@[simp] theorem qo_ite (p : Prop) [Decidable p] (x y : Re α) : Po X (if p then x else y) k = if p then Po X x k else Po X y k := by split <;> rfl
@[simp] theorem sRet_ap (m : M RV) (r : En) : sRet m r = (m r).bind fun d r => .ok (.rt d) r := rfl
@[simp] theorem sDrop_ap (m : M D) (r : En) : sDrop m r = (m r).bind fun _ r => .ok .nx r := rfl
@[simp] theorem sDropO_ap (m : M RV) (r : En) : sDropO m r = (m r).bind fun _ r => .ok .nx r := rfl
@[simp] theorem frzE_ap (i : Nat) (r : En) : frzE i r = (match r[i]? with
  | some (.o (.l ds)) => r.set i (.v (.list ds))
  | some (.o (.n t)) => (match t.data with
    | some d => r.set i (.v d)
    | none => r)
  | _ => r) := rfl
@[simp] theorem frz_ap (i : Nat) (m : M α) (r : En) : frz i m r = m (frzE i r) := rfl
@[simp] theorem takeS_ap (i : Nat) (r : En) : takeS i r = (match r[i]? with
  | some (.v d) => .ok (.v d) r
  | some (.o ct) => .ok (.o ct) (r.set i .unk)
  | _ => .no) := rfl
@[simp] theorem gN_ap (i : Nat) (d : D) (r : En) : gN i d r = setN i (.v d) r := rfl
@[simp] theorem gT_ap (t : Tgs) (ds : List D) (r : En) : gT t (.tuple ds) r = t ds r := rfl
@[simp] theorem gT_l (t : Tgs) (ds : List D) (r : En) : gT t (.list ds) r = t ds r := rfl
@[simp] theorem gNl_ap (r : En) : gNl [] r = some r := rfl
@[simp] theorem gCn_ap (t : Tg) (ts : Tgs) (d : D) (ds : List D) (r : En) : gCn t ts (d :: ds) r = (t d r).bind fun r' => ts ds r' := rfl
@[simp] theorem sAsg_ap (t : Tg) (m : M D) (r : En) : sAsg t m r = (m r).bind fun d r => (match t d r with
  | some r' => .ok .nx r'
  | none => .no) := rfl
@[simp] theorem sPar_ap (i j : Nat) (m : M (List D)) (r : En) : sPar i j m r = (m r).bind fun ds r => (match ds with
  | [a, b] => (match (setN i (.v a) r).bind (setN j (.v b)) with
    | some r' => .ok .nx r'
    | none => .no)
  | _ => .no) := by
  unfold sPar
  show (m r).bind _ = _
  congr 1
  funext ds r
  rcases ds with _ | ⟨a, _ | ⟨b, _ | ⟨c, ds⟩⟩⟩ <;> rfl
@[simp] theorem iSeq_ap (m : M D) (r : En) : iSeq m r = (m r).bind fun d r => M.opt (seqOf d) r := rfl
@[simp] theorem seqOf_l (ds : List D) : seqOf (.list ds) = some ds := rfl
@[simp] theorem seqOf_t (ds : List D) : seqOf (.tuple ds) = some ds := rfl
@[simp] theorem iBy_ap (g : List D → Option (List D)) (m : M (List D)) (r : En) : iBy g m r = (m r).bind fun ds r => M.opt (g ds) r := rfl
theorem rng1_iff (j : Int) (xs : List D) : (rng1 [.int j] = some xs) = ((-(2 ^ 62) ≤ j ∧ j < 2 ^ 62) ∧ rngD 0 j.toNat = xs) := by
  show (cI (-(2 ^ 62) ≤ j ∧ j < 2 ^ 62) (some (rngD 0 j.toNat)) none = some xs) = _
  rw [cI_eq]
  exact ite_some _ _ _
theorem rng2_iff (i j : Int) (xs : List D) : (rng2 [.int i, .int j] = some xs) = (((-(2 ^ 62) ≤ i ∧ i < 2 ^ 62) ∧ (-(2 ^ 62) ≤ j ∧ j < 2 ^ 62)) ∧ rngD i (j - i).toNat = xs) := by
  show (cI ((-(2 ^ 62) ≤ i ∧ i < 2 ^ 62) ∧ (-(2 ^ 62) ≤ j ∧ j < 2 ^ 62)) (some (rngD i (j - i).toNat)) none = some xs) = _
  rw [cI_eq]
  exact ite_some _ _ _
theorem enF_zip {γ : Type} (g : γ → D) : ∀ (k : Nat) (xs : List γ), enF k (xs.map g) = (xs.zipIdx k).map fun p => .tuple [.int (p.2 : Nat), g p.1]
  | _, [] => rfl
  | k, x :: xs => by
    rw [List.map_cons, List.zipIdx_cons, List.map_cons, ← enF_zip g (k + 1) xs]
    rfl
@[simp] theorem enOf_l {γ : Type} (g : γ → D) (xs : List γ) : enOf [.list (xs.map g)] = some ((xs.zipIdx 0).map fun p => .tuple [.int (p.2 : Nat), g p.1]) := by
  rw [← enF_zip]
  rfl
@[simp] theorem enOf_t {γ : Type} (g : γ → D) (xs : List γ) : enOf [.tuple (xs.map g)] = some ((xs.zipIdx 0).map fun p => .tuple [.int (p.2 : Nat), g p.1]) := by
  rw [← enF_zip]
  rfl
theorem rng_map (lo : Int) (n : Nat) : rngD lo n = (List.range n).map fun k : Nat => PyData.int (lo + (k : Int)) := rfl
@[simp] theorem pNone_ap (r : En) : pNone r = .ok none r := rfl
@[simp] theorem pSome_ap (m : M D) (r : En) : pSome m r = (m r).bind fun d r => M.opt (match d with
  | .int i => some (some i)
  | _ => none) r := rfl
@[simp] theorem eSl_ap (m : M D) (l u : M (Option Int)) (r : En) : eSl m l u r = (m r).bind fun d r => (l r).bind fun a r => (u r).bind fun b r => M.opt (slD d a b) r := rfl
@[simp] theorem slD_l (ds : List D) (a b : Option Int) : slD (.list ds) a b = some (.list (cutL ds a b)) := rfl
@[simp] theorem slD_t (ds : List D) (a b : Option Int) : slD (.tuple ds) a b = some (.tuple (cutL ds a b)) := rfl
@[simp] theorem revD_l (ds : List D) : revD (.list ds) = some (.list ds.reverse) := rfl
@[simp] theorem revD_t (ds : List D) : revD (.tuple ds) = some (.tuple ds.reverse) := rfl
@[simp] theorem sAppend_ap (i : Nat) (m : M D) (r : En) : sAppend i m r = (match getC i r with
  | some (.l _) => (m r).bind fun d r => (match getC i r with
    | some (.l ds) => if ds.length < 16777216 then .ok .nx (putC i (.l (ds ++ [d])) r) else .no
    | _ => .no)
  | _ => .no) := rfl
@[simp] theorem sExtend_ap (i : Nat) (m : M RV) (r : En) : sExtend i m r = (match getC i r with
  | some (.l _) => (m r).bind fun rv r => (match rv, getC i r with
    | .o (.l es), some (.l ds) => if ds.length + es.length ≤ 16777216 then .ok .nx (putC i (.l (ds ++ es)) r) else .no
    | _, _ => .no)
  | _ => .no) := rfl
@[simp] theorem getC_ap (i : Nat) (r : En) : getC i r = (r[i]?).bind Sl.own := rfl
@[simp] theorem putC_ap (i : Nat) (ct : Ct) (r : En) : putC i ct r = (match r[i]? with
  | some s => r.set i (s.put ct)
  | none => r) := rfl
@[simp] theorem own_o (c : Ct) : Sl.own (.o c) = some c := rfl
@[simp] theorem own_io (c : Ct) : Sl.own (.io c) = some c := rfl
@[simp] theorem own_v (d : D) : Sl.own (.v d) = none := rfl
@[simp] theorem own_unk : Sl.own .unk = none := rfl
@[simp] theorem put_o (c c' : Ct) : Sl.put c (.o c') = .o c := rfl
@[simp] theorem put_io (c c' : Ct) : Sl.put c (.io c') = .io c := rfl
@[simp] theorem eIxS_ap (i : Nat) (mk : M D) (r : En) : eIxS i mk r = (match getC i r with
  | some (.l _) => (mk r).bind fun k r => (match getC i r with
    | some (.l ds) => M.opt (ixL ds k) r
    | _ => .no)
  | some (.d _) => (mk r).bind fun k r => (match getC i r with
    | some (.d kvs) => M.opt ((keyD k).bind (vK kvs)) r
    | _ => .no)
  | some (.t _) => .no
  | some (.n _) => .no
  | none => bin ixD (getS i) mk r) := rfl
@[simp] theorem sPut_ap (i : Nat) (mk m : M D) (r : En) : sPut' i mk m r = (m r).bind fun d r => (match getC i r with
  | none => .no
  | some _ => (mk r).bind fun k r => (match getC i r with
    | some (.l ds) => (match k with
      | .int n => (match ixN ds.length n with
        | some j => .ok .nx (putC i (.l (ds.set j d)) r)
        | none => .no)
      | _ => .no)
    | some (.d kvs) => (match keyD k with
      | some y => if kvs.length < 16777216 then .ok .nx (putC i (.d (pK kvs y d)) r) else .no
      | none => .no)
    | some (.t kvs) => (match tkeyD k with
      | some y => if kvs.length < 16777216 then .ok .nx (putC i (.t (pK kvs y d)) r) else .no
      | none => .no)
    | some (.n _) => .no
    | none => .no)) := rfl
@[simp] theorem ixL_ap (ds : List D) (n : Int) : ixL ds (.int n) = atI ds n := rfl
@[simp] theorem ixD_l (ds : List D) (k : D) : ixD (.list ds) k = ixL ds k := rfl
@[simp] theorem ixD_t (ds : List D) (k : D) : ixD (.tuple ds) k = ixL ds k := rfl
@[simp] theorem lenD_l (ds : List D) : lenD (.list ds) = some (.int (ds.length : Nat)) := rfl
@[simp] theorem lenD_t (ds : List D) : lenD (.tuple ds) = some (.int (ds.length : Nat)) := rfl
@[simp] theorem one_ap (g : D → Option D) (d : D) : one g [d] = g d := rfl
@[simp] theorem two_ap (g : D → D → Option D) (d e : D) : two g [d, e] = g d e := rfl
@[simp] theorem eLenS_ap (i : Nat) (r : En) : eLenS i r = (match getC i r with
  | some (.l ds) => .ok (.int (ds.length : Nat)) r
  | some (.d kvs) => .ok (.int (kvs.length : Nat)) r
  | some (.t _) => .no
  | some (.n _) => .no
  | none => nry (one lenD) (aCons (getS i) aNil) r) := rfl
@[simp] theorem addD_i (i j : Int) : addD (.int i) (.int j) = some (.int (i + j)) := rfl
@[simp] theorem addD_l (xs ys : List D) : addD (.list xs) (.list ys) = szC (xs.length + ys.length) (.list (xs ++ ys)) := rfl
@[simp] theorem addD_t (xs ys : List D) : addD (.tuple xs) (.tuple ys) = szC (xs.length + ys.length) (.tuple (xs ++ ys)) := rfl
@[simp] theorem subD_i (i j : Int) : subD (.int i) (.int j) = some (.int (i - j)) := rfl
theorem mulD_iff (i j : Int) (d : D) : (mulD (.int i) (.int j) = some d) = (mulOk i j ∧ .int (i * j) = d) := by
  show (cI (mulOk i j) (some (PyData.int (i * j))) none = some d) = _
  rw [cI_eq]
  exact ite_some _ _ _
theorem fdivD_iff (i j : Int) (d : D) : (fdivD (.int i) (.int j) = some d) = ((j ≠ 0 ∧ j.natAbs.log2 < 9000) ∧ .int (i.fdiv j) = d) := by
  show (cI (j ≠ 0 ∧ j.natAbs.log2 < 9000) (some (PyData.int (i.fdiv j))) none = some d) = _
  rw [cI_eq]
  exact ite_some _ _ _
theorem modD_iff (i j : Int) (d : D) : (modD (.int i) (.int j) = some d) = (j ≠ 0 ∧ .int (i.fmod j) = d) := by
  show (cI (j ≠ 0) (some (PyData.int (i.fmod j))) none = some d) = _
  rw [cI_eq]
  exact ite_some _ _ _
theorem powD_iff (i j : Int) (d : D) : (powD (.int i) (.int j) = some d) = ((0 ≤ j ∧ j ≤ 1000000 ∧ i.natAbs < 2 ^ 64) ∧ .int (i ^ j.toNat) = d) := by
  show (cI (0 ≤ j ∧ j ≤ 1000000 ∧ i.natAbs < 2 ^ 64) (some (PyData.int (i ^ j.toNat))) none = some d) = _
  rw [cI_eq]
  exact ite_some _ _ _
@[simp] theorem negD_i (i : Int) : negD (.int i) = some (.int (-i)) := rfl
@[simp] theorem ltD_i (i j : Int) : ltD (.int i) (.int j) = some (.bool (decide (i < j))) := congrArg (fun b => some (PyData.bool b)) (cd_eq _)
@[simp] theorem leD_i (i j : Int) : leD (.int i) (.int j) = some (.bool (decide (i ≤ j))) := congrArg (fun b => some (PyData.bool b)) (cd_eq _)
@[simp] theorem gtD_i (i j : Int) : gtD (.int i) (.int j) = some (.bool (decide (j < i))) := congrArg (fun b => some (PyData.bool b)) (cd_eq _)
@[simp] theorem geD_i (i j : Int) : geD (.int i) (.int j) = some (.bool (decide (j ≤ i))) := congrArg (fun b => some (PyData.bool b)) (cd_eq _)
@[simp] theorem eqD_i (i j : Int) : eqD (.int i) (.int j) = some (.bool (decide (i = j))) := by
  show some (PyData.bool (i == j)) = _
  congr 2
@[simp] theorem neD_i (i j : Int) : neD (.int i) (.int j) = some (.bool (!decide (i = j))) := by
  show some (PyData.bool (!(i == j))) = _
  congr 2
@[simp] theorem eqD_s (i j : Str) : eqD (.str i) (.str j) = some (.bool (decide (i = j))) := rfl
@[simp] theorem neD_s (i j : Str) : neD (.str i) (.str j) = some (.bool (!decide (i = j))) := rfl
theorem eqD_ll {xs ys : List D} (h1 : SeqAt.shaped (.list xs) = true) (h2 : SeqAt.shaped (.list ys) = true) : eqD (.list xs) (.list ys) = some (.bool (PyData.eqvAll xs ys)) := if_pos ⟨h1, h2⟩
theorem neD_ll {xs ys : List D} (h1 : SeqAt.shaped (.list xs) = true) (h2 : SeqAt.shaped (.list ys) = true) : neD (.list xs) (.list ys) = some (.bool (!PyData.eqvAll xs ys)) := if_pos ⟨h1, h2⟩
theorem eqD_tt {xs ys : List D} (h1 : SeqAt.shaped (.tuple xs) = true) (h2 : SeqAt.shaped (.tuple ys) = true) : eqD (.tuple xs) (.tuple ys) = some (.bool (PyData.eqvAll xs ys)) := if_pos ⟨h1, h2⟩
theorem neD_tt {xs ys : List D} (h1 : SeqAt.shaped (.tuple xs) = true) (h2 : SeqAt.shaped (.tuple ys) = true) : neD (.tuple xs) (.tuple ys) = some (.bool (!PyData.eqvAll xs ys)) := if_pos ⟨h1, h2⟩
/-! plain data: whole numbers, yes and no, None, rows of such -/
mutual
def pln : D → Bool
  | .none => true
  | .bool _ => true
  | .int i => decide (i.natAbs < 2 ^ 1900)
  | .str x => (PyData.str x).showable && ((PyData.str x).canLay0 && (PyData.str x).leavesShort 1901)
  | .list xs => plnAll xs
  | .tuple xs => plnAll xs
  | .dict _ => false
def plnAll : List D → Bool
  | [] => true
  | x :: xs => pln x && plnAll xs
end
theorem int_len {i : Int} (h : i.natAbs < 2 ^ 1900) : (PyData.shown (.int i)).length ≤ 1901 := by
  show (Str.ofString (toString i)).length ≤ 1901
  rw [ofString_length]
  exact int_text_length_le (k := 1900) (by decide) (PySem.Flt.log2_lt_of (by decide) h)
mutual
theorem pln_ok : ∀ d : D, pln d = true → d.showable = true ∧ d.canLay0 = true ∧ d.leavesShort 1901 = true
  | .none, _ => ⟨rfl, rfl, rfl⟩
  | .bool _, _ => ⟨rfl, rfl, rfl⟩
  | .int i, h => by
    have h : i.natAbs < 2 ^ 1900 := of_decide_eq_true h
    refine ⟨?_, rfl, ?_⟩
    · exact decide_eq_true (by
        have : i.natAbs.log2 < 1900 := PySem.Flt.log2_lt_of (by decide) h
        omega)
    · exact decide_eq_true (int_len h)
  | .str x, h => by
    have h : ((PyData.str x).showable && ((PyData.str x).canLay0 && (PyData.str x).leavesShort 1901)) = true := h -- pln_str
    rw [Bool.and_eq_true, Bool.and_eq_true] at h
    exact ⟨h.1, h.2.1, h.2.2⟩
  | .list xs, h => plnAll_ok xs h
  | .tuple xs, h => plnAll_ok xs h
  | .dict _, h => by cases h
theorem plnAll_ok : ∀ xs : List D, plnAll xs = true → PyData.showableAll xs = true ∧ PyData.canLayAll0 xs = true ∧ PyData.leavesShortAll 1901 xs = true
  | [], _ => ⟨rfl, rfl, rfl⟩
  | x :: xs, h => by
    have h : (pln x && plnAll xs) = true := h
    obtain ⟨h1, h2⟩ := Bool.and_eq_true_iff.mp h
    obtain ⟨a1, a2, a3⟩ := pln_ok x h1
    obtain ⟨b1, b2, b3⟩ := plnAll_ok xs h2
    exact ⟨Bool.and_eq_true_iff.mpr ⟨a1, b1⟩, Bool.and_eq_true_iff.mpr ⟨a2, b2⟩, Bool.and_eq_true_iff.mpr ⟨a3, b3⟩⟩
end
theorem pln_shaped {d : D} (h : pln d = true) (hd : d.depth ≤ 64) : SeqAt.shaped d = true := Bool.and_eq_true_iff.mpr ⟨(pln_ok d h).2.1, decide_eq_true hd⟩
theorem plnAll_map {γ : Type} (f : γ → D) : ∀ xs : List γ, (∀ x ∈ xs, pln (f x) = true) → plnAll (xs.map f) = true
  | [], _ => rfl
  | x :: xs, h => Bool.and_eq_true_iff.mpr ⟨h x (List.mem_cons_self ..), plnAll_map f xs fun y hy => h y (List.mem_cons_of_mem _ hy)⟩
theorem depthAll_map {γ : Type} (f : γ → D) (k : Nat) : ∀ xs : List γ, (∀ x ∈ xs, (f x).depth ≤ k) → PyData.depthAll (xs.map f) ≤ k
  | [], _ => Nat.zero_le _
  | x :: xs, h => by
    have h1 := h x (List.mem_cons_self ..)
    have h2 := depthAll_map f k xs fun y hy => h y (List.mem_cons_of_mem _ hy)
    simp only [List.map_cons, PyData.depthAll]
    omega
theorem bulkAll_map {γ : Type} (f : γ → D) (k : Nat) : ∀ xs : List γ, (∀ x ∈ xs, (f x).bulk ≤ k) → PyData.bulkAll (xs.map f) ≤ (k + 1) * xs.length
  | [], _ => Nat.zero_le _
  | x :: xs, h => by
    have h1 := h x (List.mem_cons_self ..)
    have h2 := bulkAll_map f k xs fun y hy => h y (List.mem_cons_of_mem _ hy)
    simp only [List.map_cons, PyData.bulkAll, List.length_cons, Nat.mul_add, Nat.mul_one]
    omega
theorem lay_ints : ∀ xs : List Int, PyData.canLayAll0 (xs.map .int) = true
  | [] => rfl
  | _ :: xs => lay_ints xs
theorem shaped_t (xs : List Int) : SeqAt.shaped (.tuple (xs.map .int)) = true := Bool.and_eq_true_iff.mpr ⟨lay_ints xs, decide_eq_true (by
  have := depthAll_map PyData.int 1 xs fun x _ => by simp [PyData.depth]
  simp only [PyData.depth]
  omega)⟩
theorem shaped_l (xs : List Int) : SeqAt.shaped (.list (xs.map .int)) = true := Bool.and_eq_true_iff.mpr ⟨lay_ints xs, decide_eq_true (by
  have := depthAll_map PyData.int 1 xs fun x _ => by simp [PyData.depth]
  simp only [PyData.depth]
  omega)⟩
theorem eqv_ints : ∀ xs ys : List Int, PyData.eqvAll (xs.map .int) (ys.map .int) = decide (xs = ys)
  | [], [] => rfl
  | [], _ :: _ => rfl
  | _ :: _, [] => rfl
  | x :: xs, y :: ys => by
    show ((x == y) && PyData.eqvAll (xs.map .int) (ys.map .int)) = _
    rw [eqv_ints xs ys]
    by_cases h1 : x = y
    · by_cases h2 : xs = ys
      · simp [h1, h2]
      · simp [h1, h2]
    · simp [h1]
@[simp] theorem eqD_T (xs ys : List Int) : eqD (.tuple (xs.map .int)) (.tuple (ys.map .int)) = some (.bool (decide (xs = ys))) := by
  rw [eqD_tt (shaped_t _) (shaped_t _), eqv_ints]
@[simp] theorem neD_T (xs ys : List Int) : neD (.tuple (xs.map .int)) (.tuple (ys.map .int)) = some (.bool (!decide (xs = ys))) := by
  rw [neD_tt (shaped_t _) (shaped_t _), eqv_ints]
@[simp] theorem eqD_L (xs ys : List Int) : eqD (.list (xs.map .int)) (.list (ys.map .int)) = some (.bool (decide (xs = ys))) := by
  rw [eqD_ll (shaped_l _) (shaped_l _), eqv_ints]
@[simp] theorem neD_L (xs ys : List Int) : neD (.list (xs.map .int)) (.list (ys.map .int)) = some (.bool (!decide (xs = ys))) := by
  rw [neD_ll (shaped_l _) (shaped_l _), eqv_ints]
@[simp] theorem neD_b (i j : Bool) : neD (.bool i) (.bool j) = some (.bool (!decide (i = j))) := by
  show some (PyData.bool (!(i == j))) = _
  congr 2
@[simp] theorem eqD_b (i j : Bool) : eqD (.bool i) (.bool j) = some (.bool (decide (i = j))) := by
  show some (PyData.bool (i == j)) = _
  congr 2
@[simp] theorem tru_b (b : Bool) : tru (.bool b) = some b := rfl
@[simp] theorem tru_i (i : Int) : tru (.int i) = some (i != 0) := rfl
@[simp] theorem tru_l (ds : List D) : tru (.list ds) = some (!ds.isEmpty) := rfl
@[simp] theorem tru_t (ds : List D) : tru (.tuple ds) = some (!ds.isEmpty) := rfl
@[simp] theorem absD_i (i : Int) : absD (.int i) = some (.int (if i < 0 then -i else i)) := rfl
@[simp] theorem tupD_l (ds : List D) : tupD (.list ds) = some (.tuple ds) := rfl
@[simp] theorem tupD_t (ds : List D) : tupD (.tuple ds) = some (.tuple ds) := rfl
@[simp] theorem isi_ii (i : Int) : isiD "int" (.int i) = some (.bool true) := by kernel_rfl
@[simp] theorem isi_ib (i : Int) : isiD "bool" (.int i) = some (.bool false) := by kernel_rfl
@[simp] theorem isi_it (i : Int) : isiD "tuple" (.int i) = some (.bool false) := by kernel_rfl
@[simp] theorem isi_tt (ds : List D) : isiD "tuple" (.tuple ds) = some (.bool true) := by kernel_rfl
@[simp] theorem isi_ll (ds : List D) : isiD "list" (.list ds) = some (.bool true) := by kernel_rfl
@[simp] theorem eqS_ap (i : Nat) (mb : M D) (r : En) : eqS i mb r = (match getC i r with
  | some (.l _) => (mb r).bind fun d r => (match getC i r with
    | some (.l ds) => M.opt (eqD0 (.list ds) d) r
    | _ => .no)
  | some (.d _) => .no
  | some (.t _) => .no
  | some (.n _) => .no
  | none => bin eqD (getS i) mb r) := rfl
@[simp] theorem neS_ap (i : Nat) (mb : M D) (r : En) : neS i mb r = (match getC i r with
  | some (.l _) => (mb r).bind fun d r => (match getC i r with
    | some (.l ds) => M.opt (neD (.list ds) d) r
    | _ => .no)
  | some (.d _) => .no
  | some (.t _) => .no
  | some (.n _) => .no
  | none => bin neD (getS i) mb r) := rfl
@[simp] theorem cCall0_ap (f : List Sl → Re RV) (r : En) : cCall0 f r = cCall f aNil r := rfl
@[simp] theorem binO_ap (g : D → D → Option RV) (a b : M D) (r : En) : binO g a b r = (a r).bind fun x r => (b r).bind fun y r => M.opt (g x y) r := rfl
@[simp] theorem addO_l (xs ys : List D) : addO (.list xs) (.list ys) = szC (xs.length + ys.length) (.o (.l (xs ++ ys))) := rfl
@[simp] theorem addO_t (xs ys : List D) : addO (.tuple xs) (.tuple ys) = (szC (xs.length + ys.length) (PyData.tuple (xs ++ ys))).map .v := rfl
@[simp] theorem listD_t (xs : List D) : listD [.tuple xs] = some xs := rfl
@[simp] theorem listD_l (xs : List D) : listD [.list xs] = some xs := rfl
@[simp] theorem addO_i (i j : Int) : addO (.int i) (.int j) = some (.v (.int (i + j))) := rfl
@[simp] theorem mulO_iff (xs : List D) (k : Int) (d : RV) : (mulO (.list xs) (.int k) = some d) = (((-(2 ^ 63) ≤ k ∧ k < 2 ^ 63) ∧ xs.length * k.toNat ≤ 16777216) ∧ .o (.l (List.replicate k.toNat xs).flatten) = d) := by
  show (cI ((-(2 ^ 63) ≤ k ∧ k < 2 ^ 63) ∧ xs.length * k.toNat ≤ 16777216) (some (RV.o (.l (List.replicate k.toNat xs).flatten))) none = some d) = _
  rw [cI_eq]
  exact ite_some _ _ _
@[simp] theorem sAppX_ap (m : M RV) (r : En) : sAppX m r = (m r).bind fun rv r => (match rv with
  | .o (.l ds) => if ds.length < 16777216 then .ok .nx r else .no
  | _ => .no) := by
  show (m r).bind _ = _
  congr 1
  funext rv r
  rcases rv with d | ct
  · rfl
  · cases ct with
    | l ds =>
      simp only
      split <;> rfl
    | d kvs => rfl
    | t kvs => rfl
    | n t => rfl
/-! an answer with a condition -/
@[simp] theorem qo_szM {γ : Type} (n : Nat) (a : γ) (f : γ → α) (r : En) : Po X (M.opt ((szC n a).map f) r) k = (n ≤ 16777216 ∧ k (f a) r) := by
  unfold szC
  by_cases h : n ≤ 16777216
  · rw [if_pos h]
    simp [h]
  · rw [if_neg h]
    simp [h]
@[simp] theorem qo_szC (n : Nat) (a : α) (r : En) : Po X (M.opt (szC n a) r) k = (n ≤ 16777216 ∧ k a r) := by
  rw [qo_opt]
  simp only [szC_iff]
  exact propext ⟨fun ⟨_, ⟨h, e⟩, q⟩ => ⟨h, by rw [e]; exact q⟩, fun ⟨h, q⟩ => ⟨a, ⟨h, rfl⟩, q⟩⟩
section
variable {kd : D → En → Prop} {kl : List D → En → Prop}
@[simp] theorem qo_rng1 (j : Int) (r : En) : Po X (M.opt (rng1 [.int j]) r) kl = ((-(2 ^ 62) ≤ j ∧ j < 2 ^ 62) ∧ kl (rngD 0 j.toNat) r) := by
  rw [qo_opt]
  simp only [rng1_iff]
  exact propext ⟨fun ⟨_, ⟨h, e⟩, q⟩ => ⟨h, by rw [e]; exact q⟩, fun ⟨h, q⟩ => ⟨_, ⟨h, rfl⟩, q⟩⟩
@[simp] theorem qo_rng2 (i j : Int) (r : En) : Po X (M.opt (rng2 [.int i, .int j]) r) kl = (((-(2 ^ 62) ≤ i ∧ i < 2 ^ 62) ∧ (-(2 ^ 62) ≤ j ∧ j < 2 ^ 62)) ∧ kl (rngD i (j - i).toNat) r) := by
  rw [qo_opt]
  simp only [rng2_iff]
  exact propext ⟨fun ⟨_, ⟨h, e⟩, q⟩ => ⟨h, by rw [e]; exact q⟩, fun ⟨h, q⟩ => ⟨_, ⟨h, rfl⟩, q⟩⟩
@[simp] theorem qo_mul (i j : Int) (r : En) : Po X (M.opt (mulD (.int i) (.int j)) r) kd = (mulOk i j ∧ kd (.int (i * j)) r) := by
  rw [qo_opt]
  simp only [mulD_iff]
  exact propext ⟨fun ⟨_, ⟨h, e⟩, q⟩ => ⟨h, by rw [e]; exact q⟩, fun ⟨h, q⟩ => ⟨_, ⟨h, rfl⟩, q⟩⟩
@[simp] theorem qo_fdiv (i j : Int) (r : En) : Po X (M.opt (fdivD (.int i) (.int j)) r) kd = ((j ≠ 0 ∧ j.natAbs.log2 < 9000) ∧ kd (.int (i.fdiv j)) r) := by
  rw [qo_opt]
  simp only [fdivD_iff]
  exact propext ⟨fun ⟨_, ⟨h, e⟩, q⟩ => ⟨h, by rw [e]; exact q⟩, fun ⟨h, q⟩ => ⟨_, ⟨h, rfl⟩, q⟩⟩
@[simp] theorem qo_mod (i j : Int) (r : En) : Po X (M.opt (modD (.int i) (.int j)) r) kd = (j ≠ 0 ∧ kd (.int (i.fmod j)) r) := by
  rw [qo_opt]
  simp only [modD_iff]
  exact propext ⟨fun ⟨_, ⟨h, e⟩, q⟩ => ⟨h, by rw [e]; exact q⟩, fun ⟨h, q⟩ => ⟨_, ⟨h, rfl⟩, q⟩⟩
@[simp] theorem qo_pow (i j : Int) (r : En) : Po X (M.opt (powD (.int i) (.int j)) r) kd = ((0 ≤ j ∧ j ≤ 1000000 ∧ i.natAbs < 2 ^ 64) ∧ kd (.int (i ^ j.toNat)) r) := by
  rw [qo_opt]
  simp only [powD_iff]
  exact propext ⟨fun ⟨_, ⟨h, e⟩, q⟩ => ⟨h, by rw [e]; exact q⟩, fun ⟨h, q⟩ => ⟨_, ⟨h, rfl⟩, q⟩⟩
@[simp] theorem qo_mulO {kr : RV → En → Prop} (xs : List D) (j : Int) (r : En) : Po X (M.opt (mulO (.list xs) (.int j)) r) kr = (((-(2 ^ 63) ≤ j ∧ j < 2 ^ 63) ∧ xs.length * j.toNat ≤ 16777216) ∧ kr (.o (.l (List.replicate j.toNat xs).flatten)) r) := by
  rw [qo_opt]
  simp only [mulO_iff]
  exact propext ⟨fun ⟨_, ⟨h, e⟩, q⟩ => ⟨h, by rw [e]; exact q⟩, fun ⟨h, q⟩ => ⟨_, ⟨h, rfl⟩, q⟩⟩
@[simp] theorem qo_mulL (xs : List D) (k : Int) (r : En) : Po X (M.opt (mulD (.list xs) (.int k)) r) kd = (((-(2 ^ 63) ≤ k ∧ k < 2 ^ 63) ∧ xs.length * k.toNat ≤ 16777216) ∧ kd (.list (List.replicate k.toNat xs).flatten) r) := by
  rw [qo_opt]
  show (∃ a, cI ((-(2 ^ 63) ≤ k ∧ k < 2 ^ 63) ∧ xs.length * k.toNat ≤ 16777216) (some (PyData.list (List.replicate k.toNat xs).flatten)) none = some a ∧ kd a r) = _
  rw [cI_eq]
  simp only [ite_some]
  exact propext ⟨fun ⟨_, ⟨h, e⟩, q⟩ => ⟨h, by rw [e]; exact q⟩, fun ⟨h, q⟩ => ⟨_, ⟨h, rfl⟩, q⟩⟩
@[simp] theorem qo_mulT (xs : List D) (k : Int) (r : En) : Po X (M.opt (mulD (.tuple xs) (.int k)) r) kd = ((-1000 ≤ k ∧ k ≤ 1000 ∧ xs.length ≤ 1000) ∧ kd (.tuple (List.replicate k.toNat xs).flatten) r) := by
  rw [qo_opt]
  show (∃ a, cI (-1000 ≤ k ∧ k ≤ 1000 ∧ xs.length ≤ 1000) (some (PyData.tuple (List.replicate k.toNat xs).flatten)) none = some a ∧ kd a r) = _
  rw [cI_eq]
  simp only [ite_some]
  exact propext ⟨fun ⟨_, ⟨h, e⟩, q⟩ => ⟨h, by rw [e]; exact q⟩, fun ⟨h, q⟩ => ⟨_, ⟨h, rfl⟩, q⟩⟩
@[simp] theorem qo_at (xs : List D) (n : Int) (r : En) : Po X (M.opt (atI xs n) r) kd = ∃ d, atI xs n = some d ∧ kd d r := qo_opt _ _
@[simp] theorem atI_nat {α : Type} (xs : List α) (i : Nat) : atI xs (i : Int) = xs[i]? := by
  unfold atI ixN
  rw [if_pos (by omega)]
  by_cases h : i < xs.length
  · rw [if_pos (by omega)]
    simp
  · rw [if_neg (by omega), List.getElem?_eq_none (by omega)]
    rfl
theorem atI_map {α β : Type} (f : α → β) (xs : List α) (n : Int) : atI (xs.map f) n = (atI xs n).map f := by
  unfold atI
  rw [List.length_map]
  cases ixN xs.length n with
  | none => rfl
  | some j => simp
@[simp high] theorem qo_atI (xs : List Int) (n : Int) (r : En) : Po X (M.opt (atI (xs.map .int) n) r) kd = ∃ c, atI xs n = some c ∧ kd (.int c) r := by
  rw [qo_opt, atI_map]
  cases atI xs n with
  | none => simp
  | some c => simp
end
/-! calls -/
@[simp] theorem qo_call {kk : RV → En → Prop} (f : List Sl → Re RV) (ms : M (List D)) (r : En) : Po X (cCall f ms r) kk = Po X (ms r) fun ds r => Po (fun e _ => X e r) (f (ds.map .v)) fun rv _ => kk rv r := by
  show Po X ((ms r).bind _) kk = _
  rw [qo_bind]
  congr 1
  funext ds r
  cases f (ds.map .v) <;> rfl
def InIo (P : Ct → Prop) : List Sl → Prop
  | .io c :: _ => P c
  | _ => False
@[simp] theorem inIo (P : Ct → Prop) (c : Ct) (t : List Sl) : InIo P (.io c :: t) = P c := rfl
@[simp] theorem qo_callI {kk : RV → En → Prop} (f : List Sl → Re RV) (ms : M (List D)) (i : Nat) (r : En) : Po X (cCallI i f ms r) kk = (match getC i r with
  | none => False
  | some _ => Po X (ms r) fun ds r1 => (match getC i r1 with
    | none => False
    | some ct => Po (fun e z => InIo (fun c => X e (putC i c r1)) z) (f (.io ct :: ds.map .v)) fun rv z => InIo (fun c => kk rv (putC i c r1)) z)) := by
  unfold cCallI
  cases getC i r with
  | none => rfl
  | some c0 =>
    show Po X ((ms r).bind _) kk = _
    rw [qo_bind]
    simp only
    congr 1
    funext ds r1
    cases getC i r1 with
    | none => rfl
    | some ct =>
      simp only
      cases f (.io ct :: ds.map .v) with
      | no => rfl
      | ok rv z => rcases z with _ | ⟨q, z⟩ <;> first | rfl | (cases q <;> rfl)
      | ex rv z => rcases z with _ | ⟨q, z⟩ <;> first | rfl | (cases q <;> rfl)
theorem qo_fn {kk : RV → List Sl → Prop} {n : Nat} {m : M Fl} {rs : List Sl} (h : Po (fun e r => ∃ z, backA rs r = some z ∧ X e z) (m (rs ++ List.replicate (n - rs.length) .unk)) fun fl r => ∃ rv z, backA rs r = some z ∧ (fl = .rt rv ∨ (fl = .nx ∧ rv = .v .none)) ∧ kk rv z) : Po X (fnOf n m rs) kk := by
  unfold fnOf backR flRv
  cases hm : m (rs ++ List.replicate (n - rs.length) .unk) with
  | ok fl r =>
    rw [hm] at h
    obtain ⟨rv, z, hz, hfl, hk⟩ := h
    rcases hfl with rfl | ⟨rfl, rfl⟩
    · simp only [hz]
      exact hk
    · simp only [hz]
      exact hk
  | ex e r =>
    rw [hm] at h
    obtain ⟨z, hz, hk⟩ := h
    simp only [hz]
    exact hk
  | no =>
    rw [hm] at h
    exact h.elim
@[simp] theorem backA_nil (r : En) : backA [] r = some [] := rfl
@[simp] theorem backA_io (c c' : Ct) (s : List Sl) (r : En) : backA (.io c :: s) (.io c' :: r) = (backA s r).map fun z => .io c' :: z := rfl
@[simp] theorem backA_v (d : D) (s : List Sl) (q : Sl) (r : En) : backA (.v d :: s) (q :: r) = (backA s r).map fun z => .v d :: z := rfl
/-! loops -/
theorem qo_for {kk : Fl → En → Prop} {tg : Tg} {b : M Fl} (I : List D → List D → En → Prop) : ∀ (xs done : List D) (r : En), I done xs r →
    (∀ done x xs r, I done (x :: xs) r → ∃ r1, tg x r = some r1 ∧ Po X (b r1) fun fl r2 => (match fl with
      | .nx => I (done ++ [x]) xs r2
      | .ct => I (done ++ [x]) xs r2
      | .bk => kk .nx r2
      | .rt v => kk (.rt v) r2)) → (∀ done r, I done [] r → kk .nx r) → Po X (forL tg b xs r) kk
  | [], done, r, h0, hs, he => he done r h0
  | x :: xs, done, r, h0, hs, he => by
    obtain ⟨r1, h1, h2⟩ := hs done x xs r h0
    unfold forL
    rw [h1]
    simp only
    cases hb : b r1 with
    | no =>
      rw [hb] at h2
      exact h2.elim
    | ex e r2 =>
      rw [hb] at h2
      exact h2
    | ok fl r2 =>
      rw [hb] at h2
      cases fl with
      | nx => exact qo_for I xs (done ++ [x]) r2 h2 hs he
      | ct => exact qo_for I xs (done ++ [x]) r2 h2 hs he
      | bk => exact h2
      | rt v => exact h2
/-- over a list of things told as data -/
theorem qo_forM {γ : Type} {kk : Fl → En → Prop} {tg : Tg} {b : M Fl} {f : γ → D} (I : List γ → En → Prop) (xs : List γ) (r : En) (h0 : I [] r)
    (hs : ∀ done x rest r, xs = done ++ x :: rest → I done r → ∃ r1, tg (f x) r = some r1 ∧ Po X (b r1) fun fl r2 => (match fl with
      | .nx => I (done ++ [x]) r2
      | .ct => I (done ++ [x]) r2
      | .bk => kk .nx r2
      | .rt v => kk (.rt v) r2)) (he : ∀ r, I xs r → kk .nx r) : Po X (forL tg b (xs.map f) r) kk := by
  refine qo_for (fun d1 rest r => ∃ done xs2, xs = done ++ xs2 ∧ rest = xs2.map f ∧ I done r) _ [] r ⟨[], xs, rfl, rfl, h0⟩ ?_ ?_
  · rintro d1 x rest r ⟨done, xs2, e1, e2, hI⟩
    cases xs2 with
    | nil => cases e2
    | cons y ys =>
      cases e2
      obtain ⟨r1, h1, h2⟩ := hs done y ys r e1 hI
      refine ⟨r1, h1, qo_mono h2 fun fl r2 q => ?_⟩
      have e3 : xs = (done ++ [y]) ++ ys := by rw [e1]; simp
      cases fl with
      | nx => exact ⟨_, ys, e3, rfl, q⟩
      | ct => exact ⟨_, ys, e3, rfl, q⟩
      | bk => exact q
      | rt v => exact q
  · rintro d1 r ⟨done, xs2, e1, e2, hI⟩
    cases xs2 with
    | nil =>
      rw [List.append_nil] at e1
      subst e1
      exact he r hI
    | cons y ys => cases e2
/-- range(n): the invariant by the number of turns -/
theorem qo_rng {kk : Fl → En → Prop} {tg : Tg} {b : M Fl} {lo : Int} (I : Nat → En → Prop) (n : Nat) (r : En) (h0 : I 0 r)
    (hs : ∀ i r, i < n → I i r → ∃ r1, tg (.int (lo + (i : Nat))) r = some r1 ∧ Po X (b r1) fun fl r2 => (match fl with
      | .nx => I (i + 1) r2
      | .ct => I (i + 1) r2
      | .bk => kk .nx r2
      | .rt v => kk (.rt v) r2)) (he : ∀ r, I n r → kk .nx r) : Po X (forL tg b (rngD lo n) r) kk := by
  refine qo_forM (f := fun k : Nat => PyData.int (lo + (k : Nat))) (fun done r => I done.length r) (List.range n) r h0 ?_ ?_
  · intro done x rest r e hI
    have hl : (List.range n).length = (done ++ x :: rest).length := by rw [e]
    rw [List.length_range, List.length_append, List.length_cons] at hl
    have hx : x = done.length := by
      have h1 : (List.range n)[done.length]? = some x := by rw [e]; simp
      rw [List.getElem?_range (by omega)] at h1
      cases h1
      rfl
    subst hx
    obtain ⟨r1, h1, h2⟩ := hs done.length r (by omega) hI
    refine ⟨r1, h1, qo_mono h2 fun fl r2 q => ?_⟩
    rw [List.length_append, List.length_singleton]
    exact q
  · intro r h
    rw [List.length_range] at h
    exact he r h
@[simp] theorem sFor_ap (src : M (List D)) (tg : Tg) (b : M Fl) (r : En) : sFor src tg b r = (src r).bind fun xs r => forL tg b xs r := rfl
theorem qo_while {kk : Fl → En → Prop} {t : M Bool} {b : M Fl} (I : Nat → En → Prop)
    (hs : ∀ n r, I n r → Po X (t r) fun x r1 => if x = true then Po X (b r1) fun fl r2 => (match fl with
      | .nx => ∃ m, m < n ∧ I m r2
      | .ct => ∃ m, m < n ∧ I m r2
      | .bk => kk .nx r2
      | .rt v => kk (.rt v) r2) else kk .nx r1) (n : Nat) (r : En) (h0 : I n r) : Po X (sWhile t b r) kk := by
  have key : ∀ n r, I n r → ∃ f, Po X (wloop t b f r) kk := by
    intro n
    induction n using Nat.strongRecOn with
    | ind n ih =>
      intro r h
      have h1 := hs n r h
      cases ht : t r with
      | no =>
        rw [ht] at h1
        exact h1.elim
      | ex e r1 =>
        rw [ht] at h1
        refine ⟨1, ?_⟩
        unfold wloop
        rw [ht]
        exact h1
      | ok x r1 =>
        rw [ht] at h1
        cases x with
        | false =>
          refine ⟨1, ?_⟩
          unfold wloop
          rw [ht]
          exact h1
        | true =>
          have h2 : Po X (b r1) fun fl r2 => (match fl with
            | .nx => ∃ m, m < n ∧ I m r2
            | .ct => ∃ m, m < n ∧ I m r2
            | .bk => kk .nx r2
            | .rt v => kk (.rt v) r2) := h1
          cases hb : b r1 with
          | no =>
            rw [hb] at h2
            exact h2.elim
          | ex e r2 =>
            rw [hb] at h2
            refine ⟨1, ?_⟩
            unfold wloop
            rw [ht]
            simp only [hb]
            exact h2
          | ok fl r2 =>
            rw [hb] at h2
            cases fl with
            | nx =>
              obtain ⟨m, hm, h3⟩ := h2
              obtain ⟨f, hf⟩ := ih m hm r2 h3
              refine ⟨f + 1, ?_⟩
              unfold wloop
              rw [ht]
              simp only [hb]
              exact hf
            | ct =>
              obtain ⟨m, hm, h3⟩ := h2
              obtain ⟨f, hf⟩ := ih m hm r2 h3
              refine ⟨f + 1, ?_⟩
              unfold wloop
              rw [ht]
              simp only [hb]
              exact hf
            | bk =>
              refine ⟨1, ?_⟩
              unfold wloop
              rw [ht]
              simp only [hb]
              exact h2
            | rt v =>
              refine ⟨1, ?_⟩
              unfold wloop
              rw [ht]
              simp only [hb]
              exact h2
  obtain ⟨f, hf⟩ := key n r h0
  have hn : wloop t b f r ≠ .no := fun z => by
    rw [z] at hf
    exact hf
  rw [sWhile_of (n := f) rfl hn]
  exact hf
/-! the same, with what comes behind hidden -/
theorem qo_step {kk : Fl → En → Prop} {m n : M Fl} {r : En} (h : ∀ K : Fl → En → Prop, (∀ r', Po X (n r') kk → K .nx r') → (∀ v r', kk (.rt v) r' → K (.rt v) r') → (∀ r', kk .bk r' → K .bk r') → (∀ r', kk .ct r' → K .ct r') → Po X (m r) K) : Po X (sSeq m n r) kk := by
  rw [qo_seq]
  exact h _ (fun _ q => q) (fun _ _ q => q) (fun _ q => q) fun _ q => q
theorem qo_fnK {kk : RV → List Sl → Prop} {n : Nat} {m : M Fl} {rs : List Sl} (h : ∀ (Y : Exn → En → Prop) (K : Fl → En → Prop), (∀ e r z, backA rs r = some z → X e z → Y e r) → (∀ v r z, backA rs r = some z → kk v z → K (.rt v) r) → (∀ r z, backA rs r = some z → kk (.v .none) z → K .nx r) → Po Y (m (rs ++ List.replicate (n - rs.length) .unk)) K) : Po X (fnOf n m rs) kk :=
  qo_fn (h _ _ (fun _ _ z hz q => ⟨z, hz, q⟩) (fun v _ z hz q => ⟨v, z, hz, .inl rfl, q⟩) fun _ z hz q => ⟨_, z, hz, .inr ⟨rfl, rfl⟩, q⟩)
theorem qo_forK {γ : Type} {kk : Fl → En → Prop} {tg : Tg} {b : M Fl} {f : γ → D} (I : List γ → En → Prop) (xs : List γ) (r : En) (h0 : I [] r)
    (hs : ∀ done x rest r, xs = done ++ x :: rest → I done r → ∃ r1, tg (f x) r = some r1 ∧ ∀ K : Fl → En → Prop, (∀ r2, I (done ++ [x]) r2 → K .nx r2) → (∀ v r2, kk (.rt v) r2 → K (.rt v) r2) → (∀ r2, I (done ++ [x]) r2 → K .ct r2) → (∀ r2, kk .nx r2 → K .bk r2) → Po X (b r1) K) (he : ∀ r, I xs r → kk .nx r) : Po X (forL tg b (xs.map f) r) kk :=
  qo_forM I xs r h0 (fun done x rest r e h => by
    obtain ⟨r1, h1, h2⟩ := hs done x rest r e h
    exact ⟨r1, h1, h2 _ (fun _ q => q) (fun _ _ q => q) (fun _ q => q) fun _ q => q⟩) he
theorem qo_rngK {kk : Fl → En → Prop} {tg : Tg} {b : M Fl} {lo : Int} (I : Nat → En → Prop) (n : Nat) (r : En) (h0 : I 0 r)
    (hs : ∀ i r, i < n → I i r → ∃ r1, tg (.int (lo + (i : Nat))) r = some r1 ∧ ∀ K : Fl → En → Prop, (∀ r2, I (i + 1) r2 → K .nx r2) → (∀ v r2, kk (.rt v) r2 → K (.rt v) r2) → (∀ r2, I (i + 1) r2 → K .ct r2) → (∀ r2, kk .nx r2 → K .bk r2) → Po X (b r1) K) (he : ∀ r, I n r → kk .nx r) : Po X (forL tg b (rngD lo n) r) kk :=
  qo_rng I n r h0 (fun i r hi h => by
    obtain ⟨r1, h1, h2⟩ := hs i r hi h
    exact ⟨r1, h1, h2 _ (fun _ q => q) (fun _ _ q => q) (fun _ q => q) fun _ q => q⟩) he
@[simp] theorem oDict0_ap (r : En) : oDict0 r = .ok (.o (.d [])) r := rfl
@[simp] theorem zipOf_T (a b : List Int) : zipOf [.tuple (a.map .int), .tuple (b.map .int)] = some ((List.zip a b).map fun p => .tuple [.int p.1, .int p.2]) := by
  show some (zipD (a.map .int) (b.map .int)) = _
  unfold zipD
  rw [List.zipWith_map, List.map_zip_eq_zipWith]
  rfl
@[simp] theorem isD_bb (a b : Bool) : isD (.bool a) (.bool b) = some (.bool (decide (a = b))) := rfl
@[simp] theorem isntD_bb (a b : Bool) : isntD (.bool a) (.bool b) = some (.bool (!decide (a = b))) := rfl
@[simp] theorem boolD_i (i : Int) : boolD (.int i) = some (.bool (i != 0)) := rfl
@[simp] theorem boolD_b (b : Bool) : boolD (.bool b) = some (.bool b) := rfl
theorem ninD_l (d : D) (ds : List D) (h : SeqAt.shaped d = true ∧ SeqAt.shaped (.list ds) = true) : ninD d (.list ds) = some (.bool (!ds.any fun z => PyData.eqv z d)) := by
  show cI (SeqAt.shaped d = true ∧ SeqAt.shaped (.list ds) = true) (some (PyData.bool (!ds.any fun z => PyData.eqv z d))) none = _
  rw [cI_eq, if_pos h]
@[simp] theorem eIndex_ap (mo me : M D) (r : En) : eIndex mo me r = (mo r).bind fun d r => (match d with
  | .list ds => (me r).bind fun b r => M.opt (indexD (.list ds) b) r
  | _ => .no) := by
  show (mo r).bind (fun d => (match d with
  | .list ds => me.bind fun b => M.opt (indexD (.list ds) b)
  | _ => M.no)) = _
  congr 1
  funext d r
  cases d <;> rfl
theorem indexD_l (ds : List D) (d : D) (h : SeqAt.shaped d = true ∧ SeqAt.shaped (.list ds) = true) : indexD (.list ds) d = (ds.findIdx? fun z => PyData.eqv z d).map fun j => .int (j : Nat) := by
  show cI (SeqAt.shaped d = true ∧ SeqAt.shaped (.list ds) = true) ((ds.findIdx? fun z => PyData.eqv z d).map fun j => PyData.int (j : Nat)) none = _
  rw [cI_eq, if_pos h]
@[simp] theorem ePop_ap (i : Nat) (m : M D) (r : En) : ePop i m r = (match getC i r with
  | some (.l _) => (m r).bind fun d r => match getC i r with
    | some (.l ds) => (match popD ds d with
      | some p => .ok p.1 (putC i (.l p.2) r)
      | none => .no)
    | _ => .no
  | _ => .no) := rfl
theorem popD_n (ds : List D) (n : Nat) (y : D) (h : n < 2 ^ 63) (e : ds[n]? = some y) : popD ds (.int n) = some (y, ds.eraseIdx n) := by
  show cI (0 ≤ (n : Int) ∧ (n : Int) < 2 ^ 63) ((ds[(n : Int).toNat]?).map fun y => (y, ds.eraseIdx (n : Int).toNat)) none = _
  rw [cI_eq, if_pos (by omega), Int.toNat_natCast, e]
  rfl
@[simp] theorem isi_bi (b : Bool) : isiD "int" (.bool b) = some (.bool true) := by kernel_rfl
@[simp] theorem isi_bb (b : Bool) : isiD "bool" (.bool b) = some (.bool true) := by kernel_rfl
@[simp] theorem isi_bt (b : Bool) : isiD "tuple" (.bool b) = some (.bool false) := by kernel_rfl
@[simp] theorem isi_bs (b : Bool) : isiD "str" (.bool b) = some (.bool false) := by kernel_rfl
@[simp] theorem isi_ni : isiD "int" .none = some (.bool false) := by kernel_rfl
@[simp] theorem isi_nb : isiD "bool" .none = some (.bool false) := by kernel_rfl
@[simp] theorem isi_nt : isiD "tuple" .none = some (.bool false) := by kernel_rfl
@[simp] theorem isi_ns : isiD "str" .none = some (.bool false) := by kernel_rfl
@[simp] theorem isi_nl : isiD "list" .none = some (.bool false) := by kernel_rfl
@[simp] theorem isi_si (x : Str) : isiD "int" (.str x) = some (.bool false) := by kernel_rfl
@[simp] theorem isi_sb (x : Str) : isiD "bool" (.str x) = some (.bool false) := by kernel_rfl
@[simp] theorem isi_st (x : Str) : isiD "tuple" (.str x) = some (.bool false) := by kernel_rfl
@[simp] theorem isi_ss (x : Str) : isiD "str" (.str x) = some (.bool true) := by kernel_rfl
@[simp] theorem isi_sl (x : Str) : isiD "list" (.str x) = some (.bool false) := by kernel_rfl
@[simp] theorem isi_is (i : Int) : isiD "str" (.int i) = some (.bool false) := by kernel_rfl
@[simp] theorem isi_il (i : Int) : isiD "list" (.int i) = some (.bool false) := by kernel_rfl
@[simp] theorem isi_li (ds : List D) : isiD "int" (.list ds) = some (.bool false) := by kernel_rfl
@[simp] theorem isi_lb (ds : List D) : isiD "bool" (.list ds) = some (.bool false) := by kernel_rfl
@[simp] theorem isi_lt (ds : List D) : isiD "tuple" (.list ds) = some (.bool false) := by kernel_rfl
@[simp] theorem isi_ls (ds : List D) : isiD "str" (.list ds) = some (.bool false) := by kernel_rfl
@[simp] theorem isi_ti (ds : List D) : isiD "int" (.tuple ds) = some (.bool false) := by kernel_rfl
@[simp] theorem isi_tb (ds : List D) : isiD "bool" (.tuple ds) = some (.bool false) := by kernel_rfl
@[simp] theorem isi_ts (ds : List D) : isiD "str" (.tuple ds) = some (.bool false) := by kernel_rfl
@[simp] theorem isi_tl (ds : List D) : isiD "list" (.tuple ds) = some (.bool false) := by kernel_rfl
def isFnH : List (D × D) → Bool
  | (.bool _, _) :: _ => true
  | _ => false
@[simp] theorem isFnH_nil : isFnH [] = false := rfl
@[simp] theorem isFnH_str (x : Str) (e : D) (r : List (D × D)) : isFnH ((.str x, e) :: r) = false := rfl
@[simp] theorem isFnH_int (x : Int) (e : D) (r : List (D × D)) : isFnH ((.int x, e) :: r) = false := rfl
@[simp] theorem isFnH_tup (x : List D) (e : D) (r : List (D × D)) : isFnH ((.tuple x, e) :: r) = false := rfl
@[simp] theorem isFnH_map (kv : List (Int × D)) : isFnH (kv.map fun q => (PyData.int q.1, q.2)) = false := by cases kv <;> rfl
theorem isi_dicts {T : String} (hT : T ∈ basicT) (hk : kitB "dict" T = some false) (ds : List (D × D)) (hd : isFnH ds = false) : isiD T (.dict ds) = some (.bool false) := by
  cases ds with
  | nil =>
    show (kitB "dict" T).map PyData.bool = _
    rw [hk]
    rfl
  | cons x r =>
    obtain ⟨k, e⟩ := x
    cases k with
    | str x =>
      show (if T ∈ basicT then some (PyData.bool false) else none) = _
      rw [if_pos hT]
    | bool b => cases hd
    | _ =>
      show (kitB "dict" T).map PyData.bool = _
      rw [hk]
      rfl
@[simp] theorem isi_di (ds : List (D × D)) (hd : isFnH ds = false) : isiD "int" (.dict ds) = some (.bool false) := isi_dicts (by decide) (by kernel_rfl) ds hd
@[simp] theorem isi_db (ds : List (D × D)) (hd : isFnH ds = false) : isiD "bool" (.dict ds) = some (.bool false) := isi_dicts (by decide) (by kernel_rfl) ds hd
@[simp] theorem isi_dt (ds : List (D × D)) (hd : isFnH ds = false) : isiD "tuple" (.dict ds) = some (.bool false) := isi_dicts (by decide) (by kernel_rfl) ds hd
@[simp] theorem isi_ds (ds : List (D × D)) (hd : isFnH ds = false) : isiD "str" (.dict ds) = some (.bool false) := isi_dicts (by decide) (by kernel_rfl) ds hd
@[simp] theorem isi_dl (ds : List (D × D)) (hd : isFnH ds = false) : isiD "list" (.dict ds) = some (.bool false) := isi_dicts (by decide) (by kernel_rfl) ds hd
/-! comprehensions -/
@[simp] theorem qo_comp {kk : RV → En → Prop} (src : M (List D)) (is : List Nat) (tg : Tg) (tt : M Bool) (te : M D) (r : En) : Po X (oComp src is tg tt te r) kk = Po X (src r) fun xs r => noOwn r is = true ∧ Po (fun _ _ => False) (compL is tg tt te xs [] r) fun ys q => kk (.o (.l ys)) (backE r (wipeE q is) is) := by
  show Po X ((src r).bind _) kk = _
  rw [qo_bind]
  congr 1
  funext xs r
  by_cases h : noOwn r is = true
  · rw [if_pos h]
    cases compL is tg tt te xs [] r with
    | ok ys q => simp [h]
    | ex e q => simp
    | no => simp
  · rw [if_neg h]
    simp [h]
@[simp] theorem compL_nil (is : List Nat) (tg : Tg) (tt : M Bool) (te : M D) (acc : List D) (r : En) : compL is tg tt te [] acc r = .ok acc r := rfl
theorem qo_compL {kl : List D → En → Prop} (is : List Nat) (tg : Tg) (tt : M Bool) (te : M D) (x : D) (xs acc : List D) (r : En) : Po (fun _ _ => False) (compL is tg tt te (x :: xs) acc r) kl = (match tg x (wipeE r is) with
  | none => False
  | some r1 => Po (fun _ _ => False) (tt r1) fun b r2 => if b = true then Po (fun _ _ => False) (te r2) fun y r3 => acc.length < 16777216 ∧ Po (fun _ _ => False) (compL is tg tt te xs (acc ++ [y]) r3) kl else Po (fun _ _ => False) (compL is tg tt te xs acc r2) kl) := by
  show Po _ (match tg x (wipeE r is) with
    | none => .no
    | some r1 => match tt r1 with
      | .ok true r2 => (match te r2 with
        | .ok y r3 => if acc.length < 16777216 then compL is tg tt te xs (acc ++ [y]) r3 else .no
        | _ => .no)
      | .ok false r2 => compL is tg tt te xs acc r2
      | _ => .no) kl = _
  cases tg x (wipeE r is) with
  | none => rfl
  | some r1 =>
    simp only
    cases tt r1 with
    | no => rfl
    | ex e r2 => rfl
    | ok b r2 =>
      cases b with
      | false => rfl
      | true =>
        simp only [qo_ok, if_true]
        cases te r2 with
        | no => rfl
        | ex e r3 => rfl
        | ok y r3 =>
          simp only [qo_ok]
          by_cases h : acc.length < 16777216
          · rw [if_pos h]
            simp [h]
          · rw [if_neg h]
            simp [h]
@[simp] theorem yes_ap (r : En) : yes r = .ok true r := rfl
/-- each thing to one datum, nothing else changed -/
theorem qo_compM {γ : Type} {kl : List D → En → Prop} {is : List Nat} {tg : Tg} {te : M D} {f : γ → D} {g : γ → D} (J : En → Prop) : ∀ (xs : List γ) (acc : List D) (r : En), J r → acc.length + xs.length ≤ 16777216 →
    (∀ x ∈ xs, ∀ r, J r → ∃ r1, tg (f x) (wipeE r is) = some r1 ∧ Po (fun _ _ => False) (te r1) fun y r3 => y = g x ∧ J r3) → (∀ r, J r → kl (acc ++ xs.map g) r) → Po (fun _ _ => False) (compL is tg yes te (xs.map f) acc r) kl
  | [], acc, r, hJ, _, _, he => by
    have := he r hJ
    rw [List.map_nil, List.append_nil] at this
    exact this
  | x :: xs, acc, r, hJ, hl, hs, he => by
    rw [List.map_cons, qo_compL]
    obtain ⟨r1, h1, h2⟩ := hs x (List.mem_cons_self ..) r hJ
    rw [h1]
    simp only [yes_ap, qo_ok, if_true]
    refine qo_mono h2 ?_
    rintro y r3 ⟨rfl, hJ3⟩
    rw [List.length_cons] at hl
    refine ⟨by omega, qo_compM J xs (acc ++ [g x]) r3 hJ3 (by rw [List.length_append, List.length_singleton]; omega) (fun z hz => hs z (List.mem_cons_of_mem _ hz)) fun r hr => ?_⟩
    have := he r hr
    rw [List.map_cons] at this
    rw [List.append_assoc]
    exact this
theorem qo_compMD {kl : List D → En → Prop} {is : List Nat} {tg : Tg} {te : M D} {g : D → D} (J : En → Prop) (xs : List D) (r : En) (hJ : J r) (hl : xs.length ≤ 16777216) (hs : ∀ x ∈ xs, ∀ r, J r → ∃ r1, tg x (wipeE r is) = some r1 ∧ Po (fun _ _ => False) (te r1) fun y r3 => y = g x ∧ J r3) (he : ∀ r, J r → kl (xs.map g) r) : Po (fun _ _ => False) (compL is tg yes te xs [] r) kl := by
  have h := qo_compM (kl := kl) (is := is) (tg := tg) (te := te) (f := fun d : D => d) (g := g) J xs [] r hJ (by simpa using hl) hs (by simpa using he)
  rwa [List.map_id''] at h
  exact fun _ => rfl
theorem qo_forD {kk : Fl → En → Prop} {tg : Tg} {b : M Fl} (I : List D → En → Prop) (xs : List D) (r : En) (h0 : I [] r)
    (hs : ∀ done x rest r, xs = done ++ x :: rest → I done r → ∃ r1, tg x r = some r1 ∧ ∀ K : Fl → En → Prop, (∀ r2, I (done ++ [x]) r2 → K .nx r2) → (∀ v r2, kk (.rt v) r2 → K (.rt v) r2) → (∀ r2, I (done ++ [x]) r2 → K .ct r2) → (∀ r2, kk .nx r2 → K .bk r2) → Po X (b r1) K) (he : ∀ r, I xs r → kk .nx r) : Po X (forL tg b xs r) kk := by
  have h := qo_forK (X := X) (kk := kk) (tg := tg) (b := b) (f := fun d : D => d) I xs r h0 hs he
  rwa [List.map_id''] at h
  exact fun _ => rfl
@[simp] theorem wipe_nil (r : En) : wipeE r [] = r := rfl
@[simp] theorem wipe_cons (r : En) (i : Nat) (is : List Nat) : wipeE r (i :: is) = (wipeE r is).set i .unk := rfl
@[simp] theorem back_nil (r q : En) : backE r q [] = q := rfl
@[simp] theorem back_cons (r q : En) (i : Nat) (is : List Nat) : backE r q (i :: is) = (backE r q is).set i (r.getD i .unk) := rfl
@[simp] theorem noOwn_nil (r : En) : noOwn r [] = true := rfl
@[simp] theorem noOwn_cons (r : En) (i : Nat) (is : List Nat) : noOwn r (i :: is) = ((match r[i]? with
  | some s => s.own.isNone
  | none => false) && noOwn r is) := rfl
@[simp] theorem allD_b (ds : List D) : allD (.list ds) = (boolsOf ds).map fun bs => .bool (bs.all id) := rfl
@[simp] theorem anyD_b (ds : List D) : anyD (.list ds) = (boolsOf ds).map fun bs => .bool (bs.any id) := rfl
@[simp] theorem boolsOf_nil : boolsOf [] = some [] := rfl
@[simp] theorem boolsOf_cons (b : Bool) (ds : List D) : boolsOf (.bool b :: ds) = (boolsOf ds).map (b :: ·) := rfl
@[simp] theorem boolsOf_map {γ : Type} (f : γ → Bool) : ∀ xs : List γ, boolsOf (xs.map fun x => .bool (f x)) = some (xs.map f)
  | [] => rfl
  | x :: xs => by
    rw [List.map_cons, boolsOf_cons, boolsOf_map f xs]
    rfl
/-! numbers -/
theorem mulOk_l {i j : Int} (h : -(2 ^ 63) < i ∧ i < 2 ^ 63) : mulOk i j := .inl (by omega)
theorem mulOk_r {i j : Int} (h : -(2 ^ 63) < j ∧ j < 2 ^ 63) : mulOk i j := .inr (.inl (by omega))
theorem log2_64 {n : Int} (h : -(2 ^ 63) < n ∧ n < 2 ^ 63) : n.natAbs.log2 < 9000 := by
  have : n.natAbs.log2 < 64 := PySem.Flt.log2_lt_of (by decide) (by omega)
  omega
theorem fmod_pos (a : Int) {n : Int} (h : 0 < n) : 0 ≤ a.fmod n ∧ a.fmod n < n := by
  rw [Int.fmod_eq_emod_of_nonneg _ (by omega)]
  exact ⟨Int.emod_nonneg _ (by omega), Int.emod_lt_of_pos _ h⟩
theorem fdiv_nn {a n : Int} (ha : 0 ≤ a) (h : 0 < n) : 0 ≤ a.fdiv n := by
  rw [Int.fdiv_eq_ediv_of_nonneg _ (by omega)]
  exact Int.ediv_nonneg ha (by omega)
theorem atI_all {α : Type} {P : α → Prop} {xs : List α} {n : Int} (h0 : 0 ≤ n) (h1 : n < xs.length) (h : ∀ x ∈ xs, P x) : ∃ c, atI xs n = some c ∧ P c := by
  unfold atI ixN
  rw [if_pos h0, if_pos h1]
  exact ⟨xs[n.toNat]'(by omega), by simp, h _ (List.getElem_mem _)⟩
theorem atI_nn {α : Type} {xs : List α} {n : Int} (h0 : 0 ≤ n) (h1 : n < xs.length) : ∃ c, atI xs n = some c ∧ xs[n.toNat]? = some c := by
  unfold atI ixN
  rw [if_pos h0, if_pos h1]
  exact ⟨xs[n.toNat]'(by omega), by simp, by simp⟩
@[simp] theorem mulOk_sl (i j : Int) (h1 : -(2 ^ 63) < i) (h2 : i < 2 ^ 63) : mulOk i j := mulOk_l ⟨h1, h2⟩
@[simp] theorem mulOk_sr (i j : Int) (h1 : -(2 ^ 63) < j) (h2 : j < 2 ^ 63) : mulOk i j := mulOk_r ⟨h1, h2⟩
@[simp] theorem mulOk_ml (x m j : Int) (h0 : 0 < m) (h1 : m < 2 ^ 63) : mulOk (x % m) j := by
  have a1 := Int.emod_nonneg x (show m ≠ 0 by omega)
  have a2 := Int.emod_lt_of_pos x h0
  exact mulOk_l ⟨by omega, by omega⟩
@[simp] theorem mulOk_mr (x m i : Int) (h0 : 0 < m) (h1 : m < 2 ^ 63) : mulOk i (x % m) := by
  have a1 := Int.emod_nonneg x (show m ≠ 0 by omega)
  have a2 := Int.emod_lt_of_pos x h0
  exact mulOk_r ⟨by omega, by omega⟩
@[simp] theorem log2_s (n : Nat) (h : n < 2 ^ 64) : n.log2 < 9000 := by
  have : n.log2 < 64 := PySem.Flt.log2_lt_of (by decide) h
  omega
@[simp] theorem abs_nn (c : Int) : 0 ≤ (if c < 0 then -c else c) := by split <;> omega
@[simp] theorem sInsert_ap (i : Nat) (mk m : M D) (r : En) : sInsert i mk m r = (match getC i r with
  | some (.l _) => (mk r).bind fun k r => (m r).bind fun d r => (match k, getC i r with
    | .int n, some (.l ds) => cI (ds.length < 16777216 ∧ 0 ≤ n ∧ n < 2 ^ 63) (.ok .nx (putC i (.l (ds.take n.toNat ++ [d] ++ ds.drop n.toNat)) r)) .no
    | _, _ => .no)
  | _ => .no) := rfl
@[simp] theorem qo_cI (p : Prop) (x : Re α) : Po X (cI p x .no) k = (p ∧ Po X x k) := by
  by_cases h : p
  · have : cI p x .no = x := by unfold cI; exact if_pos h
    rw [this]
    simp [h]
  · have : cI p x .no = .no := by unfold cI; exact if_neg h
    rw [this]
    simp [h]
theorem zip3D_map {γ δ ε : Type} (f : γ → D) (g : δ → D) (h : ε → D) : ∀ (xs : List γ) (ys : List δ) (zs : List ε), zip3D (xs.map f) (ys.map g) (zs.map h) = (List.zip xs (List.zip ys zs)).map fun p => .tuple [f p.1, g p.2.1, h p.2.2]
  | [], _, _ => rfl
  | _ :: _, [], _ => rfl
  | _ :: _, _ :: _, [] => rfl
  | x :: xs, y :: ys, z :: zs => by
    simp only [List.map_cons, zip3D, zip3D_map f g h xs ys zs, List.zip_cons_cons]
@[simp] theorem zip3Of_T (a b c : List Int) : zip3Of [.tuple (a.map .int), .tuple (b.map .int), .tuple (c.map .int)] = some ((List.zip a (List.zip b c)).map fun p => .tuple [.int p.1, .int p.2.1, .int p.2.2]) := congrArg some (zip3D_map _ _ _ a b c)
/-! exceptions -/
@[simp] theorem sRaiseF_ap (nm : Str) (fs : List Str) (ms : M (List D)) (r : En) : sRaiseF nm fs ms r = (ms r).bind fun ds r => if ds.length = fs.length then .ex ⟨nm, (fs.zip ds).reverse⟩ r else .no := rfl
@[simp] theorem sRaise_ap (nm : Str) (r : En) : sRaise nm r = .ex ⟨nm, []⟩ r := rfl
@[simp] theorem exOf_ap (nm : Str) : exOf ⟨nm, []⟩ = .dict [(.str nm, .none)] := rfl
@[simp] theorem isED_ap (ns : List Str) (y nm : Str) (kv : List (D × D)) : isED ns y (.dict ((.str nm, .none) :: kv)) = if nm ∈ ns then some (.bool (isB nm y)) else none := rfl
@[simp] theorem isEV_ap (ns : List Str) (nm : Str) (kv : List (D × D)) : isEV ns (.dict ((.str nm, .none) :: kv)) = if nm ∈ ns then some (.bool true) else none := rfl
@[simp] theorem isET_ap (ns ys : List Str) (nm : Str) (kv : List (D × D)) : isET ns ys (.dict ((.str nm, .none) :: kv)) = if nm ∈ ns then some (.bool (ys.any fun y => isB nm y)) else none := rfl
@[simp] theorem isntD_d (kv : List (D × D)) : isntD (.dict kv) .none = some (.bool true) := rfl
@[simp] theorem isD_d (kv : List (D × D)) : isD (.dict kv) .none = some (.bool false) := rfl
@[simp] theorem lamRes_rt (r r2 : En) (rv : RV) : lamRes r (.ok (.rt rv) r2) = .ok rv r := rfl
@[simp] theorem lamRes_nx (r r2 : En) : lamRes r (.ok .nx r2) = .ok (.v .none) r := rfl
@[simp] theorem hide_v (d : D) : hideS (.v d) = .v d := rfl
@[simp] theorem hide_u : hideS .unk = .unk := rfl
@[simp] theorem hide_o (c : Ct) : hideS (.o c) = .unk := rfl
@[simp] theorem hide_io (c : Ct) : hideS (.io c) = .unk := rfl
@[simp] theorem qo_lamR {kk : RV → En → Prop} (r : En) (m : Re Fl) : Po X (lamRes r m) kk = Po (fun _ _ => False) m fun fl _ => (match fl with
  | .rt rv => kk rv r
  | .nx => kk (.v .none) r
  | _ => False) := by
  cases m with
  | no => rfl
  | ex e r1 => rfl
  | ok fl r1 => cases fl <;> rfl
@[simp] theorem qo_lam {kk : RV → En → Prop} (ns : List Str) (n i : Nat) (br : M Fl) (th : M D) (r : En) : Po X (cLam ns n i br th r) kk = Po (fun e _ => e.name ∈ ns ∧ Po X (lamRes r (br ((List.replicate n Sl.unk).set i (.v (exOf e))))) kk) (th (r.map hideS)) fun _ _ => Po X (lamRes r (br ((List.replicate n Sl.unk).set i (.v .none)))) kk := by
  unfold cLam
  cases th (r.map hideS) with
  | ok fl r1 => rfl
  | no => rfl
  | ex e r1 =>
    show Po X (if e.name ∈ ns then _ else _) kk = (e.name ∈ ns ∧ _)
    by_cases h : e.name ∈ ns
    · rw [if_pos h]
      simp only [h, true_and]
    · rw [if_neg h]
      simp only [h, false_and]
      rfl
@[simp] theorem qo_try {kk : Fl → En → Prop} (ns : List Str) (j i : Nat) (mb : M Fl) (r : En) : Po X (sTry ns j i mb r) kk = Po (fun e r1 => e.name ∈ ns ∧ (match (setN j (.v (exOf e)) r1).bind (setN i (.v (exOf e))) with
  | some r2 => kk .nx (r2.set j .unk)
  | none => False)) (mb r) kk := by
  unfold sTry
  cases mb r with
  | ok fl r1 => rfl
  | no => rfl
  | ex e r1 =>
    show Po X (if e.name ∈ ns then _ else _) kk = (e.name ∈ ns ∧ _)
    by_cases h : e.name ∈ ns
    · rw [if_pos h]
      simp only [h, true_and]
      cases (setN j (.v (exOf e)) r1).bind (setN i (.v (exOf e))) <;> rfl
    · rw [if_neg h]
      simp [h]
/-! the pen -/
def pen (cs : List Int) (a l : Int) : Ct := .d [(.inr "cells", .list (cs.map .int)), (.inr "at", .int a), (.inr "left", .int l)]
def penL (cs : List Int) (a l : Int) : List (Key × D) := [(.inr "cells", .list (cs.map .int)), (.inr "at", .int a), (.inr "left", .int l)]
theorem pen_eq (cs : List Int) (a l : Int) : pen cs a l = .d (penL cs a l) := rfl
@[simp] theorem pen_c (cs : List Int) (a l : Int) : vK (penL cs a l) (.inr "cells") = some (.list (cs.map .int)) := rfl
@[simp] theorem pen_a (cs : List Int) (a l : Int) : vK (penL cs a l) (.inr "at") = some (.int a) := rfl
@[simp] theorem pen_l (cs : List Int) (a l : Int) : vK (penL cs a l) (.inr "left") = some (.int l) := rfl
@[simp] theorem pen_pa (cs : List Int) (a l b : Int) : pK (penL cs a l) (.inr "at") (.int b) = penL cs b l := rfl
@[simp] theorem pen_pl (cs : List Int) (a l b : Int) : pK (penL cs a l) (.inr "left") (.int b) = penL cs a b := rfl
@[simp] theorem pen_len (cs : List Int) (a l : Int) : (penL cs a l).length = 3 := rfl
@[simp] theorem keyD_s (x : Str) : keyD (.str x) = some (.inr x) := rfl
@[simp] theorem keyD_i (x : Int) : keyD (.int x) = some (.inl x) := rfl
def cutG {γ : Type} (xs : List γ) (lo hi : Option Int) : List γ := (xs.drop (HT.sIx xs.length 0 lo)).take (HT.sIx xs.length xs.length hi - HT.sIx xs.length 0 lo)
theorem cutL_map {γ : Type} (f : γ → D) (xs : List γ) (lo hi : Option Int) : cutL (xs.map f) lo hi = (cutG xs lo hi).map f := by
  unfold cutL cutG
  rw [List.length_map, List.map_take, List.map_drop]
theorem pen_new (cs : List Int) (a l : Int) : Ct.d (pK (pK (pK [] (.inr "cells") (.list (cs.map .int))) (.inr "at") (.int a)) (.inr "left") (.int l)) = pen cs a l := rfl
/-- a pen over the cells cs, fit to be drawn from -/
def PenOk (cs : List Int) (c : Ct) : Prop := ∃ a l, c = pen cs a l ∧ 0 ≤ a ∧ 0 ≤ l
theorem PenOk.mk {cs : List Int} {a l : Int} (ha : 0 ≤ a) (hl : 0 ≤ l) : PenOk cs (.d (penL cs a l)) := ⟨a, l, rfl, ha, hl⟩
/-- .. with at most n draws from it -/
def PenB (cs : List Int) (n : Nat) (c : Ct) : Prop := ∃ a l, c = pen cs a l ∧ 0 ≤ a ∧ a ≤ n ∧ 0 ≤ l
theorem PenB.mk {cs : List Int} {n : Nat} {a l : Int} (ha : 0 ≤ a) (hn : a ≤ n) (hl : 0 ≤ l) : PenB cs n (.d (penL cs a l)) := ⟨a, l, rfl, ha, hn, hl⟩
theorem PenB.le {cs : List Int} {n m : Nat} {c : Ct} (h : PenB cs n c) (hm : n ≤ m) : PenB cs m c := by
  obtain ⟨a, l, h1, h2, h3, h4⟩ := h
  exact ⟨a, l, h1, h2, by omega, h4⟩
def DrB (cs : List Int) (b : Nat) (n : Int) (rv : RV) (z : List Sl) : Prop := ∃ k c t, rv = .v (.int k) ∧ 0 ≤ k ∧ k < n ∧ z = .io c :: t ∧ PenB cs (b + 1) c
theorem cutL_le (xs : List D) (lo hi : Option Int) : (cutL xs lo hi).length ≤ xs.length := by
  unfold cutL
  rw [List.length_take, List.length_drop]
  omega
theorem cutL_take (xs : List D) (k : Nat) : cutL xs none (some (k : Int)) = xs.take k := by
  unfold cutL
  rw [HT.sIx_none, HT.sIx_nat, List.drop_zero]
  rw [Nat.sub_zero]
  by_cases h : k ≤ xs.length
  · rw [Nat.min_eq_left h]
  · rw [Nat.min_eq_right (by omega), List.take_length, List.take_of_length_le (by omega)]
theorem cutL_drop (xs : List D) (k : Nat) : cutL xs (some (k : Int)) none = xs.drop k := by
  unfold cutL
  rw [HT.sIx_none, HT.sIx_nat]
  by_cases h : k ≤ xs.length
  · rw [Nat.min_eq_left h, List.take_of_length_le (by rw [List.length_drop]; exact Nat.le_refl _)]
  · rw [Nat.min_eq_right (by omega), List.drop_length, List.drop_of_length_le (by omega)]
    simp
theorem intsOf_mp : ∀ ns : List Int, intsOf (ns.map .int) = some ns
  | [] => rfl
  | k :: ks => by
    show (intsOf (ks.map .int)).map (k :: ·) = some (k :: ks)
    rw [intsOf_mp ks]
    rfl
/-! ### the same, shut to the elaborator's own reckoning -/
section
variable {α β : Type} {X : Exn → En → Prop} {k : α → En → Prop}
@[irreducible] def Wp {α : Type} (X : Exn → En → Prop) (x : Re α) (k : α → En → Prop) : Prop := Po X x k
theorem wp_eq {α : Type} {X : Exn → En → Prop} {x : Re α} {k : α → En → Prop} : Wp X x k = Po X x k := by
  unfold Wp
  rfl
variable {kd : D → En → Prop} {kl : List D → En → Prop}
@[simp] theorem po_ok (a : α) (r : En) : Wp X (.ok a r) k = k a r := by
  rw [wp_eq]
  rfl
@[simp] theorem po_ex (e : Exn) (r : En) : Wp X (.ex e r) k = X e r := by
  rw [wp_eq]
  rfl
@[simp] theorem po_no : Wp X (.no : Re α) k = False := by
  rw [wp_eq]
  rfl
@[simp] theorem po_bind (x : Re β) (f : β → M α) : Wp X (x.bind f) k = Wp X x fun a r => Wp X (f a r) k := by
  simp only [wp_eq, qo_bind]
theorem po_mono {x : Re α} {k' : α → En → Prop} (h : Wp X x k') (i : ∀ a r, k' a r → k a r) : Wp X x k := by
  simp only [wp_eq] at *
  exact qo_mono h i
theorem po_true {f : Re RV} (h : Wp (fun _ _ => False) f fun rv _ => rv = .v (.bool true)) : ∃ r, f = .ok (.v (.bool true)) r := by
  simp only [wp_eq] at *
  exact qo_true h
theorem po_seq {kk : Fl → En → Prop} (m n : M Fl) (r : En) : Wp X (sSeq m n r) kk = Wp X (m r) fun fl r => (match fl with
  | .nx => Wp X (n r) kk
  | f => kk f r) := by
  simp only [wp_eq, qo_seq]
@[simp] theorem po_ite (p : Prop) [Decidable p] (x y : Re α) : Wp X (if p then x else y) k = if p then Wp X x k else Wp X y k := by
  simp only [wp_eq, qo_ite]
@[simp] theorem po_szM {γ : Type} (n : Nat) (a : γ) (f : γ → α) (r : En) : Wp X (M.opt ((szC n a).map f) r) k = (n ≤ 16777216 ∧ k (f a) r) := by
  simp only [wp_eq, qo_szM]
@[simp] theorem po_szC (n : Nat) (a : α) (r : En) : Wp X (M.opt (szC n a) r) k = (n ≤ 16777216 ∧ k a r) := by
  simp only [wp_eq, qo_szC]
@[simp] theorem po_rng1 (j : Int) (r : En) : Wp X (M.opt (rng1 [.int j]) r) kl = ((-(2 ^ 62) ≤ j ∧ j < 2 ^ 62) ∧ kl (rngD 0 j.toNat) r) := by
  simp only [wp_eq, qo_rng1]
@[simp] theorem po_rng2 (i j : Int) (r : En) : Wp X (M.opt (rng2 [.int i, .int j]) r) kl = (((-(2 ^ 62) ≤ i ∧ i < 2 ^ 62) ∧ (-(2 ^ 62) ≤ j ∧ j < 2 ^ 62)) ∧ kl (rngD i (j - i).toNat) r) := by
  simp only [wp_eq, qo_rng2]
@[simp] theorem po_mul (i j : Int) (r : En) : Wp X (M.opt (mulD (.int i) (.int j)) r) kd = (mulOk i j ∧ kd (.int (i * j)) r) := by
  simp only [wp_eq, qo_mul]
@[simp] theorem po_fdiv (i j : Int) (r : En) : Wp X (M.opt (fdivD (.int i) (.int j)) r) kd = ((j ≠ 0 ∧ j.natAbs.log2 < 9000) ∧ kd (.int (i.fdiv j)) r) := by
  simp only [wp_eq, qo_fdiv]
@[simp] theorem po_mod (i j : Int) (r : En) : Wp X (M.opt (modD (.int i) (.int j)) r) kd = (j ≠ 0 ∧ kd (.int (i.fmod j)) r) := by
  simp only [wp_eq, qo_mod]
@[simp] theorem po_pow (i j : Int) (r : En) : Wp X (M.opt (powD (.int i) (.int j)) r) kd = ((0 ≤ j ∧ j ≤ 1000000 ∧ i.natAbs < 2 ^ 64) ∧ kd (.int (i ^ j.toNat)) r) := by
  simp only [wp_eq, qo_pow]
@[simp] theorem po_mulO {kr : RV → En → Prop} (xs : List D) (j : Int) (r : En) : Wp X (M.opt (mulO (.list xs) (.int j)) r) kr = (((-(2 ^ 63) ≤ j ∧ j < 2 ^ 63) ∧ xs.length * j.toNat ≤ 16777216) ∧ kr (.o (.l (List.replicate j.toNat xs).flatten)) r) := by
  simp only [wp_eq, qo_mulO]
@[simp] theorem po_mulL (xs : List D) (k : Int) (r : En) : Wp X (M.opt (mulD (.list xs) (.int k)) r) kd = (((-(2 ^ 63) ≤ k ∧ k < 2 ^ 63) ∧ xs.length * k.toNat ≤ 16777216) ∧ kd (.list (List.replicate k.toNat xs).flatten) r) := by
  simp only [wp_eq, qo_mulL]
@[simp] theorem po_mulT (xs : List D) (k : Int) (r : En) : Wp X (M.opt (mulD (.tuple xs) (.int k)) r) kd = ((-1000 ≤ k ∧ k ≤ 1000 ∧ xs.length ≤ 1000) ∧ kd (.tuple (List.replicate k.toNat xs).flatten) r) := by
  simp only [wp_eq, qo_mulT]
@[simp] theorem po_at (xs : List D) (n : Int) (r : En) : Wp X (M.opt (atI xs n) r) kd = ∃ d, atI xs n = some d ∧ kd d r := by
  simp only [wp_eq, qo_at]
@[simp high] theorem po_atI (xs : List Int) (n : Int) (r : En) : Wp X (M.opt (atI (xs.map .int) n) r) kd = ∃ c, atI xs n = some c ∧ kd (.int c) r := by
  simp only [wp_eq, qo_atI]
@[simp] theorem po_call {kk : RV → En → Prop} (f : List Sl → Re RV) (ms : M (List D)) (r : En) : Wp X (cCall f ms r) kk = Wp X (ms r) fun ds r => Wp (fun e _ => X e r) (f (ds.map .v)) fun rv _ => kk rv r := by
  simp only [wp_eq, qo_call]
@[simp] theorem po_callI {kk : RV → En → Prop} (f : List Sl → Re RV) (ms : M (List D)) (i : Nat) (r : En) : Wp X (cCallI i f ms r) kk = (match getC i r with
  | none => False
  | some _ => Wp X (ms r) fun ds r1 => (match getC i r1 with
    | none => False
    | some ct => Wp (fun e z => InIo (fun c => X e (putC i c r1)) z) (f (.io ct :: ds.map .v)) fun rv z => InIo (fun c => kk rv (putC i c r1)) z)) := by
  simp only [wp_eq, qo_callI]
theorem po_fn {kk : RV → List Sl → Prop} {n : Nat} {m : M Fl} {rs : List Sl} (h : Wp (fun e r => ∃ z, backA rs r = some z ∧ X e z) (m (rs ++ List.replicate (n - rs.length) .unk)) fun fl r => ∃ rv z, backA rs r = some z ∧ (fl = .rt rv ∨ (fl = .nx ∧ rv = .v .none)) ∧ kk rv z) : Wp X (fnOf n m rs) kk := by
  simp only [wp_eq] at *
  exact qo_fn h
theorem po_rng {kk : Fl → En → Prop} {tg : Tg} {b : M Fl} {lo : Int} (I : Nat → En → Prop) (n : Nat) (r : En) (h0 : I 0 r)
    (hs : ∀ i r, i < n → I i r → ∃ r1, tg (.int (lo + (i : Nat))) r = some r1 ∧ Wp X (b r1) fun fl r2 => (match fl with
      | .nx => I (i + 1) r2
      | .ct => I (i + 1) r2
      | .bk => kk .nx r2
      | .rt v => kk (.rt v) r2)) (he : ∀ r, I n r → kk .nx r) : Wp X (forL tg b (rngD lo n) r) kk := by
  simp only [wp_eq] at *
  exact qo_rng I n r h0 hs he
theorem po_while {kk : Fl → En → Prop} {t : M Bool} {b : M Fl} (I : Nat → En → Prop)
    (hs : ∀ n r, I n r → Wp X (t r) fun x r1 => if x = true then Wp X (b r1) fun fl r2 => (match fl with
      | .nx => ∃ m, m < n ∧ I m r2
      | .ct => ∃ m, m < n ∧ I m r2
      | .bk => kk .nx r2
      | .rt v => kk (.rt v) r2) else kk .nx r1) (n : Nat) (r : En) (h0 : I n r) : Wp X (sWhile t b r) kk := by
  simp only [wp_eq] at *
  exact qo_while I hs n r h0
theorem po_step {kk : Fl → En → Prop} {m n : M Fl} {r : En} (h : ∀ K : Fl → En → Prop, (∀ r', Wp X (n r') kk → K .nx r') → (∀ v r', kk (.rt v) r' → K (.rt v) r') → (∀ r', kk .bk r' → K .bk r') → (∀ r', kk .ct r' → K .ct r') → Wp X (m r) K) : Wp X (sSeq m n r) kk := by
  simp only [wp_eq] at *
  exact qo_step h
theorem po_fnK {kk : RV → List Sl → Prop} {n : Nat} {m : M Fl} {rs : List Sl} (h : ∀ (Y : Exn → En → Prop) (K : Fl → En → Prop), (∀ e r z, backA rs r = some z → X e z → Y e r) → (∀ v r z, backA rs r = some z → kk v z → K (.rt v) r) → (∀ r z, backA rs r = some z → kk (.v .none) z → K .nx r) → Wp Y (m (rs ++ List.replicate (n - rs.length) .unk)) K) : Wp X (fnOf n m rs) kk := by
  simp only [wp_eq] at *
  exact qo_fnK h
theorem po_forK {γ : Type} {kk : Fl → En → Prop} {tg : Tg} {b : M Fl} {f : γ → D} (I : List γ → En → Prop) (xs : List γ) (r : En) (h0 : I [] r)
    (hs : ∀ done x rest r, xs = done ++ x :: rest → I done r → ∃ r1, tg (f x) r = some r1 ∧ ∀ K : Fl → En → Prop, (∀ r2, I (done ++ [x]) r2 → K .nx r2) → (∀ v r2, kk (.rt v) r2 → K (.rt v) r2) → (∀ r2, I (done ++ [x]) r2 → K .ct r2) → (∀ r2, kk .nx r2 → K .bk r2) → Wp X (b r1) K) (he : ∀ r, I xs r → kk .nx r) : Wp X (forL tg b (xs.map f) r) kk := by
  simp only [wp_eq] at *
  exact qo_forK I xs r h0 hs he
theorem po_rngK {kk : Fl → En → Prop} {tg : Tg} {b : M Fl} {lo : Int} (I : Nat → En → Prop) (n : Nat) (r : En) (h0 : I 0 r)
    (hs : ∀ i r, i < n → I i r → ∃ r1, tg (.int (lo + (i : Nat))) r = some r1 ∧ ∀ K : Fl → En → Prop, (∀ r2, I (i + 1) r2 → K .nx r2) → (∀ v r2, kk (.rt v) r2 → K (.rt v) r2) → (∀ r2, I (i + 1) r2 → K .ct r2) → (∀ r2, kk .nx r2 → K .bk r2) → Wp X (b r1) K) (he : ∀ r, I n r → kk .nx r) : Wp X (forL tg b (rngD lo n) r) kk := by
  simp only [wp_eq] at *
  exact qo_rngK I n r h0 hs he
@[simp] theorem po_comp {kk : RV → En → Prop} (src : M (List D)) (is : List Nat) (tg : Tg) (tt : M Bool) (te : M D) (r : En) : Wp X (oComp src is tg tt te r) kk = Wp X (src r) fun xs r => noOwn r is = true ∧ Wp (fun _ _ => False) (compL is tg tt te xs [] r) fun ys q => kk (.o (.l ys)) (backE r (wipeE q is) is) := by
  simp only [wp_eq, qo_comp]
theorem po_compM {γ : Type} {kl : List D → En → Prop} {is : List Nat} {tg : Tg} {te : M D} {f : γ → D} {g : γ → D} (J : En → Prop) : ∀ (xs : List γ) (acc : List D) (r : En), J r → acc.length + xs.length ≤ 16777216 →
    (∀ x ∈ xs, ∀ r, J r → ∃ r1, tg (f x) (wipeE r is) = some r1 ∧ Wp (fun _ _ => False) (te r1) fun y r3 => y = g x ∧ J r3) → (∀ r, J r → kl (acc ++ xs.map g) r) → Wp (fun _ _ => False) (compL is tg yes te (xs.map f) acc r) kl := by
  intro xs acc r hJ hl hs he
  simp only [wp_eq] at *
  exact qo_compM J xs acc r hJ hl hs he
theorem po_compMD {kl : List D → En → Prop} {is : List Nat} {tg : Tg} {te : M D} {g : D → D} (J : En → Prop) (xs : List D) (r : En) (hJ : J r) (hl : xs.length ≤ 16777216) (hs : ∀ x ∈ xs, ∀ r, J r → ∃ r1, tg x (wipeE r is) = some r1 ∧ Wp (fun _ _ => False) (te r1) fun y r3 => y = g x ∧ J r3) (he : ∀ r, J r → kl (xs.map g) r) : Wp (fun _ _ => False) (compL is tg yes te xs [] r) kl := by
  simp only [wp_eq] at *
  exact qo_compMD J xs r hJ hl hs he
theorem po_forD {kk : Fl → En → Prop} {tg : Tg} {b : M Fl} (I : List D → En → Prop) (xs : List D) (r : En) (h0 : I [] r)
    (hs : ∀ done x rest r, xs = done ++ x :: rest → I done r → ∃ r1, tg x r = some r1 ∧ ∀ K : Fl → En → Prop, (∀ r2, I (done ++ [x]) r2 → K .nx r2) → (∀ v r2, kk (.rt v) r2 → K (.rt v) r2) → (∀ r2, I (done ++ [x]) r2 → K .ct r2) → (∀ r2, kk .nx r2 → K .bk r2) → Wp X (b r1) K) (he : ∀ r, I xs r → kk .nx r) : Wp X (forL tg b xs r) kk := by
  simp only [wp_eq] at *
  exact qo_forD I xs r h0 hs he
@[simp] theorem po_cI (p : Prop) (x : Re α) : Wp X (cI p x .no) k = (p ∧ Wp X x k) := by
  simp only [wp_eq, qo_cI]
@[simp] theorem po_lamR {kk : RV → En → Prop} (r : En) (m : Re Fl) : Wp X (lamRes r m) kk = Wp (fun _ _ => False) m fun fl _ => (match fl with
  | .rt rv => kk rv r
  | .nx => kk (.v .none) r
  | _ => False) := by
  simp only [wp_eq, qo_lamR]
@[simp] theorem po_lam {kk : RV → En → Prop} (ns : List Str) (n i : Nat) (br : M Fl) (th : M D) (r : En) : Wp X (cLam ns n i br th r) kk = Wp (fun e _ => e.name ∈ ns ∧ Wp X (lamRes r (br ((List.replicate n Sl.unk).set i (.v (exOf e))))) kk) (th (r.map hideS)) fun _ _ => Wp X (lamRes r (br ((List.replicate n Sl.unk).set i (.v .none)))) kk := by
  simp only [wp_eq, qo_lam]
@[simp] theorem po_try {kk : Fl → En → Prop} (ns : List Str) (j i : Nat) (mb : M Fl) (r : En) : Wp X (sTry ns j i mb r) kk = Wp (fun e r1 => e.name ∈ ns ∧ (match (setN j (.v (exOf e)) r1).bind (setN i (.v (exOf e))) with
  | some r2 => kk .nx (r2.set j .unk)
  | none => False)) (mb r) kk := by
  simp only [wp_eq, qo_try]
end
end Pu
namespace Pu
open PySem L2
variable [TabT]
/-! ### comprehensions of pure members, by the surroundings themselves -/
theorem set_back (r : En) (i : Nat) (s t : Sl) (hi : i < r.length) : ((r.set i s).set i t).set i (r.getD i .unk) = r := by
  rw [List.set_set, List.set_set]
  apply List.ext_getElem?
  intro k
  rw [List.getElem?_set]
  by_cases h : i = k
  · subst h
    rw [if_pos rfl, if_pos hi, List.getD_eq_getElem?_getD, List.getElem?_eq_getElem hi]
    rfl
  · rw [if_neg h]
theorem own_lt {r : En} {i : Nat} {is : List Nat} (h : noOwn r (i :: is) = true) : i < r.length ∧ noOwn r is = true := by
  rw [noOwn_cons, Bool.and_eq_true] at h
  refine ⟨?_, h.2⟩
  have h1 := h.1
  cases hr : r[i]? with
  | none =>
    rw [hr] at h1
    cases h1
  | some s => exact (List.getElem?_eq_some_iff.mp hr).1
theorem po_LC1 {γ : Type} {X : Exn → En → Prop} {kk : RV → En → Prop} {src : M (List D)} {i : Nat} {te : M D} {r : En} (f g : γ → D) (xs : List γ) (hsrc : Wp X (src r) fun ds r' => ds = xs.map f ∧ r' = r) (ho : noOwn r [i] = true) (hl : xs.length ≤ 16777216) (hb : ∀ x ∈ xs, Wp (fun _ _ => False) (te (r.set i (.v (f x)))) fun y r3 => y = g x ∧ r3 = r.set i (.v (f x))) (hk : kk (.o (.l (xs.map g))) r) : Wp X (oComp src [i] (gN i) yes te r) kk := by
  rw [po_comp]
  refine po_mono hsrc ?_
  rintro _ _ ⟨rfl, rfl⟩
  refine ⟨ho, ?_⟩
  have hi := (own_lt ho).1
  rename_i q
  refine po_compM (f := f) (g := g) (fun r => ∃ s, r = q.set i s) xs [] q ⟨q[i], by rw [List.set_getElem_self]⟩ (by simpa using hl) ?_ ?_
  · rintro x hx _ ⟨s, rfl⟩
    refine ⟨q.set i (.v (f x)), ?_, po_mono (hb x hx) ?_⟩
    · simp [hi]
    · rintro y r3 ⟨h1, h2⟩
      exact ⟨h1, _, h2⟩
  · rintro _ ⟨s, rfl⟩
    rw [List.nil_append]
    simp only [wipe_cons, wipe_nil, back_cons, back_nil]
    rw [set_back _ _ _ _ hi]
    exact hk
/-! ### what can be told as a text -/
def Rq (dp bk : Nat) (d : D) : Prop := pln d = true ∧ d.depth ≤ dp ∧ d.bulk ≤ bk
theorem Rq.int {i : Int} (h : i.natAbs < 2 ^ 1900) : Rq 1 0 (.int i) := ⟨decide_eq_true h, by simp [PyData.depth], by simp [PyData.bulk]⟩
theorem Rq.mono {a b a' b' : Nat} {d : D} (h : Rq a b d) (h1 : a ≤ a') (h2 : b ≤ b') : Rq a' b' d := ⟨h.1, Nat.le_trans h.2.1 h1, Nat.le_trans h.2.2 h2⟩
theorem Rq.all {dp bk n : Nat} {ds : List D} (hl : ds.length ≤ n) (h : ∀ d ∈ ds, Rq dp bk d) : plnAll ds = true ∧ PyData.depthAll ds ≤ dp ∧ PyData.bulkAll ds ≤ (bk + 1) * n := by
  have e : ds.map (fun d : D => d) = ds := by simp
  have h1 := plnAll_map (fun d : D => d) ds fun d hd => (h d hd).1
  have h2 := depthAll_map (fun d : D => d) dp ds fun d hd => (h d hd).2.1
  have h3 := bulkAll_map (fun d : D => d) bk ds fun d hd => (h d hd).2.2
  rw [e] at h1 h2 h3
  exact ⟨h1, h2, Nat.le_trans h3 (Nat.mul_le_mul_left _ hl)⟩
theorem Rq.tup {dp bk n : Nat} {ds : List D} (hl : ds.length ≤ n) (h : ∀ d ∈ ds, Rq dp bk d) : Rq (dp + 1) ((bk + 1) * n) (.tuple ds) := by
  obtain ⟨h1, h2, h3⟩ := Rq.all hl h
  exact ⟨h1, by simp only [PyData.depth]; omega, by simp only [PyData.bulk]; exact h3⟩
theorem Rq.lst {dp bk n : Nat} {ds : List D} (hl : ds.length ≤ n) (h : ∀ d ∈ ds, Rq dp bk d) : Rq (dp + 1) ((bk + 1) * n) (.list ds) := by
  obtain ⟨h1, h2, h3⟩ := Rq.all hl h
  exact ⟨h1, by simp only [PyData.depth]; omega, by simp only [PyData.bulk]; exact h3⟩
@[simp] theorem eRemove_ap (i : Nat) (m : M D) (r : En) : eRemove i m r = (match getC i r with
  | some (.l _) => (m r).bind fun d r => match getC i r with
    | some (.l ds) => cI (SeqAt.shaped d = true ∧ SeqAt.shaped (.list ds) = true ∧ (SeqAt.dataPlace ds d).isSome = true) (.ok .none (putC i (.l (ds.eraseIdx ((SeqAt.dataPlace ds d).getD 0))) r)) .no
    | _ => .no
  | _ => .no) := rfl
@[simp] theorem eCount_ap (mo me : M D) (r : En) : eCount mo me r = (mo r).bind fun d r => (match d with
  | .list ds => (me r).bind fun b r => M.opt (countD (.list ds) b) r
  | _ => .no) := by
  show (mo r).bind (fun d => (match d with
  | .list ds => me.bind fun b => M.opt (countD (.list ds) b)
  | _ => M.no)) = _
  congr 1
  funext d r
  cases d <;> rfl
@[simp] theorem eGet_ap (i : Nat) (mk mx : M D) (r : En) : eGet i mk mx r = (match getC i r with
  | some (.d _) => (mk r).bind fun k r => (mx r).bind fun x r => (match getC i r with
    | some (.d kvs) => (match keyD k with
      | some y => .ok ((vK kvs y).getD x) r
      | none => .no)
    | _ => .no)
  | _ => .no) := rfl
@[simp] theorem eClear_ap (i : Nat) (r : En) : eClear i r = (match getC i r with
  | some (.l _) => .ok .none (putC i (.l []) r)
  | _ => .no) := rfl
@[simp] theorem zipW_tl (a b : List D) : zipW [.tuple a, .list b] = some (zipD a b) := rfl
@[simp] theorem zipW_ll (a b : List D) : zipW [.list a, .list b] = some (zipD a b) := rfl
@[simp] theorem eReprS_ap (i : Nat) (r : En) : eReprS i r = (match getC i r with
  | some (.l ds) => M.opt (reprD (.list ds)) r
  | some (.d _) => .no
  | some (.t _) => .no
  | some (.n (.l its)) => M.opt (reprD (.list (its.map Im.data))) r
  | some (.n _) => .no
  | none => nry (one reprD) (aCons (getS i) aNil) r) := rfl
@[simp] theorem eIsiS_ap (T : String) (i : Nat) (r : En) : eIsiS T i r = (match getC i r with
  | some (.l ds) => M.opt ((kitB "list" T).map PyData.bool) r
  | some (.d _) => M.opt ((kitB "dict" T).map PyData.bool) r
  | some (.t _) => .no
  | some (.n (.l _)) => M.opt ((kitB "list" T).map PyData.bool) r
  | some (.n _) => .no
  | none => una (isiD T) (getS i) r) := rfl
@[simp] theorem eTupS_ap (i : Nat) (r : En) : eTupS i r = (match getC i r with
  | some (.l ds) => .ok (.tuple ds) r
  | some (.d _) => .no
  | some (.t _) => .no
  | some (.n _) => .no
  | none => nry (one tupD) (aCons (getS i) aNil) r) := rfl
@[simp] theorem kit_ll : kitB "list" "list" = some true := by kernel_rfl
@[simp] theorem kit_lt : kitB "list" "tuple" = some false := by kernel_rfl
@[simp] theorem oListK_ap (i : Nat) (r : En) : oListK i r = (match getC i r with
  | some (.d kvs) => .ok (.o (.l (kvs.map fun kv => kD kv.1))) r
  | some (.l _) => .no
  | some (.t _) => .no
  | some (.n _) => .no
  | none => nryO listD (aCons (getS i) aNil) r) := rfl
@[simp] theorem oSortK_ap (i : Nat) (r : En) : oSortK i r = (match getC i r with
  | some (.d kvs) => (match intKs (kvs.map (·.1)) with
    | some is => cI (is.length < 64) (.ok (.o (.l ((isort is).map .int))) r) .no
    | none => .no)
  | some (.l _) => .no
  | some (.t _) => .no
  | some (.n _) => .no
  | none => nryO sortD (aCons (getS i) aNil) r) := rfl
@[simp] theorem maxdD_l (ns : List Int) (d : Int) : maxdD (.list (ns.map .int)) (.int d) = some (.int (maxI d ns)) := by
  show (intsOf (ns.map PyData.int)).map (fun ns => PyData.int (maxI d ns)) = _
  rw [intsOf_mp]
  rfl
@[simp] theorem noL_i (i : Int) : noL (.int i) = true := rfl
@[simp] theorem noL_t (ds : List D) : noL (.tuple ds) = noLAll ds := rfl
@[simp] theorem noL_nil : noLAll [] = true := rfl
@[simp] theorem kD_l (i : Int) : kD (.inl i) = .int i := rfl
/-! ### what can be told as a text, of short numbers, much of it -/
def Rs (dp bk : Nat) (d : D) : Prop := (pln d = true ∧ d.leavesShort 60 = true) ∧ d.depth ≤ dp ∧ d.bulk ≤ bk
theorem leaves_all {k : Nat} : ∀ {ds : List D}, (∀ d ∈ ds, d.leavesShort k = true) → PyData.leavesShortAll k ds = true
  | [], _ => rfl
  | d :: ds, h => Bool.and_eq_true_iff.mpr ⟨h d (List.mem_cons_self ..), leaves_all fun x hx => h x (List.mem_cons_of_mem _ hx)⟩
theorem Rs.int {i : Int} (h : i.natAbs < 2 ^ 50) : Rs 1 0 (.int i) := ⟨⟨decide_eq_true (Nat.lt_of_lt_of_le h (Nat.pow_le_pow_right (by decide) (by decide))), decide_eq_true (by
  show (Str.ofString (toString i)).length ≤ 60
  rw [ofString_length]
  have := int_text_length_le (k := 50) (by decide) (PySem.Flt.log2_lt_of (by decide) h)
  omega)⟩, by simp [PyData.depth], by simp [PyData.bulk]⟩
theorem Rs.mono {a b a' b' : Nat} {d : D} (h : Rs a b d) (h1 : a ≤ a') (h2 : b ≤ b') : Rs a' b' d := ⟨h.1, Nat.le_trans h.2.1 h1, Nat.le_trans h.2.2 h2⟩
theorem Rs.all {dp bk n : Nat} {ds : List D} (hl : ds.length ≤ n) (h : ∀ d ∈ ds, Rs dp bk d) : plnAll ds = true ∧ PyData.leavesShortAll 60 ds = true ∧ PyData.depthAll ds ≤ dp ∧ PyData.bulkAll ds ≤ (bk + 1) * n := by
  have e : ds.map (fun d : D => d) = ds := by simp
  have h1 := plnAll_map (fun d : D => d) ds fun d hd => (h d hd).1.1
  have h2 := depthAll_map (fun d : D => d) dp ds fun d hd => (h d hd).2.1
  have h3 := bulkAll_map (fun d : D => d) bk ds fun d hd => (h d hd).2.2
  rw [e] at h1 h2 h3
  exact ⟨h1, leaves_all fun d hd => (h d hd).1.2, h2, Nat.le_trans h3 (Nat.mul_le_mul_left _ hl)⟩
theorem Rs.tup {dp bk n : Nat} {ds : List D} (hl : ds.length ≤ n) (h : ∀ d ∈ ds, Rs dp bk d) : Rs (dp + 1) ((bk + 1) * n) (.tuple ds) := by
  obtain ⟨h1, h4, h2, h3⟩ := Rs.all hl h
  exact ⟨⟨h1, h4⟩, by simp only [PyData.depth]; omega, by simp only [PyData.bulk]; exact h3⟩
theorem Rs.lst {dp bk n : Nat} {ds : List D} (hl : ds.length ≤ n) (h : ∀ d ∈ ds, Rs dp bk d) : Rs (dp + 1) ((bk + 1) * n) (.list ds) := by
  obtain ⟨h1, h4, h2, h3⟩ := Rs.all hl h
  exact ⟨⟨h1, h4⟩, by simp only [PyData.depth]; omega, by simp only [PyData.bulk]; exact h3⟩
theorem Rs.shaped {dp bk : Nat} {d : D} (h : Rs dp bk d) (h1 : dp ≤ 64) : SeqAt.shaped d = true := pln_shaped h.1.1 (Nat.le_trans h.2.1 h1)
theorem Rq.shaped {dp bk : Nat} {d : D} (h : Rq dp bk d) (h1 : dp ≤ 64) : SeqAt.shaped d = true := pln_shaped h.1 (Nat.le_trans h.2.1 h1)
theorem fdivLD_iff (i j : Int) (d : D) : (fdivLD (.int i) (.int j) = some d) = (j ≠ 0 ∧ .int (i.fdiv j) = d) := by
  show (cI (j ≠ 0) (some (PyData.int (i.fdiv j))) none = some d) = _
  rw [cI_eq]
  exact ite_some _ _ _
@[simp] theorem po_fdivL {X : Exn → En → Prop} {kd : D → En → Prop} (i j : Int) (r : En) : Wp X (M.opt (fdivLD (.int i) (.int j)) r) kd = (j ≠ 0 ∧ kd (.int (i.fdiv j)) r) := by
  simp only [wp_eq]
  rw [qo_opt]
  simp only [fdivLD_iff]
  exact propext ⟨fun ⟨_, ⟨h, e⟩, q⟩ => ⟨h, by rw [e]; exact q⟩, fun ⟨h, q⟩ => ⟨_, ⟨h, rfl⟩, q⟩⟩
end Pu
namespace Pu
open PySem PySem.Spec PyProof.Rows L2
/-! ### a comprehension whose member may raise -/
end Pu
namespace Pu
open PySem PySem.Spec PyProof.Rows L2
variable [TabT]
def keepV : Sl → Sl
  | .v d => .v d
  | _ => .unk
def compLE (is : List Nat) (tg : Tg) (te : M D) : List D → List D → M (List D)
  | [], acc, r => .ok acc r
  | x :: xs, acc, r => match tg x (wipeE r is) with
    | none => .no
    | some r1 => match te r1 with
      | .ok y r3 => if acc.length < 16777216 then compLE is tg te xs (acc ++ [y]) r3 else .no
      | .ex e r3 => .ex e r3
      | .no => .no
def oCompE (src : M (List D)) (is : List Nat) (tg : Tg) (te : M D) : M RV := src.bind fun xs r => if noOwn r is = true then (match compLE is tg te xs [] r with
  | .ok ys q => .ok (.o (.l ys)) (backE r (wipeE q is) is)
  | .ex e _ => .ex e (r.map keepV)
  | .no => .no) else .no
/-! the plain side -/
section
variable {X : Exn → En → Prop}
@[simp] theorem po_compE {kk : RV → En → Prop} (src : M (List D)) (is : List Nat) (tg : Tg) (te : M D) (r : En) : Wp X (oCompE src is tg te r) kk = Wp X (src r) fun xs r => noOwn r is = true ∧ Wp (fun e _ => X e (r.map keepV)) (compLE is tg te xs [] r) fun ys q => kk (.o (.l ys)) (backE r (wipeE q is) is) := by
  simp only [wp_eq]
  show Po X ((src r).bind _) kk = _
  cases src r with
  | no => rfl
  | ex e q => rfl
  | ok xs r =>
    show Po X (if noOwn r is = true then _ else _) kk = (noOwn r is = true ∧ _)
    by_cases h : noOwn r is = true
    · rw [if_pos h]
      cases compLE is tg te xs [] r with
      | ok ys q => exact propext ⟨fun z => ⟨h, z⟩, fun z => z.2⟩
      | ex e q => exact propext ⟨fun z => ⟨h, z⟩, fun z => z.2⟩
      | no => exact propext ⟨fun z => z.elim, fun z => z.2.elim⟩
    · rw [if_neg h]
      exact propext ⟨fun z => z.elim, fun z => absurd z.1 h⟩
end
end Pu
namespace Pu
open PySem PySem.Spec PyProof.Rows L2
/-! ### defs as data: the name of a def told as a thing, a def that a slot holds called -/
end Pu
namespace Pu
open PySem PySem.Spec PyProof.Rows L2
/-! ### repr(x), dicts of flat things within -/
mutual
inductive Gx (h : Heap) : Value → PyData → Prop
  | none : Gx h .none .none
  | bool (b) : Gx h (.bool b) (.bool b)
  | int (i t) : Gx h (.int i t) (.int i)
  | str (x t) : Gx h (.str x t) (.str x)
  | list {a : Addr} {o : Obj} {vs : Array Value} {n : Nat} {xs : List PyData} : h.get? a = some o → o.cls = .type "list" → o.data = .seq vs n → GxAll h vs.toList xs → Gx h (.ref a) (.list xs)
  | tuple {a : Addr} {o : Obj} {vs : Array Value} {n : Nat} {xs : List PyData} : h.get? a = some o → o.cls = .type "tuple" → o.data = .seq vs n → GxAll h vs.toList xs → Gx h (.ref a) (.tuple xs)
  | emp {a : Addr} {o : Obj} {es : Array DictEntry} {n : Nat} : h.get? a = some o → o.cls = .type "dict" → o.data = .dict es n → es.toList = [] → (a == sysModules) = false → Gx h (.ref a) (.dict [])
  | dct {a : Addr} {o : Obj} {es : Array DictEntry} {n : Nat} {kvs : List (PyData × PyData)} : h.get? a = some o → o.cls = .type "dict" → o.data = .dict es n → ReadsAll h (es.toList.map (·.key)) (kvs.map (·.1)) [] → ReadsAll h (es.toList.map (·.val)) (kvs.map (·.2)) [] → (a == sysModules) = false → Gx h (.ref a) (.dict kvs)
inductive GxAll (h : Heap) : List Value → List PyData → Prop
  | nil : GxAll h [] []
  | cons {v : Value} {vs : List Value} {d : PyData} {ds : List PyData} : Gx h v d → GxAll h vs ds → GxAll h (v :: vs) (d :: ds)
end
mutual
theorem Gx.reads {h : Heap} : ∀ {v : Value} {d : PyData}, Gx h v d → ∃ as, Reads h v d as
  | _, _, .none => ⟨_, .none⟩
  | _, _, .bool b => ⟨_, .bool b⟩
  | _, _, .int i t => ⟨_, .int i t⟩
  | _, _, .str x t => ⟨_, .str x t⟩
  | _, _, .list h1 h2 h3 h4 => by
    obtain ⟨as, r⟩ := GxAll.reads h4
    exact ⟨_, .list h1 h2 h3 r⟩
  | _, _, .tuple h1 h2 h3 h4 => by
    obtain ⟨as, r⟩ := GxAll.reads h4
    exact ⟨_, .tuple h1 h2 h3 r⟩
  | _, _, .emp h1 h2 h3 h4 _ => ⟨_, .dict (kvs := []) h1 h2 h3 (by rw [h4]; exact .nil) (by rw [h4]; exact .nil)⟩
  | _, _, .dct h1 h2 h3 h4 h5 _ => ⟨_, .dict h1 h2 h3 h4 h5⟩
theorem GxAll.reads {h : Heap} : ∀ {vs : List Value} {ds : List PyData}, GxAll h vs ds → ∃ as, ReadsAll h vs ds as
  | _, _, .nil => ⟨_, .nil⟩
  | _, _, .cons a b => by
    obtain ⟨as, r⟩ := Gx.reads a
    obtain ⟨bs, q⟩ := GxAll.reads b
    exact ⟨_, .cons r q⟩
end
mutual
theorem reprK_gx {prog : Program} {w : World} {h₀ : Heap} : ∀ {v : Value} {d : PyData}, Gx h₀ v d → d.showable = true → d.shown.length ≤ sizeLine → ∃ bs, ReadAtMost h₀ d.depth bs ∧ ReprK prog w bs h₀ d.depth v d.shown
  | _, _, .none, _, _ => ⟨[], (fun _ h => nomatch h), by simp only [PyData.shown]; exact .of_is ReprIs.none _ _ _⟩
  | _, _, .bool b, _, _ => ⟨[], (fun _ h => nomatch h), by simp only [PyData.shown]; exact .of_is (ReprIs.bool b) _ _ _⟩
  | _, _, .int i t, hs, _ => ⟨[], (fun _ h => nomatch h), by simp only [PyData.shown]; exact .of_is (ReprIs.int t (by simpa [PyData.showable] using hs)) _ _ _⟩
  | _, _, .str x t, _, hz => ⟨[], (fun _ h => nomatch h), by simp only [PyData.shown]; exact .of_is (ReprIs.str x t (by simpa only [PyData.shown] using hz)) _ _ _⟩
  | _, _, .list (a := a) (vs := vs) (xs := xs) h1 h2 h3 h4, hs, hz => by
    have hz' : (listText (PyData.shownAll xs)).length ≤ sizeLine := by simpa only [PyData.shown] using hz
    obtain ⟨bs, hb, hk⟩ := reprAllK_gx (prog := prog) (w := w) h4 (by simpa [PyData.showable] using hs) (fun t ht => Nat.le_trans (listText_mem_le ht) hz')
    obtain ⟨as, r⟩ := Gx.reads (.list h1 h2 h3 h4)
    have hna : a ∉ bs := not_mem_of_deeper r (by simp only [PyData.depth]; omega) hb
    refine ⟨a :: bs, ReadAtMost.cons r (by simp only [PyData.depth]; omega) hb, ?_⟩
    simp only [PyData.depth, PyData.shown]
    obtain ⟨l⟩ := vs
    cases l with
    | nil =>
      have h4' : GxAll h₀ [] xs := h4
      cases h4'
      simp only [PyData.shownAll, listText_nil]
      exact ReprK.listEmpty h1 h2 h3
    | cons x l => exact ReprK.list h1 h2 h3 hna (by simpa using hk.length_eq) (fun i y e => hk.item i y (by simpa using e))
  | _, _, .tuple (a := a) (xs := xs) h1 h2 h3 h4, hs, hz => by
    have hz' : (tupleText (PyData.shownAll xs)).length ≤ sizeLine := by simpa only [PyData.shown] using hz
    obtain ⟨bs, hb, hk⟩ := reprAllK_gx (prog := prog) (w := w) h4 (by simpa [PyData.showable] using hs) (fun t ht => Nat.le_trans (tupleText_mem_le ht) hz')
    obtain ⟨as, r⟩ := Gx.reads (.tuple h1 h2 h3 h4)
    have hna : a ∉ bs := not_mem_of_deeper r (by simp only [PyData.depth]; omega) hb
    refine ⟨a :: bs, ReadAtMost.cons r (by simp only [PyData.depth]; omega) hb, ?_⟩
    simp only [PyData.depth, PyData.shown]
    exact ReprK.tuple h1 h2 h3 hna hk
  | _, _, .emp (a := a) h1 h2 h3 h4 h5, hs, hz => by
    have r : Reads h₀ (.ref a) (.dict []) ([a] ++ [] ++ []) := .dict (kvs := []) h1 h2 h3 (by rw [h4]; exact .nil) (by rw [h4]; exact .nil)
    exact ReprK.of_reads r hs (fun _ hm => by
      have : sysModules = a := by simpa using hm
      rw [this] at h5
      simp at h5) hz
  | _, _, .dct (a := a) h1 h2 h3 h4 h5 h6, hs, hz => by
    have r := Reads.dict h1 h2 h3 h4 h5
    exact ReprK.of_reads r hs (fun _ hm => by
      have : sysModules = a := by simpa using hm
      rw [this] at h6
      simp at h6) hz
theorem reprAllK_gx {prog : Program} {w : World} {h₀ : Heap} : ∀ {vs : List Value} {ds : List PyData}, GxAll h₀ vs ds → PyData.showableAll ds = true → (∀ t ∈ PyData.shownAll ds, t.length ≤ sizeLine) →
    ∃ bs, ReadAtMost h₀ (PyData.depthAll ds) bs ∧ ReprAllK prog w bs h₀ (PyData.depthAll ds) vs (PyData.shownAll ds)
  | _, _, .nil, _, _ => ⟨[], (fun _ h => nomatch h), by simp only [PyData.shownAll]; exact .nil⟩
  | _, _, .cons (d := d) (ds := ds) r rs, hs, hz => by
    have hs' : d.showable = true ∧ PyData.showableAll ds = true := by simpa [PyData.showableAll] using hs
    obtain ⟨b1, hb1, k1⟩ := reprK_gx (prog := prog) (w := w) r hs'.1 (hz _ (by simp only [PyData.shownAll]; exact List.mem_cons_self ..))
    obtain ⟨b2, hb2, k2⟩ := reprAllK_gx (prog := prog) (w := w) rs hs'.2 (fun t ht => hz t (by simp only [PyData.shownAll]; exact List.mem_cons_of_mem _ ht))
    refine ⟨b1 ++ b2, ?_, ?_⟩
    · intro b hm
      simp only [PyData.depthAll]
      rcases List.mem_append.mp hm with hm | hm
      · obtain ⟨d', as', r', hd'⟩ := hb1 b hm
        exact ⟨d', as', r', Nat.le_trans hd' (Nat.le_max_left _ _)⟩
      · obtain ⟨d', as', r', hd'⟩ := hb2 b hm
        exact ⟨d', as', r', Nat.le_trans hd' (Nat.le_max_right _ _)⟩
    · simp only [PyData.depthAll, PyData.shownAll]
      exact .cons ((k1.more fun b hb => List.mem_append_left _ hb).level_le (Nat.le_max_left _ _)) (k2.more_le (fun b hb => List.mem_append_right _ hb) (Nat.le_max_right _ _))
end
theorem repr_of_gx {prog : Program} {w : World} {h₀ : Heap} {a : Addr} {d : PyData} {A : Around} {E : Value → Shared → Prop} {s : Shared} {Q : Value → Shared → Prop} (r : Gx h₀ (.ref a) d) (hs : d.showable = true) (hg : A.guards = some []) (hu : A.units + (d.depth + 1) < cLine) (hk0 : ∀ b o, h₀.get? b = some o → s.heap.get? b = some o)
    (hQ : ∀ h' u tk, (∀ b o, s.heap.get? b = some o → h'.get? b = some o) → Q (.str d.shown u) { s with heap := h', toks := tk })
    (hsz : d.shown.length ≤ sizeLine) : wpAny (model prog w) A (call (.builtin "repr") [.ref a]) Q E s := by
  have key : ∃ T idr, ShowsBy prog w h₀ a d T idr := by
    cases r with
    | @list _ o vs n xs h1 h2 h3 h4 =>
      have hz' : (listText (PyData.shownAll xs)).length ≤ sizeLine := by simpa only [PyData.shown] using hsz
      obtain ⟨bs, hb, hk⟩ := reprAllK_gx (prog := prog) (w := w) h4 (by simpa [PyData.showable] using hs) (fun t ht => Nat.le_trans (listText_mem_le ht) hz')
      obtain ⟨as, r⟩ := Gx.reads (.list h1 h2 h3 h4)
      have hna : a ∉ bs := not_mem_of_deeper r (by simp only [PyData.depth]; omega) hb
      refine ⟨"list", "list.__repr__", F.slot_list_repr.toG, F.slot_list_str, F.slot_list_format, fun s hk0 => ⟨o, hk0 _ _ h1, h2⟩, fun A E s Q hg hu hk0 hQ => ?_⟩
      simp only [PyData.depth] at hu
      simp only [PyData.shown] at hQ
      obtain ⟨l⟩ := vs
      cases l with
      | nil =>
        have h4' : GxAll h₀ [] xs := h4
        cases h4'
        simp only [PyData.shownAll, listText_nil] at hQ
        exact call_list_repr_empty ⟨o, hk0 _ _ h1, h2⟩ (hk0 _ _ h1) h3 (hQ s.heap _ _ fun _ _ e => e)
      | cons x l =>
        exact call_list_reprK h1 h2 h3 hna (by simpa using hk.length_eq) (fun i y e => hk.item i y (by simpa using e)) hg (fun b _ => Clear.nil b) hu hk0 hQ hz'
    | @tuple _ o vs n xs h1 h2 h3 h4 =>
      have hz' : (tupleText (PyData.shownAll xs)).length ≤ sizeLine := by simpa only [PyData.shown] using hsz
      obtain ⟨bs, hb, hk⟩ := reprAllK_gx (prog := prog) (w := w) h4 (by simpa [PyData.showable] using hs) (fun t ht => Nat.le_trans (tupleText_mem_le ht) hz')
      obtain ⟨as, r⟩ := Gx.reads (.tuple h1 h2 h3 h4)
      have hna : a ∉ bs := not_mem_of_deeper r (by simp only [PyData.depth]; omega) hb
      refine ⟨"tuple", "tuple.__repr__", F.slot_tuple_repr, F.slot_tuple_str, F.slot_tuple_format, fun s hk0 => ⟨o, hk0 _ _ h1, h2⟩, fun A E s Q hg hu hk0 hQ => ?_⟩
      simp only [PyData.depth] at hu
      simp only [PyData.shown] at hQ
      exact call_tuple_reprK h1 h2 h3 hna hk hg (fun b _ => Clear.nil b) hu hk0 hQ hz'
    | emp h1 h2 h3 h4 h5 =>
      have r : Reads h₀ (.ref a) (.dict []) ([a] ++ [] ++ []) := .dict (kvs := []) h1 h2 h3 (by rw [h4]; exact .nil) (by rw [h4]; exact .nil)
      exact showsBy_of_reads (prog := prog) (w := w) r hs (fun _ hm => by
        have : sysModules = a := by simpa using hm
        rw [this] at h5
        simp at h5) hsz
    | @dct _ o es n kvs h1 h2 h3 h4 h5 h6 =>
      have r := Reads.dict h1 h2 h3 h4 h5
      exact showsBy_of_reads (prog := prog) (w := w) r hs (fun _ hm => by
        have : sysModules = a := by simpa using hm
        rw [this] at h6
        simp at h6) hsz
  obtain ⟨T, idr, S⟩ := key
  exact call_repr_slot (by omega) (S.typeIs s hk0) S.slotRepr (S.call A.in1 E s _ hg (by show A.units + 1 + d.depth < cLine; omega) hk0 fun h' u tk hk => ⟨_, _, rfl, hQ h' u tk hk⟩)
def isI : PyData → Bool
  | .int _ => true
  | _ => false
/-- an int or a tuple of ints -/
def flatZ : PyData → Bool
  | .int _ => true
  | .tuple ds => ds.all isI
  | _ => false
mutual
def shX : PyData → Bool
  | .none | .bool _ | .int _ | .str _ => true
  | .list xs | .tuple xs => shXAll xs
  | .dict kvs => kvs.all fun q => flatZ q.1 && flatZ q.2
def shXAll : List PyData → Bool
  | [] => true
  | x :: xs => shX x && shXAll xs
end
variable [TabT]
section
variable {X : Cx} {c : Cc} {pins : List (Addr × Obj)} {σ : L2.St} {H : Hp} {s : Shared}
theorem ints_reads : ∀ {vs : List V} {ds : List PyData} {us : List Value}, RpAll X.K H vs ds → ds.all isI = true → Vals vs us → ReadsAll s.heap us ds []
  | _, _, _, .nil, _, r => by
    cases r
    exact .nil
  | _, _, _, .cons (d := d) h1 h2, e, r => by
    rw [List.all_cons, Bool.and_eq_true] at e
    cases r with
    | cons r1 r2 =>
      have ih := ints_reads h2 e.2 r2
      cases d with
      | int i =>
        cases h1
        obtain ⟨t, rfl⟩ := r1
        exact .cons (.int i t) ih
      | _ => cases e.1
theorem flat_reads (I : Inv X pins σ H s) {v : V} {d : PyData} {u : Value} (h : Rp X.K H v d) (e : flatZ d = true) (r : RelV v u) : Reads s.heap u d [] := by
  cases d with
  | int i =>
    cases h
    obtain ⟨t, rfl⟩ := r
    exact .int i t
  | tuple ds =>
    cases h with
    | tup hs ha =>
      cases r
      obtain ⟨its, rv, ⟨o, ho, hc, n, hd⟩, _⟩ := I.tuple (SqU.s hs)
      exact .tuple ho hc hd (ints_reads ha e rv)
  | _ => cases e
theorem keys_reads : ∀ {ks : List Key} {us : List Value}, Vals (ks.map kV) us → ReadsAll s.heap us (ks.map kyD) []
  | [], _, r => by
    cases r
    exact .nil
  | k :: ks, _, r => by
    cases r with
    | cons r1 r2 =>
      have ih := keys_reads (ks := ks) r2
      cases k with
      | inl i =>
        obtain ⟨t, rfl⟩ := (show ∃ t, _ = Value.int i t from r1)
        exact .cons (.int i t) ih
      | inr x =>
        obtain ⟨t, rfl⟩ := (show ∃ t, _ = Value.str x t from r1)
        exact .cons (.str x t) ih
theorem dci_reads (I : Inv X pins σ H s) : ∀ {ks : List (Int × V)} {kv : List (Int × D)} {vs : List (Key × Value)} {es : List DictEntry}, KV (ks.map fun p => ((Sum.inl p.1 : Key), p.2)) vs → Pairs (mixKind X.prog X.w) es vs → ks.map (·.1) = kv.map (·.1) → RpAll X.K H (ks.map (·.2)) (kv.map (·.2)) → (kv.all fun q => flatZ q.2) = true →
    ReadsAll s.heap (es.map (·.key)) (kv.map fun q => PyData.int q.1) [] ∧ ReadsAll s.heap (es.map (·.val)) (kv.map (·.2)) []
  | [], [], _, _, h1, h2, _, _, _ => by
    cases h1
    cases h2
    exact ⟨.nil, .nil⟩
  | [], _ :: _, _, _, _, _, e, _, _ => by cases e
  | _ :: _, [], _, _, _, _, e, _, _ => by cases e
  | p :: ks, q :: kv, _, _, h1, h2, e, ra, fl => by
    obtain ⟨e1, e2⟩ := List.cons.inj e
    have e1 : p.1 = q.1 := e1
    rw [List.all_cons, Bool.and_eq_true] at fl
    cases h1 with
    | cons a1 a2 =>
      cases ra with
      | cons r1 r2 =>
        cases h2 with
        | cons b1 b2 b3 =>
          obtain ⟨i1, i2⟩ := dci_reads I (ks := ks) (kv := kv) a2 b3 e2 r2 fl.2
          obtain ⟨a11, a12⟩ := a1
          rw [← a11] at b1
          refine ⟨?_, ?_⟩
          · have b1 : keyIs (Sum.inl p.1 : Key) _ = true := b1
            rcases keyIs_shape b1 with ⟨i, t, g1, g2⟩ | ⟨x, t, g1, g2⟩
            · have g1 : (Sum.inl p.1 : Key) = Sum.inl i := g1
              cases g1
              rw [List.map_cons, List.map_cons, g2, ← e1]
              exact .cons (.int _ t) i1
            · cases g1
          · rw [List.map_cons, List.map_cons, b2]
            exact .cons (flat_reads I r1 fl.1 a12) i2
theorem dct_reads (I : Inv X pins σ H s) : ∀ {es : List (List Key × V)} {kv : List (List Key × D)} {xs : List (List Key × Addr × Value)}, Paired (fun (p : List Key × V) (q : List Key × Addr × Value) => p.1 = q.1 ∧ H q.2.1 = some (.tup (p.1.map kV)) ∧ RelV p.2 q.2.2) es xs → es.map (·.1) = kv.map (·.1) → RpAll X.K H (es.map (·.2)) (kv.map (·.2)) → (kv.all fun q => flatZ q.2) = true →
    ReadsAll s.heap ((xs.map (PySem.entryOfKey (tupleKind (mixKind X.prog X.w)))).map (·.key)) (kv.map fun q => PyData.tuple (q.1.map kyD)) [] ∧ ReadsAll s.heap ((xs.map (PySem.entryOfKey (tupleKind (mixKind X.prog X.w)))).map (·.val)) (kv.map (·.2)) []
  | [], [], _, h1, _, _, _ => by
    cases h1
    exact ⟨.nil, .nil⟩
  | [], _ :: _, _, _, e, _, _ => by cases e
  | _ :: _, [], _, _, e, _, _ => by cases e
  | p :: es, q :: kv, _, h1, e, ra, fl => by
    obtain ⟨e1, e2⟩ := List.cons.inj e
    have e1 : p.1 = q.1 := e1
    rw [List.all_cons, Bool.and_eq_true] at fl
    cases h1 with
    | cons a1 a2 =>
      cases ra with
      | cons r1 r2 =>
        obtain ⟨i1, i2⟩ := dct_reads I (es := es) (kv := kv) a2 e2 r2 fl.2
        obtain ⟨g1, g2, g3⟩ := a1
        refine ⟨?_, ?_⟩
        · obtain ⟨its, rv, ⟨o, ho, hc, n, hd⟩, _⟩ := I.tuple (SqU.s (show SqU H _ _ from g2))
          rw [List.map_cons, List.map_cons, List.map_cons, ← e1]
          exact .cons (as := []) (.tuple ho hc hd (keys_reads rv)) i1
        · rw [List.map_cons, List.map_cons, List.map_cons]
          exact .cons (as := []) (flat_reads I r1 fl.1 g3) i2
mutual
theorem rp_gx (I : Inv X pins σ H s) : ∀ (d : PyData) (v : V) (u : Value), Rp X.K H v d → shX d = true → RelV v u → Gx s.heap u d
  | .none, _, _, h, _, r => by
    cases h
    cases r
    exact .none
  | .bool b, _, _, h, _, r => by
    cases h
    cases r
    exact .bool b
  | .int i, _, _, h, _, r => by
    cases h
    obtain ⟨t, rfl⟩ := r
    exact .int i t
  | .str x, _, _, h, _, r => by
    cases h
    obtain ⟨t, rfl⟩ := r
    exact .str x t
  | .list ds, _, _, h, e, r => by
    cases h with
    | lst hs ha =>
      cases r
      obtain ⟨its, rv, ⟨o, n, ho, hc, _, hd⟩, _⟩ := I.list hs
      exact .list ho hc hd (rpa_gx I ds _ its ha (by simpa [shX] using e) rv)
  | .tuple ds, _, _, h, e, r => by
    cases h with
    | tup hs ha =>
      cases r
      obtain ⟨its, rv, ⟨o, ho, hc, n, hd⟩, _⟩ := I.tuple (SqU.s hs)
      exact .tuple ho hc hd (rpa_gx I ds _ its ha (by simpa [shX] using e) rv)
  | .dict [], _, _, h, _, r => by
    cases h with
    | emp ha =>
      cases (show _ = Value.ref _ from r)
      obtain ⟨_, hs, vs, hkv, o, es, ep, ho, hex, hd, _, hpr, _⟩ := (show ObjOk X.prog X.w H s.heap _ (.dK []) from I.hok _ _ ha)
      cases hkv
      have he : es.toList = [] := by
        have := hpr.length
        simpa using this
      exact .emp ho hex.1 hd he hs
    | dci _ _ _ n w => exact absurd (List.map_eq_nil_iff.mp w.symm) n
    | dct _ _ _ n w => exact absurd (List.map_eq_nil_iff.mp w.symm) n
  | .dict (x :: r), _, _, h, e, rr => by
    generalize hdd : x :: r = dd at h e
    cases h with
    | emp _ => cases hdd
    | exc0 _ _ => simp [shX, flatZ] at e
    | excF _ _ _ _ _ => simp [shX, flatZ] at e
    | fnv => simp [shX, flatZ] at e
    | @dci a od ks kv _ h1 h2 h3 h4 h5 =>
      subst h5
      cases (show _ = Value.ref _ from rr)
      obtain ⟨_, _, hs, vs, hkv, o, es, ep, ho, hex, hd, _, hpr, _⟩ := (show ObjOk X.prog X.w H s.heap _ (.frz od (.dK _)) from I.hok _ _ h1)
      have fl : (kv.all fun q => flatZ q.2) = true := List.all_eq_true.mpr fun q hq => by
        have := List.all_eq_true.mp (show ((kv.map fun q => (PyData.int q.1, q.2)).all fun q => flatZ q.1 && flatZ q.2) = true from e) _ (List.mem_map.mpr ⟨q, hq, rfl⟩)
        exact (Bool.and_eq_true_iff.mp this).2
      obtain ⟨i1, i2⟩ := dci_reads I hkv hpr h2 h3 fl
      refine .dct ho hex.1 hd (by rw [List.map_map]; exact i1) (by rw [List.map_map]; exact i2) hs
    | @dct a es kv _ h1 h2 h3 h4 h5 =>
      subst h5
      cases (show _ = Value.ref _ from rr)
      obtain ⟨_, hs, xs, hp, o, es', ep, ho, hex, hd, hes, _⟩ := (show ObjOk X.prog X.w H s.heap _ (.dT _) from I.hok _ _ h1)
      have fl : (kv.all fun q => flatZ q.2) = true := List.all_eq_true.mpr fun q hq => by
        have := List.all_eq_true.mp (show ((kv.map fun q => (PyData.tuple (q.1.map kyD), q.2)).all fun q => flatZ q.1 && flatZ q.2) = true from e) _ (List.mem_map.mpr ⟨q, hq, rfl⟩)
        exact (Bool.and_eq_true_iff.mp this).2
      obtain ⟨i1, i2⟩ := dct_reads I hp h2 h3 fl
      refine .dct ho hex.1 hd (by rw [hes]; simp only [List.map_map] at i1 ⊢; exact i1) (by rw [hes]; simp only [List.map_map] at i2 ⊢; exact i2) hs
theorem rpa_gx (I : Inv X pins σ H s) : ∀ (ds : List PyData) (vs : List V) (us : List Value), RpAll X.K H vs ds → shXAll ds = true → Vals vs us → GxAll s.heap us ds
  | [], _, _, h, _, r => by
    cases h
    cases r
    exact .nil
  | d :: ds, _, _, h, e, r => by
    have e : shX d = true ∧ shXAll ds = true := by simpa [shXAll] using e
    cases h with
    | cons h1 h2 =>
      cases r with
      | cons r1 r2 => exact .cons (rp_gx I d _ _ h1 e.1 r1) (rpa_gx I ds _ _ h2 e.2 r2)
end
end
section
variable {X : Cx} {c : Cc}
noncomputable def reprZ : D → Option D
  | .list ds => cI ((PyData.list ds).showable = true ∧ shXAll ds = true ∧ (PyData.list ds).depth ≤ 64 ∧ (PyData.list ds).shown.length ≤ 16777216) (some (.str (PyData.list ds).shown)) none
  | .tuple ds => cI ((PyData.tuple ds).showable = true ∧ shXAll ds = true ∧ (PyData.tuple ds).depth ≤ 64 ∧ (PyData.tuple ds).shown.length ≤ 16777216) (some (.str (PyData.tuple ds).shown)) none
  | d => reprD d
theorem call_reprZ (hg : X.A.guards = some []) (hu : X.A.units + 150 < cLine) : CallR X (.builtin "repr") (fun xs H Q => ∃ a d, xs = [.ref a] ∧ Rp X.K H (.ref a) d ∧ d.showable = true ∧ shX d = true ∧ d.depth ≤ 64 ∧ d.shown.length ≤ sizeLine ∧ Q (.str d.shown) H) := by
  intro pins s st H xs us Q I rv h
  obtain ⟨a, d, rfl, hd, h1, h2, hdp, h3, q⟩ := h
  obtain ⟨u, rfl, ru⟩ := vals1 rv
  have rd := rp_gx I d _ _ hd h2 ru
  cases ru
  exact repr_of_gx rd h1 hg (by omega) (fun _ _ e => e) (fun h' t tk k => ⟨.str _, H, I.kept k, ⟨_, rfl⟩, q⟩) h3
theorem reprZ_data {k : Nat} (hr : Rm k X.A) (hK : c.K = X.K := by rfl) : CallR X (.builtin "repr") (rDA c.K (one reprZ)) := callr_cq (callr_or (call_reprZ hr.gd hr.u150) (repr_data (c := c) hr hK)) fun xs H Q ⟨F, ds, z, fh, dx, hz, q⟩ => by
  obtain ⟨d, rfl, hz⟩ := one_some hz
  have old : ∀ e, reprZ d = reprD d → e = d → (X.K = X.K) → rDA c.K (one reprD) xs H Q := fun e h _ _ => ⟨F, [d], z, fh, dx, by rw [show one reprD [d] = reprD d from rfl, ← h]; exact hz, q⟩
  cases d with
  | list ds =>
    have hz : (if (PyData.list ds).showable = true ∧ shXAll ds = true ∧ (PyData.list ds).depth ≤ 64 ∧ (PyData.list ds).shown.length ≤ 16777216 then some (PyData.str (PyData.list ds).shown) else none) = some z := by
      rw [← cI_eq]
      exact hz
    split at hz
    · rename_i hc
      cases hz
      cases dx with
      | cons h0 h1 =>
        cases h1
        cases h0 with
        | lst g1 g2 => exact .inl ⟨_, _, rfl, by rw [← hK]; exact dp_mono fh (.lst g1 g2), hc.1, by simp only [shX]; exact hc.2.1, hc.2.2.1, by rw [sizeLine_eq]; exact hc.2.2.2, q _ F H (.inl ⟨rfl, rfl⟩) (.str _)⟩
    · cases hz
  | tuple ds =>
    have hz : (if (PyData.tuple ds).showable = true ∧ shXAll ds = true ∧ (PyData.tuple ds).depth ≤ 64 ∧ (PyData.tuple ds).shown.length ≤ 16777216 then some (PyData.str (PyData.tuple ds).shown) else none) = some z := by
      rw [← cI_eq]
      exact hz
    split at hz
    · rename_i hc
      cases hz
      cases dx with
      | cons h0 h1 =>
        cases h1
        cases h0 with
        | tup g1 g2 => exact .inl ⟨_, _, rfl, by rw [← hK]; exact dp_mono fh (.tup g1 g2), hc.1, by simp only [shX]; exact hc.2.1, hc.2.2.1, by rw [sizeLine_eq]; exact hc.2.2.2, q _ F H (.inl ⟨rfl, rfl⟩) (.str _)⟩
    · cases hz
  | _ => exact .inr (old _ rfl rfl rfl)
end
/-! ### dict(list of pairs) as a thing -/
section
variable {X : Cx} {c : Cc}
def pairKD : D → Option (Key × D)
  | .tuple [k, v] => (keyD k).map fun y => (y, v)
  | _ => none
def pairsKD : List D → Option (List (Key × D))
  | [] => some []
  | d :: ds => (pairKD d).bind fun p => (pairsKD ds).map fun ps => p :: ps
theorem kvK_merge {K : PySem.W.Frag} {F : Hp} : ∀ {ls : List (Key × V)} {lvs : List (Key × D)}, KvAll K F ls lvs → ∀ {ks : List (Key × V)} {kvs : List (Key × D)}, KvAll K F ks kvs → KvAll K F (mergeK ks ls) (lvs.foldl (fun acc kv => pK acc kv.1 kv.2) kvs)
  | _, _, .nil, _, _, h => h
  | _, _, .cons r t, _, _, h => kvK_merge t (kv_put h r)
theorem ksK_of {K : PySem.W.Frag} {F : Hp} : ∀ {us : List V} {xs : List D} {kvs : List (Key × D)}, RpAll K F us xs → pairsKD xs = some kvs → ∃ (ps : List Addr) (ks : List (Key × V)), us = ps.map V.ref ∧ Paired (fun p (kv : Key × V) => SqU F p [kV kv.1, kv.2]) ps ks ∧ KvAll K F ks kvs
  | _, _, kvs, .nil, h => by
    cases h
    exact ⟨[], [], rfl, .nil, .nil⟩
  | _, _, kvs, .cons (d := d) (ds := ds) h t, e => by
    have e : (pairKD d).bind (fun p => (pairsKD ds).map fun ps => p :: ps) = some kvs := e
    obtain ⟨p, hp, e⟩ := Option.bind_eq_some_iff.mp e
    obtain ⟨ps, hps, rfl⟩ := Option.map_eq_some_iff.mp e
    obtain ⟨as, ks, h1, h2, h3⟩ := ksK_of t hps
    cases h with
    | @tup a xs es g1 g2 =>
      match es, g2, hp with
      | [k, v], .cons gk (.cons gv .nil), hp =>
        obtain ⟨y, hy, rfl⟩ := Option.map_eq_some_iff.mp hp
        cases rp_key gk hy
        exact ⟨a :: as, (y, _) :: ks, by rw [h1]; rfl, .cons g1 h2, .cons gv h3⟩
      | [], _, hp => cases hp
      | [_], _, hp => cases hp
      | _ :: _ :: _ :: _, _, hp => cases hp
    | _ => cases hp
def dictI : List D → Option (List (Key × D))
  | [.list xs] => (pairsKD xs).map fun kvs => kvs.foldl (fun acc kv => pK acc kv.1 kv.2) []
  | _ => none
def oDictI (ms : M (List D)) : M RV := ms.bind fun ds => M.opt ((dictI ds).map fun kvs => .o (.d kvs))
@[simp] theorem oDictI_ap (ms : M (List D)) (r : En) : oDictI ms r = (ms r).bind fun ds => M.opt ((dictI ds).map fun kvs => RV.o (.d kvs)) := rfl
theorem o_dictI {x : Str} {e : Expr} {p pos : Pos} {ms : M (List D)} (hm : X.mg x = none) (ha : PA X [e] (tA c ms)) (hK : c.K = X.K := by rfl) (hc : X.calm = true := by rfl) (hg : Gl X x := by rfl) (hv : bootBuiltins x = some (.type "dict") := by decide +kernel) (hn : x ≠ "__name__" := by decide) (hdb : (x == ("__debug__" : Str)) = false := by decide)
    (he : starEach [e] X.env = [(false, eval e X.env)] := by rfl) (hpl : (backTo pos (starEach [] X.env)).any (·.1) = false := by rfl) : PE X (.Call (.Name x p) [e] [] pos) (tO c (oDictI ms)) :=
  pe_cq (pe_callTy (call_dictP hc) hg hm hv ha hn hdb he hpl) fun _ _ _ ⟨pa, H0, F0, F, r, ok, po⟩ => seqA ok po fun ds r1 F1 H1 vs k1 e1 dps q => by
    obtain ⟨z, hz0, q3⟩ := opt_po q
    obtain ⟨kvs, hz, ez⟩ := Option.map_eq_some_iff.mp hz0
    clear hz0
    subst ez
    match ds, dps, hz with
    | [.list xs], .cons (.lst (a := a) (xs := us) g1 g2) .nil, hz =>
      obtain ⟨lvs, hl, ek⟩ := Option.map_eq_some_iff.mp hz
      subst ek
      obtain ⟨ps, ks, rfl, h2, h3⟩ := ksK_of g2 hl
      refine ⟨a, ps, ks, rfl, by rw [← hK]; exact k1.fH.l g1, Paired.mapP h2 fun p q z => (k1.fH.u z).s, fun p np => ?_⟩
      exact q3 F1 _ _ (k1.lay np) e1 ⟨p, rfl, k1.fH.nn np, k1.hH.nn np, ⟨_, upd_same, kvK_merge h3 .nil⟩, .d (k1.nobody np).upd⟩
    | [], _, hz => cases hz
    | [.none], _, hz => cases hz
    | [.bool _], _, hz => cases hz
    | [.int _], _, hz => cases hz
    | [.str _], _, hz => cases hz
    | [.tuple _], _, hz => cases hz
    | [.dict _], _, hz => cases hz
    | _ :: _ :: _, _, hz => simp [dictI] at hz
theorem kv_split {K : PySem.W.Frag} {F : Hp} {κ : Type} : ∀ {ks : List (κ × V)} {kvs : List (κ × D)}, KvAll K F ks kvs → ks.map (·.1) = kvs.map (·.1) ∧ RpAll K F (ks.map (·.2)) (kvs.map (·.2))
  | _, _, .nil => ⟨rfl, .nil⟩
  | _, _, .cons h t => by
    obtain ⟨a, b⟩ := kv_split t
    exact ⟨by rw [List.map_cons, List.map_cons, a], .cons h b⟩
/-- a dict keyed by tuples, as a thing -/
def dctD : List (List Key × D) → Option D
  | [] => none
  | q :: r => some (.dict ((q :: r).map fun q => (PyData.tuple (q.1.map kyD), q.2)))
noncomputable def frzT (m : M RV) : M D := m.bind fun rv => match rv with
  | .v d => M.ret d
  | .o (.t kvs) => M.opt (dctD kvs)
  | _ => M.no
theorem e_frzT {e : Expr} {m : M RV} (h : PE X e (tO c m)) : PE X e (tM c (frzT m)) :=
  pe_cq h fun st H Q ⟨pa, H0, F0, F, r, ok, po⟩ => seqO ok po fun rv r1 F1 H1 v k1 e1 dp q => by
    cases rv with
    | v d => exact q F1 H1 v k1 e1 dp
    | o ct =>
      cases ct with
      | t kvs =>
        obtain ⟨z, hz, q2⟩ := opt_po (show Po _ (M.opt (dctD kvs) r1) _ from q)
        obtain ⟨a, rfl, z1, z2, ⟨ks, z3, z4⟩, z5⟩ := dp
        cases kvs with
        | nil => cases hz
        | cons p kvs =>
          cases hz
          have k2 := k1.frz z3 z2 z5.1 z1
          obtain ⟨s1, s2⟩ := kv_split z4
          exact q2 _ H1 _ k2 (e1.trans (Ex.new z1)) (.dct upd_same s1 (dpa_mono (Ex.new z1) s2) (by simp) rfl)
      | _ => exact (show False from q).elim
end
end Pu
namespace Pu
open PySem PySem.Spec PyProof.Rows L2
/-! ### a lambda with one parameter -/
open LamX
/-! ### the mirror -/
/-! ### told plainly -/
end Pu
namespace Pu
open PySem L2
variable [TabT]
/-! ### the plain side of CoreNA -/
@[simp] theorem asNl_l (ds : List D) : asNl (.l ds) = some (ds.map .v) := rfl
@[simp] theorem asNl_n (its : List Im) : asNl (.n (.l its)) = some its := rfl
@[simp] theorem imOf_v (d : D) : imOf (.v d) = some (.v d) := rfl
@[simp] theorem imOf_l (ds : List D) : imOf (.o (.l ds)) = some (.l ds) := rfl
@[simp] theorem imd_v (d : D) : (Im.v d).data = d := rfl
@[simp] theorem imd_l (ds : List D) : (Im.l ds).data = .list ds := rfl
@[simp] theorem ntd_l (its : List Im) : (Nt.l its).data = some (.list (its.map Im.data)) := rfl
@[simp] theorem ntd_u (its : List Im) : (Nt.u its).data = some (.tuple (its.map Im.data)) := rfl
end Pu
namespace Pu
open PySem PySem.Spec PyProof.Rows L2
variable [TabT]
@[simp] theorem oListR_ap (m : M D) (r : En) : oListR m r = (m r).bind fun d r => (match d with
  | .int n => cI (n ≤ 16777216 ∧ -1000000 ≤ n) (.ok (.o (.l (rngD 0 n.toNat))) r) .no
  | _ => .no) := rfl
@[simp] theorem ksV_l (n : Int) (r : En) : ksV (.inl n) r = some n := rfl
/-! ### what repr needs -/
def Rz (dp bk : Nat) (d : D) : Prop := (d.showable = true ∧ shE d = true ∧ d.leavesShort 60 = true) ∧ d.depth ≤ dp ∧ d.bulk ≤ bk
theorem Rz.int {i : Int} (h : i.natAbs < 2 ^ 50) : Rz 1 0 (.int i) := by
  have q := Rs.int h
  refine ⟨⟨?_, rfl, q.1.2⟩, q.2⟩
  have := PySem.Flt.log2_lt_of (n := i.natAbs) (by decide : 0 < 50) h
  show decide _ = true
  exact decide_eq_true (by omega)
theorem Rz.none : Rz 1 0 .none := ⟨⟨rfl, rfl, rfl⟩, by decide, by decide⟩
theorem Rz.bool (b : Bool) : Rz 1 0 (.bool b) := by cases b <;> exact ⟨⟨rfl, rfl, rfl⟩, by decide, by decide⟩
theorem Rz.emp : Rz 2 0 (.dict []) := ⟨⟨rfl, rfl, rfl⟩, by decide, by decide⟩
theorem Rz.mono {a b a' b' : Nat} {d : D} (h : Rz a b d) (h1 : a ≤ a') (h2 : b ≤ b') : Rz a' b' d := ⟨h.1, Nat.le_trans h.2.1 h1, Nat.le_trans h.2.2 h2⟩
theorem Rz.all {dp bk : Nat} : ∀ {n : Nat} {ds : List D}, ds.length ≤ n → (∀ d ∈ ds, Rz dp bk d) → PyData.showableAll ds = true ∧ shEAll ds = true ∧ PyData.leavesShortAll 60 ds = true ∧ PyData.depthAll ds ≤ dp ∧ PyData.bulkAll ds ≤ (bk + 1) * n
  | _, [], _, _ => ⟨rfl, rfl, rfl, Nat.zero_le _, Nat.zero_le _⟩
  | 0, d :: ds, h, _ => by simp at h
  | n + 1, d :: ds, h, hd => by
    obtain ⟨g1, g2, g3, g4, g5⟩ := Rz.all (dp := dp) (bk := bk) (n := n) (ds := ds) (by simpa using h) fun x hx => hd x (List.mem_cons_of_mem _ hx)
    obtain ⟨⟨f1, f2, f3⟩, f4, f5⟩ := hd d (List.mem_cons_self ..)
    refine ⟨by simp only [PyData.showableAll, f1, g1, Bool.and_self], by simp only [shEAll, f2, g2, Bool.and_self], by simp only [PyData.leavesShortAll, f3, g3, Bool.and_self], by simp only [PyData.depthAll]; omega, ?_⟩
    simp only [PyData.bulkAll]
    rw [Nat.mul_succ]
    omega
theorem Rz.lst {dp bk n : Nat} {ds : List D} (hl : ds.length ≤ n) (h : ∀ d ∈ ds, Rz dp bk d) : Rz (dp + 1) ((bk + 1) * n) (.list ds) := by
  obtain ⟨h1, h2, h3, h4, h5⟩ := Rz.all hl h
  exact ⟨⟨by simpa only [PyData.showable] using h1, by simpa only [shE] using h2, by simpa only [PyData.leavesShort] using h3⟩, by simp only [PyData.depth]; omega, by simp only [PyData.bulk]; exact h5⟩
theorem Rz.tup {dp bk n : Nat} {ds : List D} (hl : ds.length ≤ n) (h : ∀ d ∈ ds, Rz dp bk d) : Rz (dp + 1) ((bk + 1) * n) (.tuple ds) := by
  obtain ⟨h1, h2, h3, h4, h5⟩ := Rz.all hl h
  exact ⟨⟨by simpa only [PyData.showable] using h1, by simpa only [shE] using h2, by simpa only [PyData.leavesShort] using h3⟩, by simp only [PyData.depth]; omega, by simp only [PyData.bulk]; exact h5⟩
end Pu
namespace St
/-! ### vectors, spans, stairs -/
abbrev Ve := Nat → Int
inductive Sp (S : Ve → Prop) : Ve → Prop
  | zero : Sp S (fun _ => 0)
  | step {x r : Ve} (k : Int) : S r → Sp S x → Sp S (fun i => x i + k * r i)
theorem Sp.cong {S : Ve → Prop} {x y : Ve} (h : Sp S x) (e : ∀ i, x i = y i) : Sp S y := by
  have : x = y := funext e
  exact this ▸ h
theorem Sp.of {S : Ve → Prop} {r : Ve} (h : S r) : Sp S r := (Sp.step 1 h .zero).cong fun i => by show (0:Int) + 1 * r i = r i; omega
theorem Sp.add {S : Ve → Prop} {x y : Ve} (hx : Sp S x) (hy : Sp S y) : Sp S (fun i => x i + y i) := by
  induction hy with
  | zero => exact hx.cong fun i => by simp
  | step k hr _ ih => exact (ih.step k hr).cong fun i => by simp [Int.add_assoc]
theorem Sp.smul {S : Ve → Prop} {x : Ve} (c : Int) (hx : Sp S x) : Sp S (fun i => c * x i) := by
  induction hx with
  | zero => exact Sp.zero.cong fun i => by simp
  | step k hr _ ih => exact (ih.step (c * k) hr).cong fun i => by simp [Int.mul_add, Int.mul_assoc]
theorem Sp.subm {S : Ve → Prop} {x y : Ve} (c : Int) (hx : Sp S x) (hy : Sp S y) : Sp S (fun i => x i - c * y i) :=
  (hx.add (hy.smul (-c))).cong fun i => by rw [Int.neg_mul]; rfl
theorem Sp.le {S T : Ve → Prop} (h : ∀ r, S r → Sp T r) {x : Ve} (hx : Sp S x) : Sp T x := by
  induction hx with
  | zero => exact .zero
  | step k hr _ ih => exact ih.add ((h _ hr).smul k)
theorem Sp.mono {S T : Ve → Prop} (h : ∀ r, S r → T r) {x : Ve} (hx : Sp S x) : Sp T x := hx.le fun r hr => .of (h r hr)
theorem Sp.at0 {S : Ve → Prop} {i : Nat} (h : ∀ r, S r → r i = 0) {x : Ve} (hx : Sp S x) : x i = 0 := by
  induction hx with
  | zero => rfl
  | step k hr _ ih => simp [ih, h _ hr]
theorem Sp.dvd {S : Ve → Prop} {i : Nat} {d : Int} (h : ∀ r, S r → d ∣ r i) {x : Ve} (hx : Sp S x) : d ∣ x i := by
  induction hx with
  | zero => exact Int.dvd_zero d
  | step k hr _ ih => exact Int.dvd_add ih (Int.dvd_trans (h _ hr) ⟨k, by rw [Int.mul_comm]⟩)
/-- the span of a list -/
abbrev Sl (l : List Ve) (x : Ve) : Prop := Sp (fun r => r ∈ l) x
theorem sl_nil {x : Ve} : Sl [] x ↔ ∀ i, x i = 0 := by
  constructor
  · intro h i
    exact Sp.at0 (fun r hr => absurd hr (by simp)) h
  · intro h
    exact Sp.zero.cong fun i => (h i).symm
theorem sl_cons {a : Ve} {t : List Ve} {x : Ve} : Sl (a :: t) x ↔ ∃ c : Int, Sl t (fun i => x i - c * a i) := by
  constructor
  · intro h
    induction h with
    | zero => exact ⟨0, Sp.zero.cong fun i => by simp⟩
    | step k hr _ ih =>
      obtain ⟨c, hc⟩ := ih
      rcases List.mem_cons.mp hr with rfl | hr
      · exact ⟨c + k, hc.cong fun i => by simp only [Int.add_mul]; omega⟩
      · exact ⟨c, (hc.step k hr).cong fun i => by simp only []; omega⟩
  · rintro ⟨c, h⟩
    have h1 : Sl (a :: t) (fun i => x i - c * a i) := Sp.mono (fun r hr => List.mem_cons_of_mem _ hr) h
    exact (h1.step c (List.mem_cons_self ..)).cong fun i => by show x i - c * a i + c * a i = x i; omega
/-- the foot of a vector -/
def Ft (r : Ve) (k : Nat) : Prop := (∀ i, i < k → r i = 0) ∧ 0 < r k
theorem Ft.uniq {r : Ve} {j k : Nat} (a : Ft r j) (b : Ft r k) : j = k := by
  rcases Nat.lt_trichotomy j k with h | h | h
  · have := b.1 j h
    have := a.2
    omega
  · exact h
  · have := a.1 k h
    have := b.2
    omega
/-- a stair -/
inductive Stair : List Ve → Prop
  | nil : Stair []
  | cons {a : Ve} {t : List Ve} {k : Nat} : Ft a k → (∀ r ∈ t, ∀ i, i ≤ k → r i = 0) → (∀ r ∈ t, ∀ j, Ft r j → 0 ≤ a j ∧ a j < r j) → Stair t → Stair (a :: t)
theorem Stair.ft {l : List Ve} (h : Stair l) : ∀ r ∈ l, ∃ k, Ft r k := by
  induction h with
  | nil => intro r hr; cases hr
  | cons hk _ _ _ ih =>
    intro r hr
    rcases List.mem_cons.mp hr with rfl | hr
    · exact ⟨_, hk⟩
    · exact ih r hr
/-- what is reached, seen from the first row -/
theorem Stair.red {a : Ve} {t : List Ve} {k : Nat} {x : Ve} (hk : Ft a k) (hz : ∀ r ∈ t, ∀ i, i ≤ k → r i = 0) : Sl (a :: t) x ↔ (a k ∣ x k ∧ Sl t (fun i => x i - (x k).fdiv (a k) * a i)) := by
  rw [sl_cons]
  constructor
  · rintro ⟨c, h⟩
    have h0 : x k - c * a k = 0 := Sp.at0 (fun r hr => hz r hr k (Nat.le_refl _)) h
    have e : x k = a k * c := by rw [Int.mul_comm]; omega
    refine ⟨⟨c, e⟩, ?_⟩
    have q : (x k).fdiv (a k) = c := by rw [e]; exact Int.mul_fdiv_cancel_left _ (by have := hk.2; omega)
    rw [q]
    exact h
  · rintro ⟨_, h⟩
    exact ⟨_, h⟩
/-- a vector of the span that is small at all feet is nought -/
theorem Stair.small {l : List Ve} (h : Stair l) : ∀ {x : Ve}, Sl l x → (∀ r ∈ l, ∀ k, Ft r k → -(r k) < x k ∧ x k < r k) → ∀ i, x i = 0 := by
  induction h with
  | nil => intro x hx _; exact sl_nil.mp hx
  | @cons a t k hk hz hr _ ih =>
    intro x hx hs
    obtain ⟨⟨c, hc⟩, h2⟩ := (Stair.red hk hz).mp hx
    have hb := hs a (List.mem_cons_self ..) k hk
    have hp := hk.2
    have c0 : c = 0 := by
      rcases Int.lt_trichotomy c 0 with h | h | h
      · have h3 : a k * c ≤ a k * (-1) := Int.mul_le_mul_of_nonneg_left (by omega) (by omega)
        omega
      · exact h
      · have h3 : a k * 1 ≤ a k * c := Int.mul_le_mul_of_nonneg_left (by omega) (by omega)
        omega
    rw [c0, Int.mul_zero] at hc
    rw [hc, Int.zero_fdiv] at h2
    exact ih (h2.cong fun i => by simp) fun r hr => hs r (List.mem_cons_of_mem _ hr)
/-- the span of the rest: what is 0 at the first foot -/
theorem Stair.rest {a : Ve} {t : List Ve} {k : Nat} {x : Ve} (hk : Ft a k) (hz : ∀ r ∈ t, ∀ i, i ≤ k → r i = 0) : Sl t x ↔ (Sl (a :: t) x ∧ x k = 0) := by
  constructor
  · intro h
    exact ⟨Sp.mono (fun r hr => List.mem_cons_of_mem _ hr) h, Sp.at0 (fun r hr => hz r hr k (Nat.le_refl _)) h⟩
  · rintro ⟨h, h0⟩
    have := ((Stair.red hk hz).mp h).2
    rw [h0, Int.zero_fdiv] at this
    exact this.cong fun i => by simp
theorem dvd_pos_eq {a b : Int} (ha : 0 < a) (hb : 0 < b) (h1 : a ∣ b) (h2 : b ∣ a) : a = b := Int.le_antisymm (Int.le_of_dvd hb h1) (Int.le_of_dvd ha h2)
theorem Stair.uniq : ∀ {l m : List Ve}, Stair l → Stair m → (∀ x, Sl l x ↔ Sl m x) → l = m := by
  intro l m hl
  induction hl generalizing m with
  | nil =>
    intro hm h
    cases hm with
    | nil => rfl
    | @cons b s j hj _ _ _ =>
      have := (h b).mpr (.of (List.mem_cons_self ..))
      have := sl_nil.mp this j
      have := hj.2
      omega
  | @cons a t k hk hz hr ht ih =>
    intro hm h
    cases hm with
    | nil =>
      have := (h a).mp (.of (List.mem_cons_self ..))
      have := sl_nil.mp this k
      have := hk.2
      omega
    | @cons b s j hj hzj hrj hs =>
      have ha : Sl (b :: s) a := (h a).mp (.of (List.mem_cons_self ..))
      have hb : Sl (a :: t) b := (h b).mpr (.of (List.mem_cons_self ..))
      have e : k = j := by
        have z1 : ∀ i, i < j → a i = 0 := fun i hi => Sp.at0 (fun r hr => by
          rcases List.mem_cons.mp hr with rfl | hr
          · exact hj.1 i hi
          · exact hzj r hr i (by omega)) ha
        have z2 : ∀ i, i < k → b i = 0 := fun i hi => Sp.at0 (fun r hr => by
          rcases List.mem_cons.mp hr with rfl | hr
          · exact hk.1 i hi
          · exact hz r hr i (by omega)) hb
        rcases Nat.lt_trichotomy k j with q | q | q
        · have := z1 k q
          have := hk.2
          omega
        · exact q
        · have := z2 j q
          have := hj.2
          omega
      subst e
      have eq : a k = b k := dvd_pos_eq hk.2 hj.2 ((Stair.red hk hz).mp hb).1 ((Stair.red hj hzj).mp ha).1
      have hts : ∀ x, Sl t x ↔ Sl s x := fun x => by rw [Stair.rest hk hz, Stair.rest hj hzj, h x]
      have ets : t = s := ih hs hts
      subst ets
      have hd : Sl (a :: t) (fun i => a i - 1 * b i) := (Sp.of (List.mem_cons_self ..)).subm 1 hb
      have hd2 : Sl t (fun i => a i - 1 * b i) := (Stair.rest hk hz).mpr ⟨hd, by simp [eq]⟩
      have hzero := ht.small hd2 fun r hr2 q hq => by
        have h1 := hr r hr2 q hq
        have h2 := hrj r hr2 q hq
        constructor <;> omega
      have eab : a = b := funext fun i => by
        have := hzero i
        omega
      rw [eab]
/-! ### pairs of a row and its mixing -/
abbrev P2 := List Int × List Int
def vec (l : List Int) : Ve := fun i => l.getD i 0
def lsl (a b : List Int) (m : Int) : List Int := List.zipWith (fun x y => x - m * y) a b
def less (p q : P2) (m : Int) : P2 := (lsl p.1 q.1 m, lsl p.2 q.2 m)
theorem vec_nil (i : Nat) : vec [] i = 0 := rfl
theorem vec_out {l : List Int} {i : Nat} (h : l.length ≤ i) : vec l i = 0 := by
  unfold vec
  rw [List.getD_eq_getElem?_getD, List.getElem?_eq_none h]
  rfl
theorem vec_get {l : List Int} {i : Nat} (h : i < l.length) : vec l i = l[i] := by
  unfold vec
  rw [List.getD_eq_getElem?_getD, List.getElem?_eq_getElem h]
  rfl
theorem vec_mem {l : List Int} {i : Nat} (h : i < l.length) : vec l i ∈ l := by
  rw [vec_get h]
  exact List.getElem_mem h
theorem len_lsl {a b : List Int} {m : Int} (h : a.length = b.length) : (lsl a b m).length = a.length := by simp [lsl, h]
theorem vec_lsl : ∀ {a b : List Int} {m : Int}, a.length = b.length → ∀ i, vec (lsl a b m) i = vec a i - m * vec b i
  | [], [], m, _, i => by simp [lsl, vec_nil]
  | x :: a, y :: b, m, h, 0 => rfl
  | x :: a, y :: b, m, h, i + 1 => by
    show vec (lsl a b m) i = vec a i - m * vec b i
    exact vec_lsl (by simpa using h) i
  | [], _ :: _, _, h, _ => by simp at h
  | _ :: _, [], _, h, _ => by simp at h
theorem mem_lsl : ∀ {a b : List Int} {m e : Int}, e ∈ lsl a b m → ∃ x ∈ a, ∃ y ∈ b, e = x - m * y
  | [], _, m, e, h => by simp [lsl] at h
  | _ :: _, [], m, e, h => by simp [lsl] at h
  | x :: a, y :: b, m, e, h => by
    rcases List.mem_cons.mp (show e ∈ (x - m * y) :: lsl a b m from h) with rfl | h
    · exact ⟨x, List.mem_cons_self .., y, List.mem_cons_self .., rfl⟩
    · obtain ⟨x', hx, y', hy, e⟩ := mem_lsl h
      exact ⟨x', List.mem_cons_of_mem _ hx, y', List.mem_cons_of_mem _ hy, e⟩
/-- rows mixed by numbers -/
def dot : List Int → List (List Int) → Ve
  | c :: m, r :: rs => fun i => c * vec r i + dot m rs i
  | _, _ => fun _ => 0
theorem dot_lsl : ∀ {a b : List Int} {m : Int} {rs : List (List Int)}, a.length = b.length → ∀ i, dot (lsl a b m) rs i = dot a rs i - m * dot b rs i
  | [], [], m, rs, _, i => by simp [lsl, dot]
  | x :: a, y :: b, m, [], h, i => by simp [lsl, dot]
  | x :: a, y :: b, m, r :: rs, h, i => by
    show (x - m * y) * vec r i + dot (lsl a b m) rs i = (x * vec r i + dot a rs i) - m * (y * vec r i + dot b rs i)
    rw [dot_lsl (by simpa using h) i, Int.sub_mul, Int.mul_add, Int.mul_assoc]
    omega
  | [], _ :: _, _, _, h, _ => by simp at h
  | _ :: _, [], _, _, h, _ => by simp at h
/-! ### the numbers at a place -/
theorem fdiv_fmod (v f : Int) : v - v.fdiv f * f = v.fmod f := by
  have := Int.mul_fdiv_add_fmod v f
  rw [Int.mul_comm] at this
  omega
theorem fmod_sgn {v f : Int} (h : f ≠ 0) : (0 < f → 0 ≤ v.fmod f ∧ v.fmod f < f) ∧ (f < 0 → f < v.fmod f ∧ v.fmod f ≤ 0) := by
  constructor
  · intro hf
    exact ⟨Int.fmod_nonneg_of_pos _ hf, Int.fmod_lt_of_pos _ hf⟩
  · intro hf
    have e : v.fmod f = -((-v).fmod (-f)) := by
      rw [Int.neg_fmod_neg]
      omega
    have h1 := Int.fmod_nonneg_of_pos (-v) (show 0 < -f by omega)
    have h2 := Int.fmod_lt_of_pos (-v) (show 0 < -f by omega)
    omega
/-- |v // f| times |f| -/
theorem fdiv_abs {v f : Int} (h : f ≠ 0) : (v.fdiv f).natAbs * f.natAbs ≤ v.natAbs + f.natAbs := by
  rw [← Int.natAbs_mul]
  have e := fdiv_fmod v f
  have s := fmod_sgn (v := v) h
  rcases Int.lt_or_gt_of_ne h with hf | hf
  · have := s.2 hf
    omega
  · have := s.1 hf
    omega
theorem fdiv_abs1 {v f : Int} (h : f ≠ 0) : (v.fdiv f).natAbs ≤ v.natAbs + 1 := by
  have h1 := fdiv_abs (v := v) h
  have h2 : 1 ≤ f.natAbs := by omega
  rcases Nat.lt_or_ge (v.natAbs + 1) (v.fdiv f).natAbs with q | q
  · exfalso
    have h3 : (v.natAbs + 2) * f.natAbs ≤ (v.fdiv f).natAbs * f.natAbs := Nat.mul_le_mul_right _ q
    have h4 : v.natAbs * 1 ≤ v.natAbs * f.natAbs := Nat.mul_le_mul_left _ h2
    rw [Nat.add_mul] at h3
    omega
  · exact q
/-! ### gathering at a place -/
abbrev vt (p : P2) (k : Nat) : Int := vec p.1 k
structure GS (rs : List (List Int)) (w n k : Nat) (T : Ve → Prop) (l : List P2) : Prop where
  len : ∀ p ∈ l, p.1.length = w ∧ p.2.length = n
  mx : ∀ p ∈ l, ∀ i, vec p.1 i = dot p.2 rs i
  sp : ∀ x, Sl (l.map fun p => vec p.1) x ↔ T x
  z : ∀ p ∈ l, ∀ i, i < k → vec p.1 i = 0
theorem GS.perm {rs : List (List Int)} {w n k : Nat} {T : Ve → Prop} {l l' : List P2} (h : GS rs w n k T l) (e : ∀ p, p ∈ l' ↔ p ∈ l) : GS rs w n k T l' where
  len := fun p hp => h.len p ((e p).mp hp)
  mx := fun p hp => h.mx p ((e p).mp hp)
  sp := fun x => by
    rw [← h.sp x]
    have q : ∀ y, y ∈ l'.map (fun p => vec p.1) ↔ y ∈ l.map (fun p => vec p.1) := fun y => by
      simp only [List.mem_map]
      constructor
      · rintro ⟨p, h1, h2⟩
        exact ⟨p, (e p).mp h1, h2⟩
      · rintro ⟨p, h1, h2⟩
        exact ⟨p, (e p).mpr h1, h2⟩
    exact ⟨Sp.mono fun r hr => (q r).mp hr, Sp.mono fun r hr => (q r).mpr hr⟩
  z := fun p hp => h.z p ((e p).mp hp)
/-- the members of l' are f, a keeping rest, and the others less so many times f -/
theorem GS.step {rs : List (List Int)} {w n k : Nat} {T : Ve → Prop} {l l' rest oth : List P2} {f : P2} {m : P2 → Int} (h : GS rs w n k T l) (e : ∀ p, p ∈ l ↔ p = f ∨ p ∈ rest ∨ p ∈ oth)
    (e' : ∀ p, p ∈ l' ↔ p = f ∨ p ∈ rest ∨ ∃ q ∈ oth, p = less q f (m q)) : GS rs w n k T l' := by
  have hf : f ∈ l := (e f).mpr (.inl rfl)
  have lf := h.len f hf
  have ln : ∀ q ∈ oth, q.1.length = f.1.length ∧ q.2.length = f.2.length := fun q hq => by
    have := h.len q ((e q).mpr (.inr (.inr hq)))
    omega
  refine ⟨fun p hp => ?_, fun p hp i => ?_, fun x => ?_, fun p hp i hi => ?_⟩
  · rcases (e' p).mp hp with rfl | hp | ⟨q, hq, rfl⟩
    · exact lf
    · exact h.len p ((e p).mpr (.inr (.inl hp)))
    · have l1 := ln q hq
      have l2 := h.len q ((e q).mpr (.inr (.inr hq)))
      exact ⟨(len_lsl l1.1).trans l2.1, (len_lsl l1.2).trans l2.2⟩
  · rcases (e' p).mp hp with rfl | hp | ⟨q, hq, rfl⟩
    · exact h.mx _ hf i
    · exact h.mx p ((e p).mpr (.inr (.inl hp))) i
    · have l1 := ln q hq
      show vec (lsl q.1 f.1 (m q)) i = dot (lsl q.2 f.2 (m q)) rs i
      rw [vec_lsl l1.1, dot_lsl l1.2, h.mx q ((e q).mpr (.inr (.inr hq))), h.mx f hf]
  · rw [← h.sp x]
    constructor
    · refine Sp.le fun r hr => ?_
      obtain ⟨p, hp, rfl⟩ := List.mem_map.mp hr
      have mem : ∀ p ∈ l, Sl (l.map fun p => vec p.1) (vec p.1) := fun p hp => .of (List.mem_map.mpr ⟨p, hp, rfl⟩)
      rcases (e' p).mp hp with rfl | hp | ⟨q, hq, rfl⟩
      · exact mem _ hf
      · exact mem p ((e p).mpr (.inr (.inl hp)))
      · exact ((mem q ((e q).mpr (.inr (.inr hq)))).subm (m q) (mem f hf)).cong fun i => (vec_lsl (ln q hq).1 i).symm
    · refine Sp.le fun r hr => ?_
      obtain ⟨p, hp, rfl⟩ := List.mem_map.mp hr
      have mem : ∀ p ∈ l', Sl (l'.map fun p => vec p.1) (vec p.1) := fun p hp => .of (List.mem_map.mpr ⟨p, hp, rfl⟩)
      have mf := mem f ((e' f).mpr (.inl rfl))
      rcases (e p).mp hp with rfl | hp | hp
      · exact mf
      · exact mem p ((e' p).mpr (.inr (.inl hp)))
      · exact ((mem _ ((e' _).mpr (.inr (.inr ⟨p, hp, rfl⟩)))).subm (-(m p)) mf).cong fun i => by
          show vec (lsl p.1 f.1 (m p)) i - -(m p) * vec f.1 i = vec p.1 i
          rw [vec_lsl (ln p hp).1, Int.neg_mul]
          omega
  · rcases (e' p).mp hp with rfl | hp | ⟨q, hq, rfl⟩
    · exact h.z _ hf i hi
    · exact h.z p ((e p).mpr (.inr (.inl hp))) i hi
    · show vec (lsl q.1 f.1 (m q)) i = 0
      rw [vec_lsl (ln q hq).1, h.z q ((e q).mpr (.inr (.inr hq))) i hi, h.z f hf i hi]
      simp
/-! ### how great the numbers grow -/
abbrev Ent (p : P2) (e : Int) : Prop := e ∈ p.1 ∨ e ∈ p.2
theorem ent_less {p f : P2} {m e : Int} (h : Ent (less p f m) e) : ∃ x y, Ent p x ∧ Ent f y ∧ e = x - m * y := by
  rcases h with h | h
  · obtain ⟨x, hx, y, hy, e⟩ := mem_lsl h
    exact ⟨x, y, .inl hx, .inl hy, e⟩
  · obtain ⟨x, hx, y, hy, e⟩ := mem_lsl h
    exact ⟨x, y, .inr hx, .inr hy, e⟩
theorem abs_sub_mul (x m y : Int) : (x - m * y).natAbs ≤ x.natAbs + m.natAbs * y.natAbs := by
  rw [← Int.natAbs_mul]
  omega
/-- all numbers are at most M; or: same signs s, values at most P, f one of the values -/
def Phase (M : Nat) (k : Nat) (some : List P2) : Prop :=
  (∀ p ∈ some, ∀ e, Ent p e → e.natAbs ≤ M) ∨
  ∃ (s : Int) (P f : Nat), (s = 1 ∨ s = -1) ∧ (∀ p ∈ some, ∃ v : Nat, 0 < v ∧ v ≤ P ∧ vt p k = s * v) ∧ (∃ p ∈ some, vt p k = s * f) ∧ ∀ p ∈ some, ∀ e, Ent p e → e.natAbs ^ 2 * P ^ 2 * f ≤ 9 * M ^ 5
theorem sq_le {a b : Nat} (h : a ≤ b) : a ^ 2 ≤ b ^ 2 := Nat.pow_le_pow_left h 2
theorem exists_min {α : Type} (f : α → Nat) : ∀ (l : List α), l ≠ [] → ∃ a ∈ l, ∀ b ∈ l, f a ≤ f b
  | [], h => absurd rfl h
  | [a], _ => ⟨a, List.mem_cons_self .., fun b hb => by rw [List.mem_singleton.mp hb]; exact Nat.le_refl _⟩
  | a :: b :: t, _ => by
    obtain ⟨c, hc, h⟩ := exists_min f (b :: t) (by simp)
    by_cases q : f a ≤ f c
    · refine ⟨a, List.mem_cons_self .., fun d hd => ?_⟩
      rcases List.mem_cons.mp hd with rfl | hd
      · exact Nat.le_refl _
      · exact Nat.le_trans q (h d hd)
    · refine ⟨c, List.mem_cons_of_mem _ hc, fun d hd => ?_⟩
      rcases List.mem_cons.mp hd with rfl | hd
      · omega
      · exact h d hd
/-- (1 + q)^2 f r is at most (q f + r)^2 -/
theorem key_ineq {q f r : Nat} (hq : 1 ≤ q) (hr : r ≤ f) : (1 + q) ^ 2 * (f * r) ≤ (q * f + r) ^ 2 := by
  obtain ⟨d, rfl⟩ := Nat.exists_eq_add_of_le hr
  obtain ⟨c, rfl⟩ := Nat.exists_eq_add_of_le hq
  -- (1+q)^2 (r+d) r + d (q^2 (r+d) - r) = (q (r+d) + r)^2
  have e : (((1 + c) * (r + d) + r) ^ 2 : Int) = (1 + (1 + c)) ^ 2 * ((r + d) * r) + d * ((1 + c) ^ 2 * (r + d) - r) := by
    generalize (c : Int) = c
    generalize (r : Int) = r
    generalize (d : Int) = d
    simp only [Int.pow_succ, Int.pow_zero, Int.mul_add, Int.add_mul, Int.mul_sub, Int.sub_mul, Int.one_mul, Int.mul_one]
    have h1 : c * r = r * c := Int.mul_comm ..
    have h2 : d * r = r * d := Int.mul_comm ..
    have h3 : c * d = d * c := Int.mul_comm ..
    simp only [Int.mul_assoc, Int.mul_comm, Int.mul_left_comm]
    omega
  have nn : (0 : Int) ≤ (d : Int) * ((1 + (c : Int)) ^ 2 * ((r : Int) + d) - r) := by
    refine Int.mul_nonneg (Int.natCast_nonneg _) ?_
    have h1 : (1 : Int) ≤ (1 + (c : Int)) ^ 2 := by
      have : (1 : Int) ≤ 1 + c := by omega
      have := Int.mul_le_mul this this (by omega) (by omega)
      simpa [Int.pow_succ] using this
    have h2 : (1 : Int) * ((r : Int) + d) ≤ (1 + (c : Int)) ^ 2 * ((r : Int) + d) := Int.mul_le_mul_of_nonneg_right h1 (by omega)
    omega
  have fin : (((1 + (1 + c)) ^ 2 * ((r + d) * r) : Nat) : Int) ≤ (((1 + c) * (r + d) + r) ^ 2 : Nat) := by
    push_cast
    omega
  exact Int.ofNat_le.mp fin
theorem vt_less {q f : P2} {m : Int} (h : q.1.length = f.1.length) (k : Nat) : vt (less q f m) k = vt q k - m * vt f k := vec_lsl h k
theorem vt_ent {p : P2} {k : Nat} (h : vt p k ≠ 0) : Ent p (vt p k) := by
  refine .inl (vec_mem ?_)
  rcases Nat.lt_or_ge k p.1.length with q | q
  · exact q
  · exact absurd (vec_out q) h
theorem fdiv_s {s : Int} {v f : Nat} (hs : s = 1 ∨ s = -1) (hf : 0 < f) : (s * v).fdiv (s * f) = ((v / f : Nat) : Int) := by
  rcases hs with rfl | rfl
  · simp only [Int.one_mul]
    rw [Int.fdiv_eq_ediv_of_nonneg _ (by omega)]
    rfl
  · rw [Int.neg_mul, Int.one_mul, Int.neg_mul, Int.one_mul, Int.neg_fdiv_neg, Int.fdiv_eq_ediv_of_nonneg _ (by omega)]
    rfl
theorem abs_s {s : Int} {v : Nat} (hs : s = 1 ∨ s = -1) : (s * v).natAbs = v := by
  rcases hs with rfl | rfl <;> omega
theorem Phase.step {M k : Nat} {some oth some' : List P2} {f : P2} (hM : 1 ≤ M) (h : Phase M k some) (hf : f ∈ some) (hmin : ∀ p ∈ some, (vt f k).natAbs ≤ (vt p k).natAbs) (hnz : ∀ p ∈ some, vt p k ≠ 0) (ho : ∀ q ∈ oth, q ∈ some) (hl : ∀ q ∈ oth, q.1.length = f.1.length)
    (hs' : ∀ p, p ∈ some' ↔ p = f ∨ ∃ q ∈ oth, p = less q f ((vt q k).fdiv (vt f k)) ∧ vt p k ≠ 0) :
    Phase M k some' ∧ ∀ q ∈ oth, vt (less q f ((vt q k).fdiv (vt f k))) k = 0 → ∀ e, Ent (less q f ((vt q k).fdiv (vt f k))) e → e.natAbs ^ 2 ≤ 36 * M ^ 5 := by
  have f0 : vt f k ≠ 0 := hnz f hf
  have res : ∀ q ∈ oth, vt (less q f ((vt q k).fdiv (vt f k))) k = (vt q k).fmod (vt f k) := fun q hq => by rw [vt_less (hl q hq), fdiv_fmod]
  rcases h with h | ⟨s, P, g, hs, hv, ⟨p0, hp0, hg⟩, hb⟩
  · generalize hF : (vt f k).natAbs = F
    have F1 : 1 ≤ F := by omega
    have FM : F ≤ M := by
      rw [← hF]
      exact h f hf _ (vt_ent f0)
    obtain ⟨s, hs, hsf⟩ : ∃ s : Int, (s = 1 ∨ s = -1) ∧ vt f k = s * F := by
      rcases Int.lt_or_gt_of_ne f0 with q | q
      · exact ⟨-1, .inr rfl, by omega⟩
      · exact ⟨1, .inl rfl, by omega⟩
    have vM : ∀ q ∈ oth, (vt q k).natAbs ≤ M := fun q hq => h q (ho q hq) _ (vt_ent (hnz q (ho q hq)))
    constructor
    · refine .inr ⟨s, F, F, hs, fun p hp => ?_, ⟨f, (hs' f).mpr (.inl rfl), hsf⟩, fun p hp e he => ?_⟩
      · rcases (hs' p).mp hp with rfl | ⟨q, hq, rfl, h2⟩
        · exact ⟨F, F1, Nat.le_refl _, hsf⟩
        · rw [res q hq] at h2 ⊢
          have sg := fmod_sgn (v := vt q k) f0
          refine ⟨((vt q k).fmod (vt f k)).natAbs, by omega, ?_, ?_⟩
          · rcases Int.lt_or_gt_of_ne f0 with q | q
            · have := sg.2 q
              omega
            · have := sg.1 q
              omega
          · rcases hs with rfl | rfl
            · have := sg.1 (by omega)
              omega
            · have := sg.2 (by omega)
              omega
      · have key : e.natAbs * F ≤ 3 * M ^ 2 := by
          rcases (hs' p).mp hp with rfl | ⟨q, hq, rfl, h2⟩
          · have h1 : e.natAbs * F ≤ M * M := Nat.mul_le_mul (h _ hf e he) FM
            have : M ^ 2 = M * M := Nat.pow_two M
            omega
          · obtain ⟨x, y, hx, hy, rfl⟩ := ent_less he
            have b1 := h q (ho q hq) x hx
            have b2 := h f hf y hy
            have b3 := fdiv_abs (v := vt q k) f0
            rw [hF] at b3
            have b4 := abs_sub_mul x ((vt q k).fdiv (vt f k)) y
            have b5 := vM q hq
            generalize ((vt q k).fdiv (vt f k)).natAbs = m at b3 b4
            have c1 : (x - (vt q k).fdiv (vt f k) * y).natAbs * F ≤ (x.natAbs + m * y.natAbs) * F := Nat.mul_le_mul_right _ b4
            have c2 : x.natAbs * F ≤ M * M := Nat.mul_le_mul b1 FM
            have c3 : (m * F) * y.natAbs ≤ (M + M) * M := Nat.mul_le_mul (by omega) b2
            have c4 : (x.natAbs + m * y.natAbs) * F = x.natAbs * F + (m * F) * y.natAbs := by grind
            have c5 : (M + M) * M = 2 * (M * M) := by grind
            have c6 : M ^ 2 = M * M := Nat.pow_two M
            omega
        calc e.natAbs ^ 2 * F ^ 2 * F = (e.natAbs * F) ^ 2 * F := by grind
          _ ≤ (3 * M ^ 2) ^ 2 * M := Nat.mul_le_mul (sq_le key) FM
          _ = 9 * M ^ 5 := by grind
    · intro q hq h0 e he
      obtain ⟨x, y, hx, hy, rfl⟩ := ent_less he
      have b1 := h q (ho q hq) x hx
      have b2 := h f hf y hy
      have b4 := abs_sub_mul x ((vt q k).fdiv (vt f k)) y
      have b5 := vM q hq
      rw [vt_less (hl q hq)] at h0
      have e1 : vt q k = (vt q k).fdiv (vt f k) * vt f k := by omega
      have e2 : (vt q k).natAbs = ((vt q k).fdiv (vt f k)).natAbs * (vt f k).natAbs := by rw [← Int.natAbs_mul, ← e1]
      generalize ((vt q k).fdiv (vt f k)).natAbs = m at b4 e2
      rw [hF] at e2
      have b6 : m * 1 ≤ m * F := Nat.mul_le_mul_left _ F1
      have b7 : m * y.natAbs ≤ M * M := Nat.mul_le_mul (by omega) b2
      have b8 : M * 1 ≤ M * M := Nat.mul_le_mul_left _ hM
      have b9 : (x - (vt q k).fdiv (vt f k) * y).natAbs ≤ 2 * (M * M) := by omega
      refine Nat.le_trans (sq_le b9) ?_
      calc (2 * (M * M)) ^ 2 = 4 * M ^ 4 * 1 := by grind
        _ ≤ 4 * M ^ 4 * (9 * M) := Nat.mul_le_mul_left _ (by omega)
        _ = 36 * M ^ 5 := by grind
  · obtain ⟨F, F1, FP, hF⟩ := hv f hf
    have Fg : F ≤ g := by
      have := hmin p0 hp0
      rw [hF, hg, abs_s hs, abs_s hs] at this
      exact this
    have E : ∀ p ∈ some, ∀ x, Ent p x → ∀ q ∈ some, ∀ y, Ent q y → ∃ z : Nat, x.natAbs ≤ z ∧ y.natAbs ≤ z ∧ z ^ 2 * P ^ 2 * g ≤ 9 * M ^ 5 := fun p hp x hx q hq y hy => by
      rcases Nat.le_total x.natAbs y.natAbs with c | c
      · exact ⟨y.natAbs, c, Nat.le_refl _, hb q hq y hy⟩
      · exact ⟨x.natAbs, Nat.le_refl _, c, hb p hp x hx⟩
    have rd : ∀ q ∈ oth, ∃ v : Nat, vt q k = s * v ∧ F ≤ v ∧ v ≤ P ∧ (vt q k).fdiv (vt f k) = ((v / F : Nat) : Int) ∧ vt (less q f ((vt q k).fdiv (vt f k))) k = s * (v % F : Nat) := fun q hq => by
      obtain ⟨v, v1, v2, v3⟩ := hv q (ho q hq)
      have := hmin q (ho q hq)
      rw [hF, v3, abs_s hs, abs_s hs] at this
      have e : (vt q k).fdiv (vt f k) = ((v / F : Nat) : Int) := by rw [v3, hF, fdiv_s hs F1]
      refine ⟨v, v3, this, v2, e, ?_⟩
      rw [vt_less (hl q hq), e, v3, hF]
      have d : ((F * (v / F) + v % F : Nat) : Int) = (v : Int) := congrArg Int.ofNat (Nat.div_add_mod v F)
      rw [Int.natCast_add, Int.natCast_mul] at d
      rw [← d]
      have c1 : ((v / F : Nat) : Int) * (s * (F : Int)) = s * ((F : Int) * ((v / F : Nat) : Int)) := by grind
      rw [d, c1, ← d, Int.mul_add]
      have : ((F * (v / F) + v % F : Nat) : Int) = (F : Int) * ((v / F : Nat) : Int) + ((v % F : Nat) : Int) := by rw [Int.natCast_add, Int.natCast_mul]
      omega
    have bd : ∀ q ∈ oth, ∀ v : Nat, (vt q k).fdiv (vt f k) = ((v / F : Nat) : Int) → ∀ e, Ent (less q f ((vt q k).fdiv (vt f k))) e → ∃ z : Nat, e.natAbs ≤ (1 + v / F) * z ∧ z ^ 2 * P ^ 2 * g ≤ 9 * M ^ 5 := fun q hq v hd e he => by
      obtain ⟨x, y, hx, hy, rfl⟩ := ent_less he
      obtain ⟨z, z1, z2, z3⟩ := E q (ho q hq) x hx f hf y hy
      refine ⟨z, ?_, z3⟩
      have b4 := abs_sub_mul x ((vt q k).fdiv (vt f k)) y
      rw [hd] at b4 ⊢
      have b5 : (v / F) * y.natAbs ≤ (v / F) * z := Nat.mul_le_mul_left _ z2
      rw [Nat.add_mul, Nat.one_mul]
      simp only [Int.natAbs_natCast] at b4
      omega
    constructor
    · obtain ⟨p1, hp1, hm1⟩ := exists_min (fun p => (vt p k).natAbs) some' (fun z => by
        have := (hs' f).mpr (.inl rfl)
        rw [z] at this
        cases this)
      have sg : ∀ p ∈ some', ∃ v : Nat, 0 < v ∧ v ≤ F ∧ vt p k = s * v := fun p hp => by
        rcases (hs' p).mp hp with rfl | ⟨q, hq, rfl, h2⟩
        · exact ⟨F, F1, Nat.le_refl _, hF⟩
        · obtain ⟨v, _, _, _, _, r4⟩ := rd q hq
          rw [r4] at h2 ⊢
          refine ⟨v % F, ?_, Nat.le_of_lt (Nat.mod_lt _ F1), rfl⟩
          rcases Nat.eq_zero_or_pos (v % F) with c | c
          · rw [c] at h2
            simp at h2
          · exact c
      obtain ⟨g', g1, g2, g3⟩ := sg p1 hp1
      have gm : ∀ p ∈ some', ∀ v : Nat, vt p k = s * v → g' ≤ v := fun p hp v e => by
        have := hm1 p hp
        rw [g3, e, abs_s hs, abs_s hs] at this
        exact this
      refine .inr ⟨s, F, g', hs, sg, ⟨p1, hp1, g3⟩, fun p hp e he => ?_⟩
      rcases (hs' p).mp hp with rfl | ⟨q, hq, rfl, h2⟩
      · exact Nat.le_trans (Nat.mul_le_mul (Nat.mul_le_mul_left _ (sq_le FP)) (Nat.le_trans g2 Fg)) (hb _ hf e he)
      · obtain ⟨v, r1, r2, r3, r4, r5⟩ := rd q hq
        obtain ⟨z, z1, z2⟩ := bd q hq v r4 e he
        have r6 := gm _ hp _ r5
        have q1 : 1 ≤ v / F := Nat.div_pos r2 F1
        have ki := key_ineq (q := v / F) (f := F) (r := v % F) q1 (Nat.le_of_lt (Nat.mod_lt _ F1))
        have dv : v / F * F + v % F = v := by rw [Nat.mul_comm]; exact Nat.div_add_mod v F
        rw [dv] at ki
        calc e.natAbs ^ 2 * F ^ 2 * g' ≤ ((1 + v / F) * z) ^ 2 * F ^ 2 * (v % F) := Nat.mul_le_mul (Nat.mul_le_mul_right _ (sq_le z1)) r6
          _ = z ^ 2 * ((1 + v / F) ^ 2 * (F * (v % F))) * F := by grind
          _ ≤ z ^ 2 * P ^ 2 * g := Nat.mul_le_mul (Nat.mul_le_mul_left _ (Nat.le_trans ki (sq_le r3))) Fg
          _ ≤ 9 * M ^ 5 := z2
    · intro q hq h0 e he
      obtain ⟨v, r1, r2, r3, r4, r5⟩ := rd q hq
      obtain ⟨z, z1, z2⟩ := bd q hq v r4 e he
      rw [r5] at h0
      have m0 : v % F = 0 := by
        have := congrArg Int.natAbs h0
        rw [abs_s hs] at this
        simpa using this
      have q1 : 1 ≤ v / F := Nat.div_pos r2 F1
      have dv : v / F * F = v := by
        have := Nat.div_add_mod v F
        rw [Nat.mul_comm] at this
        omega
      have c1 : v / F * 1 ≤ v / F * F := Nat.mul_le_mul_left _ F1
      have c2 : 1 + v / F ≤ 2 * P := by omega
      have c3 : e.natAbs ≤ 2 * P * z := Nat.le_trans z1 (Nat.mul_le_mul_right _ c2)
      calc e.natAbs ^ 2 ≤ (2 * P * z) ^ 2 := sq_le c3
        _ = 4 * (z ^ 2 * P ^ 2 * 1) := by grind
        _ ≤ 4 * (z ^ 2 * P ^ 2 * g) := Nat.mul_le_mul_left _ (Nat.mul_le_mul_left _ (by omega))
        _ ≤ 4 * (9 * M ^ 5) := Nat.mul_le_mul_left _ z2
        _ = 36 * M ^ 5 := by omega
def Bd (b : Nat) (l : List P2) : Prop := ∀ p ∈ l, ∀ e, Ent p e → e.natAbs < 2 ^ b
abbrev up (b : Nat) : Nat := (5 * b + 7) / 2
theorem bd_sq {b e : Nat} (h : e ^ 2 ≤ 36 * (2 ^ b) ^ 5) : e < 2 ^ up b := by
  have h1 : 36 * (2 ^ b) ^ 5 < 2 ^ (5 * b + 6) := by
    rw [← Nat.pow_mul, Nat.pow_add, Nat.mul_comm b 5, Nat.mul_comm (2 ^ (5 * b))]
    exact Nat.mul_lt_mul_of_pos_right (by decide) (Nat.pow_pos (by decide))
  have h2 : 2 ^ (5 * b + 6) ≤ (2 ^ up b) ^ 2 := by
    rw [← Nat.pow_mul]
    exact Nat.pow_le_pow_right (by decide) (by unfold up; omega)
  rcases Nat.lt_or_ge e (2 ^ up b) with q | q
  · exact q
  · have := sq_le q
    omega
theorem Phase.sq {M k : Nat} {some : List P2} (hM : 1 ≤ M) (h : Phase M k some) : ∀ p ∈ some, ∀ e, Ent p e → e.natAbs ^ 2 ≤ 36 * M ^ 5 := by
  intro p hp e he
  rcases h with h | ⟨s, P, g, hs, hv, ⟨p0, hp0, hg⟩, hb⟩
  · have := sq_le (h p hp e he)
    have h3 : M ^ 2 * 1 ≤ M ^ 2 * (36 * M ^ 3) := Nat.mul_le_mul_left _ (by
      have := Nat.pow_pos (n := 3) hM
      omega)
    have h4 : M ^ 2 * (36 * M ^ 3) = 36 * M ^ 5 := by grind
    omega
  · have := hb p hp e he
    obtain ⟨v, v1, v2, _⟩ := hv p hp
    obtain ⟨v', v1', _, e2⟩ := hv p0 hp0
    have g1 : 1 ≤ g := by
      rcases hs with rfl | rfl <;> omega
    have p1 : 1 ≤ P ^ 2 * g := Nat.mul_pos (Nat.pow_pos (by omega)) g1
    have : e.natAbs ^ 2 * 1 ≤ e.natAbs ^ 2 * (P ^ 2 * g) := Nat.mul_le_mul_left _ p1
    have c : e.natAbs ^ 2 * (P ^ 2 * g) = e.natAbs ^ 2 * P ^ 2 * g := by grind
    omega
/-- under way: some with a number at k, rest with 0 there -/
structure GI (rs : List (List Int)) (w n k b : Nat) (T : Ve → Prop) (some rest : List P2) : Prop where
  gs : GS rs w n k T (some ++ rest)
  nz : ∀ p ∈ some, vt p k ≠ 0
  r0 : ∀ p ∈ rest, vt p k = 0
  ph : Phase (2 ^ b) k some
  br : ∀ p ∈ rest, ∀ e, Ent p e → e.natAbs ^ 2 ≤ 36 * (2 ^ b) ^ 5
theorem GI.bd {rs : List (List Int)} {w n k b : Nat} {T : Ve → Prop} {some rest : List P2} (h : GI rs w n k b T some rest) : Bd (up b) (some ++ rest) := fun p hp e he => by
  rcases List.mem_append.mp hp with hp | hp
  · exact bd_sq (h.ph.sq (Nat.pow_pos (by decide)) p hp e he)
  · exact bd_sq (h.br p hp e he)
abbrev lss (k : Nat) (f : P2) (q : P2) : P2 := less q f ((vt q k).fdiv (vt f k))
theorem GI.step {rs : List (List Int)} {w n k b : Nat} {T : Ve → Prop} {some rest oth : List P2} {f : P2} (h : GI rs w n k b T some rest) (hf : f ∈ some) (hmin : ∀ p ∈ some, (vt f k).natAbs ≤ (vt p k).natAbs) (ho : ∀ p, p ∈ some ↔ p = f ∨ p ∈ oth) :
    GI rs w n k b T (f :: (oth.map (lss k f)).filter fun p => decide (vt p k ≠ 0)) (rest ++ (oth.map (lss k f)).filter fun p => decide (vt p k = 0)) := by
  have hl : ∀ q ∈ oth, q.1.length = f.1.length := fun q hq => by
    have h1 := h.gs.len q (List.mem_append_left _ ((ho q).mpr (.inr hq)))
    have h2 := h.gs.len f (List.mem_append_left _ hf)
    omega
  have st := Phase.step (some' := f :: (oth.map (lss k f)).filter fun p => decide (vt p k ≠ 0)) (Nat.pow_pos (by decide)) h.ph hf hmin h.nz (fun q hq => (ho q).mpr (.inr hq)) hl fun p => by
    simp only [List.mem_cons, List.mem_filter, List.mem_map, decide_eq_true_eq]
    constructor
    · rintro (h | ⟨⟨q, h1, h2⟩, h3⟩)
      · exact .inl h
      · exact .inr ⟨q, h1, h2.symm, h3⟩
    · rintro (h | ⟨q, h1, h2, h3⟩)
      · exact .inl h
      · exact .inr ⟨⟨q, h1, h2.symm⟩, h3⟩
  refine ⟨h.gs.step (f := f) (rest := rest) (oth := oth) (m := fun q => (vt q k).fdiv (vt f k)) (fun p => ?_) (fun p => ?_), fun p hp => ?_, fun p hp => ?_, st.1, fun p hp e he => ?_⟩
  · rw [List.mem_append, ho]
    constructor
    · rintro ((h | h) | h)
      · exact .inl h
      · exact .inr (.inr h)
      · exact .inr (.inl h)
    · rintro (h | h | h)
      · exact .inl (.inl h)
      · exact .inr h
      · exact .inl (.inr h)
  · simp only [List.mem_append, List.mem_cons, List.mem_filter, List.mem_map, decide_eq_true_eq]
    constructor
    · rintro ((h | ⟨⟨q, h1, h2⟩, h3⟩) | (h | ⟨⟨q, h1, h2⟩, h3⟩))
      · exact .inl h
      · exact .inr (.inr ⟨q, h1, h2.symm⟩)
      · exact .inr (.inl h)
      · exact .inr (.inr ⟨q, h1, h2.symm⟩)
    · rintro (h | h | ⟨q, h1, h2⟩)
      · exact .inl (.inl h)
      · exact .inr (.inl h)
      · by_cases c : vt p k = 0
        · exact .inr (.inr ⟨⟨q, h1, h2.symm⟩, c⟩)
        · exact .inl (.inr ⟨⟨q, h1, h2.symm⟩, c⟩)
  · rcases List.mem_cons.mp hp with rfl | hp
    · exact h.nz _ hf
    · simpa using (List.mem_filter.mp hp).2
  · rcases List.mem_append.mp hp with hp | hp
    · exact h.r0 p hp
    · simpa using (List.mem_filter.mp hp).2
  · rcases List.mem_append.mp hp with hp | hp
    · exact h.br p hp e he
    · obtain ⟨h1, h2⟩ := List.mem_filter.mp hp
      obtain ⟨q, hq, rfl⟩ := List.mem_map.mp h1
      exact st.2 q hq (by simpa using h2) e he
/-- a stair, made small at the foot of a row put behind it -/
theorem Stair.snoc {k : Nat} {f : Ve} (hf : Ft f k) : ∀ {l : List Ve}, Stair l → (∀ r ∈ l, ∃ j, j < k ∧ Ft r j) → ∀ (g : Ve → Ve), (∀ r ∈ l, ∃ c : Int, ∀ i, g r i = r i - c * f i) → (∀ r ∈ l, 0 ≤ g r k ∧ g r k < f k) → Stair (l.map g ++ [f]) := by
  intro l hl
  induction hl with
  | nil =>
    intro _ g _ _
    exact .cons hf (fun r hr => by cases hr) (fun r hr => by cases hr) .nil
  | @cons a t j hj hz hsm ht ih =>
    intro hlt g hg hk
    have f0 : ∀ i, i < k → f i = 0 := hf.1
    obtain ⟨j', hj'1, hj'2⟩ := hlt a (List.mem_cons_self ..)
    obtain rfl := hj.uniq hj'2
    have same : ∀ r ∈ a :: t, ∀ i, i < k → g r i = r i := fun r hr i hi => by
      obtain ⟨c, hc⟩ := hg r hr
      rw [hc, f0 i hi]
      simp
    have ih2 := ih (fun r hr => hlt r (List.mem_cons_of_mem _ hr)) g (fun r hr => hg r (List.mem_cons_of_mem _ hr)) (fun r hr => hk r (List.mem_cons_of_mem _ hr))
    show Stair (g a :: (t.map g ++ [f]))
    have ha := same a (List.mem_cons_self ..)
    refine .cons (k := j) ⟨fun i hi => ?_, ?_⟩ (fun r hr i hi => ?_) (fun r hr q hq => ?_) ih2
    · rw [ha i (by omega)]
      exact hj.1 i hi
    · rw [ha j hj'1]
      exact hj.2
    · rcases List.mem_append.mp hr with hr | hr
      · obtain ⟨r', h1, rfl⟩ := List.mem_map.mp hr
        rw [same r' (List.mem_cons_of_mem _ h1) i (by omega)]
        exact hz r' h1 i hi
      · rw [List.mem_singleton.mp hr]
        exact f0 i (by omega)
    · rcases List.mem_append.mp hr with hr' | hr'
      · obtain ⟨r', h1, rfl⟩ := List.mem_map.mp hr'
        obtain ⟨q', h2, h3⟩ := hlt r' (List.mem_cons_of_mem _ h1)
        have sm := same r' (List.mem_cons_of_mem _ h1)
        have hq' : Ft (g r') q' := ⟨fun i hi => by rw [sm i (by omega)]; exact h3.1 i hi, by rw [sm q' h2]; exact h3.2⟩
        obtain rfl := hq.uniq hq'
        rw [ha q h2, sm q h2]
        exact hsm r' h1 q h3
      · rw [List.mem_singleton.mp hr'] at hq ⊢
        obtain rfl := hq.uniq hf
        exact hk a (List.mem_cons_self ..)
/-- the rows done, the pairs left, ahead of column k -/
structure DI (rs : List (List Int)) (w n k b c : Nat) (T : Ve → Prop) (done left : List P2) : Prop where
  len : ∀ p ∈ done ++ left, p.1.length = w ∧ p.2.length = n
  mx : ∀ p ∈ done ++ left, ∀ i, vec p.1 i = dot p.2 rs i
  sp : ∀ x, Sl ((done ++ left).map fun p => vec p.1) x ↔ T x
  zl : ∀ p ∈ left, ∀ i, i < k → vec p.1 i = 0
  bl : Bd b left
  bd : Bd c done
  st : Stair (done.map fun p => vec p.1)
  ft : ∀ p ∈ done, ∃ j, j < k ∧ Ft (vec p.1) j
theorem DI.gs {rs : List (List Int)} {w n k b c : Nat} {T : Ve → Prop} {done left : List P2} (h : DI rs w n k b c T done left) : GS rs w n k (Sl (left.map fun p => vec p.1)) left where
  len := fun p hp => h.len p (List.mem_append_right _ hp)
  mx := fun p hp => h.mx p (List.mem_append_right _ hp)
  sp := fun x => Iff.rfl
  z := h.zl
theorem sl_app {a b b' : List Ve} (h : ∀ x, Sl b x ↔ Sl b' x) (x : Ve) : Sl (a ++ b) x ↔ Sl (a ++ b') x := by
  have key : ∀ b b' : List Ve, (∀ x, Sl b x ↔ Sl b' x) → ∀ x, Sl (a ++ b) x → Sl (a ++ b') x := fun b b' h x => Sp.le fun r hr => by
    rcases List.mem_append.mp hr with hr | hr
    · exact .of (List.mem_append_left _ hr)
    · exact Sp.mono (fun r hr => List.mem_append_right _ hr) ((h r).mp (.of hr))
  exact ⟨key b b' h x, key b' b (fun x => (h x).symm) x⟩
theorem DI.none {rs : List (List Int)} {w n k b c : Nat} {T : Ve → Prop} {done left rest : List P2} (h : DI rs w n k b c T done left) (g : GI rs w n k b (Sl (left.map fun p => vec p.1)) [] rest) : DI rs w n (k + 1) (up b) c T done rest where
  len := fun p hp => by
    rcases List.mem_append.mp hp with hp | hp
    · exact h.len p (List.mem_append_left _ hp)
    · exact g.gs.len p hp
  mx := fun p hp => by
    rcases List.mem_append.mp hp with hp | hp
    · exact h.mx p (List.mem_append_left _ hp)
    · exact g.gs.mx p hp
  sp := fun x => by
    rw [← h.sp x, List.map_append, List.map_append]
    exact sl_app (fun x => g.gs.sp x) x
  zl := fun p hp i hi => by
    rcases Nat.lt_or_ge i k with q | q
    · exact g.gs.z p hp i q
    · have : i = k := by omega
      rw [this]
      exact g.r0 p hp
  bl := g.bd
  bd := h.bd
  st := h.st
  ft := fun p hp => by
    obtain ⟨j, h1, h2⟩ := h.ft p hp
    exact ⟨j, by omega, h2⟩
/-- with a row for column k: f's number there is above 0 -/
theorem DI.some {rs : List (List Int)} {w n k b c : Nat} {T : Ve → Prop} {done left rest : List P2} {f0 f : P2} (h : DI rs w n k b c T done left) (g : GI rs w n k b (Sl (left.map fun p => vec p.1)) [f0] rest)
    (hf : f = f0 ∧ 0 < vt f0 k ∨ f = less f0 f0 2 ∧ vt f0 k < 0) : DI rs w n (k + 1) (up b) (c + up b + 1) T (done.map (lss k f) ++ [f]) rest := by
  have lf0 := g.gs.len f0 (List.mem_append_left _ (List.mem_singleton_self _))
  have mf0 := g.gs.mx f0 (List.mem_append_left _ (List.mem_singleton_self _))
  have zf0 := g.gs.z f0 (List.mem_append_left _ (List.mem_singleton_self _))
  have bf0 := g.bd f0 (List.mem_append_left _ (List.mem_singleton_self _))
  have key : (f.1.length = w ∧ f.2.length = n) ∧ (∀ i, vec f.1 i = dot f.2 rs i) ∧ (∀ i, i < k → vec f.1 i = 0) ∧ (∀ e, Ent f e → e.natAbs < 2 ^ up b) ∧ 0 < vt f k ∧ ∃ s : Int, (s = 1 ∨ s = -1) ∧ ∀ i, vec f.1 i = s * vec f0.1 i := by
    rcases hf with ⟨rfl, hp⟩ | ⟨rfl, hp⟩
    · exact ⟨lf0, mf0, zf0, bf0, hp, 1, .inl rfl, fun i => by omega⟩
    · have v : ∀ i, vec (less f0 f0 2).1 i = -1 * vec f0.1 i := fun i => by
        show vec (lsl f0.1 f0.1 2) i = _
        rw [vec_lsl rfl]
        omega
      refine ⟨⟨(len_lsl rfl).trans lf0.1, (len_lsl rfl).trans lf0.2⟩, fun i => ?_, fun i hi => by rw [v, zf0 i hi]; rfl, fun e he => ?_, by show 0 < vec (less f0 f0 2).1 k; rw [v]; have : vec f0.1 k < 0 := hp; omega, -1, .inr rfl, v⟩
      · show _ = dot (lsl f0.2 f0.2 2) rs i
        rw [v, dot_lsl rfl, mf0]
        omega
      · have neg : ∀ (l : List Int) (e : Int), e ∈ lsl l l 2 → ∃ x ∈ l, e = -x := by
          intro l
          induction l with
          | nil => intro e he; simp [lsl] at he
          | cons a l ih =>
            intro e he
            rcases List.mem_cons.mp (show e ∈ (a - 2 * a) :: lsl l l 2 from he) with rfl | he
            · exact ⟨a, List.mem_cons_self .., by omega⟩
            · obtain ⟨x, hx, e2⟩ := ih e he
              exact ⟨x, List.mem_cons_of_mem _ hx, e2⟩
        rcases he with he | he
        · obtain ⟨x, hx, rfl⟩ := neg _ _ he
          have := bf0 x (.inl hx)
          omega
        · obtain ⟨x, hx, rfl⟩ := neg _ _ he
          have := bf0 x (.inr hx)
          omega
  obtain ⟨lf, mf, zf, bf, pf, s, hs, vf⟩ := key
  have hft : Ft (vec f.1) k := ⟨zf, pf⟩
  have ld : ∀ p ∈ done, p.1.length = f.1.length ∧ p.2.length = f.2.length := fun p hp => by
    have := h.len p (List.mem_append_left _ hp)
    omega
  have vl : ∀ p ∈ done, ∀ i, vec (lss k f p).1 i = vec p.1 i - (vt p k).fdiv (vt f k) * vec f.1 i := fun p hp i => vec_lsl (ld p hp).1 i
  -- the span of f with rest is that of left
  have spf : ∀ x, Sl ((f :: rest).map fun p => vec p.1) x ↔ Sl (left.map fun p => vec p.1) x := fun x => by
    rw [← g.gs.sp x]
    constructor
    · refine Sp.le fun r hr => ?_
      rcases List.mem_cons.mp hr with rfl | hr
      · have : Sl (([f0] ++ rest).map fun p => vec p.1) (vec f0.1) := .of (List.mem_cons_self ..)
        exact (this.smul s).cong fun i => (vf i).symm
      · exact .of (List.mem_cons_of_mem _ hr)
    · refine Sp.le fun r hr => ?_
      rcases List.mem_cons.mp hr with rfl | hr
      · have : Sl ((f :: rest).map fun p => vec p.1) (vec f.1) := .of (List.mem_cons_self ..)
        exact (this.smul s).cong fun i => by
          show s * vec f.1 i = vec f0.1 i
          rw [vf]
          rcases hs with rfl | rfl <;> omega
      · exact .of (List.mem_cons_of_mem _ hr)
  refine ⟨fun p hp => ?_, fun p hp i => ?_, fun x => ?_, fun p hp i hi => ?_, fun p hp => g.bd p (List.mem_append_right _ hp), fun p hp e he => ?_, ?_, fun p hp => ?_⟩
  · rcases List.mem_append.mp hp with hp | hp
    · rcases List.mem_append.mp hp with hp | hp
      · obtain ⟨q, hq, rfl⟩ := List.mem_map.mp hp
        have := h.len q (List.mem_append_left _ hq)
        exact ⟨(len_lsl (ld q hq).1).trans this.1, (len_lsl (ld q hq).2).trans this.2⟩
      · rw [List.mem_singleton.mp hp]
        exact lf
    · exact g.gs.len p (List.mem_append_right _ hp)
  · rcases List.mem_append.mp hp with hp | hp
    · rcases List.mem_append.mp hp with hp | hp
      · obtain ⟨q, hq, rfl⟩ := List.mem_map.mp hp
        rw [vl q hq]
        show _ = dot (lsl q.2 f.2 _) rs i
        rw [dot_lsl (ld q hq).2, h.mx q (List.mem_append_left _ hq), mf]
      · rw [List.mem_singleton.mp hp]
        exact mf i
    · exact g.gs.mx p (List.mem_append_right _ hp) i
  · rw [← h.sp x]
    have e1 : Sl ((done ++ left).map fun p => vec p.1) x ↔ Sl ((done ++ (f :: rest)).map fun p => vec p.1) x := by
      rw [List.map_append, List.map_append]
      exact sl_app (fun x => (spf x).symm) x
    rw [e1]
    constructor
    · refine Sp.le fun r hr => ?_
      obtain ⟨p, hp, rfl⟩ := List.mem_map.mp hr
      have mem : ∀ p ∈ done ++ (f :: rest), Sl ((done ++ (f :: rest)).map fun p => vec p.1) (vec p.1) := fun p hp => .of (List.mem_map.mpr ⟨p, hp, rfl⟩)
      have memf := mem f (List.mem_append_right _ (List.mem_cons_self ..))
      rcases List.mem_append.mp hp with hp | hp
      · rcases List.mem_append.mp hp with hp | hp
        · obtain ⟨q, hq, rfl⟩ := List.mem_map.mp hp
          exact ((mem q (List.mem_append_left _ hq)).subm _ memf).cong fun i => (vl q hq i).symm
        · rw [List.mem_singleton.mp hp]
          exact memf
      · exact mem p (List.mem_append_right _ (List.mem_cons_of_mem _ hp))
    · refine Sp.le fun r hr => ?_
      obtain ⟨p, hp, rfl⟩ := List.mem_map.mp hr
      have mem : ∀ p ∈ done.map (lss k f) ++ [f] ++ rest, Sl ((done.map (lss k f) ++ [f] ++ rest).map fun p => vec p.1) (vec p.1) := fun p hp => .of (List.mem_map.mpr ⟨p, hp, rfl⟩)
      have memf := mem f (List.mem_append_left _ (List.mem_append_right _ (List.mem_singleton_self _)))
      rcases List.mem_append.mp hp with hp | hp
      · exact ((mem (lss k f p) (List.mem_append_left _ (List.mem_append_left _ (List.mem_map.mpr ⟨p, hp, rfl⟩)))).subm (-((vt p k).fdiv (vt f k))) memf).cong fun i => by
          show vec (lss k f p).1 i - -((vt p k).fdiv (vt f k)) * vec f.1 i = vec p.1 i
          rw [vl p hp, Int.neg_mul]
          omega
      · rcases List.mem_cons.mp hp with rfl | hp
        · exact memf
        · exact mem p (List.mem_append_right _ hp)
  · rcases Nat.lt_or_ge i k with q | q
    · exact g.gs.z p (List.mem_append_right _ hp) i q
    · have : i = k := by omega
      rw [this]
      exact g.r0 p hp
  · have pw : 2 ^ (c + up b + 1) = 2 * (2 ^ c * 2 ^ up b) := by
      rw [← Nat.pow_add, Nat.pow_succ]
      omega
    have c1 : 1 ≤ 2 ^ c := Nat.pow_pos (by decide)
    have c2 : 1 ≤ 2 ^ up b := Nat.pow_pos (by decide)
    rcases List.mem_append.mp hp with hp | hp
    · obtain ⟨q, hq, rfl⟩ := List.mem_map.mp hp
      obtain ⟨x, y, hx, hy, rfl⟩ := ent_less he
      have b1 := h.bd q hq x hx
      have b2 := bf y hy
      have b3 := abs_sub_mul x ((vt q k).fdiv (vt f k)) y
      have b4 : ((vt q k).fdiv (vt f k)).natAbs ≤ 2 ^ c := by
        have := fdiv_abs1 (v := vt q k) (f := vt f k) (by omega)
        have b5 : (vt q k).natAbs < 2 ^ c := by
          by_cases z : vt q k = 0
          · rw [z]
            exact c1
          · exact h.bd q hq _ (vt_ent z)
        omega
      have b6 : ((vt q k).fdiv (vt f k)).natAbs * y.natAbs ≤ 2 ^ c * (2 ^ up b - 1) := Nat.mul_le_mul b4 (by omega)
      have b7 : 2 ^ c * (2 ^ up b - 1) + 2 ^ c = 2 ^ c * 2 ^ up b := by
        rw [Nat.mul_sub, Nat.mul_one]
        have : 2 ^ c * 1 ≤ 2 ^ c * 2 ^ up b := Nat.mul_le_mul_left _ c2
        omega
      have b8 : 1 * 1 ≤ 2 ^ c * 2 ^ up b := Nat.mul_le_mul c1 c2
      omega
    · rw [List.mem_singleton.mp hp] at he
      have := bf e he
      have : 1 * 2 ^ up b ≤ 2 ^ c * 2 ^ up b := Nat.mul_le_mul_right _ c1
      omega
  · rw [List.map_append, List.map_map]
    have hg := Stair.snoc hft h.st (fun r hr => by
      obtain ⟨p, hp, rfl⟩ := List.mem_map.mp hr
      exact h.ft p hp) (fun r i => r i - (r k).fdiv (vt f k) * vec f.1 i) (fun r hr => ⟨(r k).fdiv (vt f k), fun i => rfl⟩) (fun r hr => by
      show 0 ≤ r k - (r k).fdiv (vt f k) * vt f k ∧ r k - (r k).fdiv (vt f k) * vt f k < vt f k
      rw [fdiv_fmod]
      exact (fmod_sgn (by omega)).1 pf)
    rw [List.map_map] at hg
    have e : (done.map ((fun p : P2 => vec p.1) ∘ lss k f)) = done.map ((fun (r : Ve) i => r i - (r k).fdiv (vt f k) * vec f.1 i) ∘ fun p => vec p.1) := List.map_congr_left fun p hp => funext fun i => vl p hp i
    rw [e]
    exact hg
  · rcases List.mem_append.mp hp with hp | hp
    · obtain ⟨q, hq, rfl⟩ := List.mem_map.mp hp
      obtain ⟨j, hj, hj2⟩ := h.ft q hq
      have sm : ∀ i, i < k → vec (lss k f q).1 i = vec q.1 i := fun i hi => by
        rw [vl q hq, zf i hi]
        simp
      exact ⟨j, by omega, fun i hi => by rw [sm i (by omega)]; exact hj2.1 i hi, by rw [sm j hj]; exact hj2.2⟩
    · rw [List.mem_singleton.mp hp]
      exact ⟨k, by omega, hft⟩
theorem Bd.mono {b c : Nat} {l : List P2} (h : Bd b l) (e : b ≤ c) : Bd c l := fun p hp x hx => Nat.lt_of_lt_of_le (h p hp x hx) (Nat.pow_le_pow_right (by decide) e)
end St
namespace Pu
open PySem L2
variable [TabT]
@[simp] theorem po_callBn {X : Exn → En → Prop} {kk : RV → En → Prop} (i : Nat) (f : List Sl → Re RV) (ms : M (List D)) (r : En) : Wp X (cCallBn i f ms r) kk = (match getC i r with
  | none => False
  | some _ => Wp (fun _ _ => False) (ms r) fun es r1 => (match r1[i]? with
    | some (.o (.l ds)) => Wp (fun _ _ => False) (f (.v (.list ds) :: es.map .v)) fun rv _ => noLR rv = true ∧ kk rv r1
    | _ => False)) := by
  simp only [wp_eq]
  unfold cCallBn
  cases getC i r with
  | none => rfl
  | some c0 =>
    show Po X (match ms r with
      | .ok es r1 => (match r1[i]? with
        | some (.o (.l ds)) => (match f (.v (.list ds) :: es.map .v) with
          | .ok rv _ => cI (noLR rv = true) (.ok rv r1) .no
          | _ => .no)
        | _ => .no)
      | _ => .no) kk = _
    cases ms r with
    | no => rfl
    | ex e r1 => rfl
    | ok es r1 =>
      show Po X (match r1[i]? with
        | some (.o (.l ds)) => (match f (.v (.list ds) :: es.map .v) with
          | .ok rv _ => cI (noLR rv = true) (.ok rv r1) .no
          | _ => .no)
        | _ => .no) kk = (match r1[i]? with
        | some (.o (.l ds)) => Po (fun _ _ => False) (f (.v (.list ds) :: es.map .v)) fun rv _ => noLR rv = true ∧ kk rv r1
        | _ => False)
      split
      · rename_i ds h
        cases f (.v (.list ds) :: es.map .v) with
        | no => rfl
        | ex e z => rfl
        | ok rv z =>
          show Po X (cI (noLR rv = true) (.ok rv r1) .no) kk = _
          rw [qo_cI]
          rfl
      · rfl
/-! ### rows and pairs as data -/
@[simp] theorem intD_tt : intD (.bool true) = some (.int 1) := rfl
@[simp] theorem intD_ff : intD (.bool false) = some (.int 0) := rfl
@[simp] theorem at10 (x : D) : atI [x] 0 = some x := rfl
@[simp] theorem at20 (x y : D) : atI [x, y] 0 = some x := rfl
@[simp] theorem at21 (x y : D) : atI [x, y] 1 = some y := rfl
def rD (r : List Int) : D := .tuple (r.map .int)
def pD (p : St.P2) : D := .tuple [rD p.1, rD p.2]
@[simp] theorem isnt_nn : isntD .none .none = some (.bool false) := rfl
@[simp] theorem isnt_pD (p : St.P2) : isntD (pD p) .none = some (.bool true) := rfl
@[simp] theorem isnt_t (ds : List D) : isntD (.tuple ds) .none = some (.bool true) := rfl
end Pu
namespace Pu
open PySem L2
variable [TabT]
@[simp] theorem oDictT1_ap (mk mv : M D) (r : En) : oDictT1 mk mv r = (mk r).bind fun kd r => (mv r).bind fun d r => M.opt ((tkeyD kd).map fun y => .o (.t [(y, d)])) r := rfl
@[simp] theorem eInS_ap (i : Nat) (mk : M D) (r : En) : eInS i mk r = (mk r).bind fun kd r => (match getC i r with
  | some (.t kvs) => (match tkeyD kd with
    | some y => .ok (.bool (vK kvs y).isSome) r
    | none => .no)
  | some (.d kvs) => (match keyD kd with
    | some y => .ok (.bool (vK kvs y).isSome) r
    | none => .no)
  | _ => .no) := rfl
@[simp] theorem eNinS_ap (i : Nat) (mk : M D) (r : En) : eNinS i mk r = (mk r).bind fun kd r => (match getC i r with
  | some (.t kvs) => (match tkeyD kd with
    | some y => .ok (.bool (!(vK kvs y).isSome)) r
    | none => .no)
  | some (.d kvs) => (match keyD kd with
    | some y => .ok (.bool (!(vK kvs y).isSome)) r
    | none => .no)
  | _ => .no) := rfl
end Pu
namespace St
/-! ### full stairs: a row for each column -/
theorem Stair.zero_le {a : Ve} {t : List Ve} {k : Nat} (hk : Ft a k) (hz : ∀ r ∈ t, ∀ i, i ≤ k → r i = 0) : ∀ r ∈ a :: t, ∀ i, i < k → r i = 0 := fun r hr i hi => by
  rcases List.mem_cons.mp hr with rfl | hr
  · exact hk.1 i hi
  · exact hz r hr i (by omega)
/-- a vector of the span has its first number at a foot, and is divided by it there -/
theorem Stair.first {l : List Ve} (h : Stair l) : ∀ {x : Ve} {k : Nat}, Sl l x → (∀ i, i < k → x i = 0) → x k ≠ 0 → ∃ r ∈ l, Ft r k ∧ r k ∣ x k := by
  induction h with
  | nil =>
    intro x k hx _ hk
    exact absurd (sl_nil.mp hx k) hk
  | @cons a t j hj hz hs ht ih =>
    intro x k hx h0 hk
    rcases Nat.lt_trichotomy j k with q | q | q
    · have : Sl t x := (Stair.rest hj hz).mpr ⟨hx, h0 j q⟩
      obtain ⟨r, hr, h1, h2⟩ := ih this h0 hk
      exact ⟨r, List.mem_cons_of_mem _ hr, h1, h2⟩
    · subst q
      exact ⟨a, List.mem_cons_self .., hj, ((Stair.red hj hz).mp hx).1⟩
    · exact absurd (Sp.at0 (fun r hr => Stair.zero_le hj hz r hr k q) hx) hk
/-- two vectors of the span alike up to a foot and small behind -/
theorem Stair.alike {l : List Ve} (h : Stair l) {x y : Ve} (hx : Sl l x) (hy : Sl l y) (hs : ∀ r ∈ l, ∀ k, Ft r k → x k = y k ∨ (0 ≤ x k ∧ x k < r k ∧ 0 ≤ y k ∧ y k < r k)) : ∀ i, x i = y i := fun i => by
  have h1 := h.small ((hx.subm 1 hy)) (fun r hr k hk => by
    have := hs r hr k hk
    have := hk.2
    constructor <;> omega) i
  have h2 : x i - 1 * y i = 0 := h1
  omega
theorem full_aux {w : Nat} : ∀ {l : List Ve} {c : Nat}, Stair l → c ≤ w → (∀ r ∈ l, ∀ i, i < c → r i = 0) → (∀ r ∈ l, ∀ k, Ft r k → k < w) → (∀ k, c ≤ k → k < w → ∃ r ∈ l, Ft r k) → l.length = w - c ∧ ∀ (i : Nat) (h : i < l.length), Ft l[i] (c + i)
  | [], c, _, hcw, _, _, hc => by
    rcases Nat.lt_or_ge c w with q | q
    · obtain ⟨r, hr, _⟩ := hc c (Nat.le_refl _) q
      cases hr
    · exact ⟨by simp; omega, fun i h => by simp at h⟩
  | a :: t, c, h, hcw, h0, hw, hc => by
    cases h with
    | @cons _ _ j hj hz hs ht =>
    have hjw := hw a (List.mem_cons_self ..) j hj
    have hcj : c ≤ j := by
      rcases Nat.lt_or_ge j c with q | q
      · have := h0 a (List.mem_cons_self ..) j q
        have := hj.2
        omega
      · exact q
    have ejc : j = c := by
      obtain ⟨r, hr, hr2⟩ := hc c (Nat.le_refl _) (by omega)
      rcases List.mem_cons.mp hr with rfl | hr
      · exact hj.uniq hr2
      · rcases Nat.lt_or_ge j c with q | q
        · omega
        · have := hz r hr c q
          have := hr2.2
          omega
    subst ejc
    obtain ⟨l1, l2⟩ := full_aux (c := j + 1) ht (by omega) (fun r hr i hi => hz r hr i (by omega)) (fun r hr => hw r (List.mem_cons_of_mem _ hr)) (fun k hk hkw => by
      obtain ⟨r, hr, hr2⟩ := hc k (by omega) hkw
      rcases List.mem_cons.mp hr with rfl | hr
      · have := hj.uniq hr2
        omega
      · exact ⟨r, hr, hr2⟩)
    refine ⟨by simp [l1]; omega, fun i hi => ?_⟩
    cases i with
    | zero => exact hj
    | succ i =>
      have := l2 i (by simpa using hi)
      have e : j + (i + 1) = j + 1 + i := by omega
      rw [e]
      exact this
/-- the row of a round -/
def rnd (h : List Nat) (k : Nat) : List Int := (List.range h.length).map fun i => if i = k then ((h.getD k 0 : Nat) : Int) else 0
theorem rnd_len (h : List Nat) (k : Nat) : (rnd h k).length = h.length := by simp [rnd]
theorem vec_rnd (h : List Nat) (k i : Nat) : vec (rnd h k) i = if i = k ∧ k < h.length then ((h.getD k 0 : Nat) : Int) else 0 := by
  rcases Nat.lt_or_ge i h.length with q | q
  · rw [vec_get (by rw [rnd_len]; exact q)]
    simp [rnd]
    by_cases e : i = k
    · subst e
      simp [q]
    · simp [e]
  · rw [vec_out (by rw [rnd_len]; exact q), if_neg (by omega)]
/-- S is the full stair of the house h -/
structure Full (h : List Nat) (S : List (List Int)) : Prop where
  len : ∀ r ∈ S, r.length = h.length
  st : Stair (S.map vec)
  rd : ∀ k, k < h.length → Sl (S.map vec) (vec (rnd h k))
theorem Full.feet {h : List Nat} {S : List (List Int)} (F : Full h S) (hp : ∀ n ∈ h, 1 ≤ n) : S.length = h.length ∧ ∀ k, k < h.length → Ft (vec (S.getD k [])) k := by
  have cov : ∀ k, k < h.length → ∃ r ∈ S.map vec, Ft r k := fun k hk => by
    have hk1 : 1 ≤ h.getD k 0 := hp _ (by
      rw [List.getD_eq_getElem?_getD, List.getElem?_eq_getElem hk]
      exact List.getElem_mem hk)
    obtain ⟨r, hr, h1, _⟩ := F.st.first (F.rd k hk) (k := k) (fun i hi => by rw [vec_rnd, if_neg (by omega)]) (by rw [vec_rnd, if_pos ⟨rfl, hk⟩]; omega)
    exact ⟨r, hr, h1⟩
  have ltw : ∀ r ∈ S.map vec, ∀ k, Ft r k → k < h.length := fun r hr k hk => by
    obtain ⟨q, hq, rfl⟩ := List.mem_map.mp hr
    rcases Nat.lt_or_ge k h.length with c | c
    · exact c
    · have := hk.2
      rw [vec_out (by rw [F.len q hq]; exact c)] at this
      omega
  obtain ⟨l1, l2⟩ := full_aux (c := 0) F.st (Nat.zero_le _) (fun r hr i hi => by omega) ltw (fun k _ hk => cov k hk)
  have l1' : S.length = h.length := by simpa using l1
  refine ⟨l1', fun k hk => ?_⟩
  have := l2 k (by simpa using (show k < S.length by omega))
  rw [List.getElem_map] at this
  rw [List.getD_eq_getElem?_getD, List.getElem?_eq_getElem (by omega)]
  simpa using this
/-- the foot at k -/
def foot (S : List (List Int)) (k : Nat) : Int := vec (S.getD k []) k
theorem mem_getD {S : List (List Int)} {k : Nat} (h : k < S.length) : S.getD k [] ∈ S := by
  rw [List.getD_eq_getElem?_getD, List.getElem?_eq_getElem h]
  exact List.getElem_mem h
theorem Full.sl {h : List Nat} {S : List (List Int)} (F : Full h S) (hp : ∀ n ∈ h, 1 ≤ n) {k : Nat} (hk : k < h.length) : Sl (S.map vec) (vec (S.getD k [])) := .of (List.mem_map.mpr ⟨_, mem_getD (by have := (F.feet hp).1; omega), rfl⟩)
/-- a row above a foot -/
theorem Full.above {h : List Nat} {S : List (List Int)} (F : Full h S) (hp : ∀ n ∈ h, 1 ≤ n) {j k : Nat} (hjk : j < k) (hk : k < h.length) : 0 ≤ vec (S.getD j []) k ∧ vec (S.getD j []) k < foot S k := by
  obtain ⟨l1, l2⟩ := F.feet hp
  have key : ∀ {l : List Ve}, Stair l → ∀ (i m : Nat) (hi : i < m) (hm : m < l.length) (q : Nat), Ft l[m] q → 0 ≤ l[i] q ∧ l[i] q < l[m] q := by
    intro l hl
    induction hl with
    | nil => intro i m hi hm; simp at hm
    | @cons a t c hc hz hs ht ih =>
      intro i m hi hm q hq
      cases m with
      | zero => omega
      | succ m =>
        cases i with
        | zero => exact hs _ (List.getElem_mem _) q hq
        | succ i => exact ih i m (by omega) (by simpa using hm) q hq
  have e : ∀ i, (hi : i < S.length) → S.getD i [] = S[i] := fun i hi => by rw [List.getD_eq_getElem?_getD, List.getElem?_eq_getElem hi]; rfl
  have hk2 := l2 k hk
  have := key F.st j k hjk (by simpa using (show k < S.length by omega)) k (by rw [e k (by omega)] at hk2; simpa using hk2)
  unfold foot
  rw [e j (by omega), e k (by omega)]
  simpa using this
/-- what is alike a row is the row -/
theorem Full.row {h : List Nat} {S : List (List Int)} (F : Full h S) (hp : ∀ n ∈ h, 1 ≤ n) {k : Nat} (hk : k < h.length) {x : Ve} (hx : Sl (S.map vec) x) (h0 : ∀ i, i < k → x i = 0) (hk2 : x k = foot S k) (hb : ∀ j, k < j → j < h.length → 0 ≤ x j ∧ x j < foot S j) : ∀ i, x i = vec (S.getD k []) i := by
  obtain ⟨l1, l2⟩ := F.feet hp
  refine F.st.alike hx (F.sl hp hk) fun r hr q hq => ?_
  obtain ⟨p, hpp, rfl⟩ := List.mem_map.mp hr
  obtain ⟨i, hi, e⟩ := List.mem_iff_getElem.mp hpp
  have e2 : S.getD i [] = p := by rw [List.getD_eq_getElem?_getD, List.getElem?_eq_getElem hi]; exact e
  have hf := l2 i (by omega)
  rw [e2] at hf
  obtain rfl := hf.uniq hq
  rcases Nat.lt_trichotomy i k with c | c | c
  · left
    rw [h0 i c, (l2 k hk).1 i c]
  · left
    subst c
    exact hk2
  · right
    have h1 := hb i c (by omega)
    have h2 := F.above hp c (by omega)
    have h3 : foot S i = vec p i := by unfold foot; rw [e2]
    rw [h3] at h1 h2
    exact ⟨h1.1, h1.2, h2.1, h2.2⟩
end St
namespace St
/-! ### things of a house, counted; what some things come to -/
/-- a thing of a house -/
def Th (h : List Nat) (a : List Int) : Prop := a.length = h.length ∧ ∀ k, k < h.length → 0 ≤ vec a k ∧ vec a k < ((h.getD k 0 : Nat) : Int)
theorem Th.cons {n : Nat} {h : List Nat} {x : Int} {a : List Int} : Th (n :: h) (x :: a) ↔ (0 ≤ x ∧ x < n) ∧ Th h a := by
  constructor
  · rintro ⟨h1, h2⟩
    refine ⟨h2 0 (by simp), by simpa using h1, fun k hk => h2 (k + 1) (by simpa using hk)⟩
  · rintro ⟨h1, h2, h3⟩
    refine ⟨by simp [h2], fun k hk => ?_⟩
    cases k with
    | zero => exact h1
    | succ k => exact h3 k (by simpa using hk)
end St
namespace St
/-! ### things of order twelve -/
theorem nodup_sub {α : Type} [DecidableEq α] : ∀ (L M : List α), L.Nodup → (∀ a ∈ L, a ∈ M) → L.length ≤ M.length
  | [], M, _, _ => Nat.zero_le _
  | a :: L, M, hn, hs => by
    have ha := hs a (List.mem_cons_self ..)
    have hn2 := List.nodup_cons.mp hn
    have h1 := nodup_sub L (M.erase a) hn2.2 (fun b hb => by
      have hne : b ≠ a := fun e => hn2.1 (e ▸ hb)
      exact (List.mem_erase_of_ne hne).mpr (hs b (List.mem_cons_of_mem _ hb)))
    rw [List.length_erase_of_mem ha] at h1
    have := List.length_pos_of_mem ha
    rw [List.length_cons]
    omega
end St
/-! ### sums of any kind (finite), parts of them, and how a form is found (plain) -/
namespace Gn
structure Ab (α : Type) where
  f : α → α → α
  z : α
  n : α → α
  zl : ∀ a, f z a = a
  cm : ∀ a b, f a b = f b a
  as : ∀ a b c, f (f a b) c = f a (f b c)
  nl : ∀ a, f (n a) a = z
variable {α : Type} (A : Ab α)
def Ab.s : Nat → α → α
  | 0, _ => A.z
  | k + 1, a => A.f (Ab.s k a) a
variable {A}
theorem Ab.zr (a : α) : A.f a A.z = a := by rw [A.cm, A.zl]
theorem Ab.nr (a : α) : A.f a (A.n a) = A.z := by rw [A.cm, A.nl]
theorem Ab.lc {a b c : α} (h : A.f a b = A.f a c) : b = c := by
  have := congrArg (A.f (A.n a)) h
  rwa [← A.as, ← A.as, A.nl, A.zl, A.zl] at this
theorem Ab.rc {a b c : α} (h : A.f b a = A.f c a) : b = c := by
  rw [A.cm b a, A.cm c a] at h
  exact A.lc h
theorem Ab.ac4 (a b c d : α) : A.f (A.f a b) (A.f c d) = A.f (A.f a c) (A.f b d) := by
  rw [A.as, ← A.as b c d, A.cm b c, A.as c b d, ← A.as]
theorem Ab.s_one (a : α) : A.s 1 a = a := A.zl a
theorem Ab.s_add (a : α) (m : Nat) : ∀ k, A.s (m + k) a = A.f (A.s m a) (A.s k a)
  | 0 => (A.zr _).symm
  | k + 1 => by
    show A.f (A.s (m + k) a) a = A.f (A.s m a) (A.f (A.s k a) a)
    rw [Ab.s_add a m k, A.as]
theorem Ab.s_f (a b : α) : ∀ m, A.s m (A.f a b) = A.f (A.s m a) (A.s m b)
  | 0 => (A.zl _).symm
  | m + 1 => by
    show A.f (A.s m (A.f a b)) (A.f a b) = A.f (A.f (A.s m a) a) (A.f (A.s m b) b)
    rw [Ab.s_f a b m, A.ac4]
theorem Ab.s_z : ∀ m, A.s m A.z = A.z
  | 0 => rfl
  | m + 1 => by
    show A.f (A.s m A.z) A.z = _
    rw [Ab.s_z m, A.zl]
theorem Ab.s_mul (a : α) (k : Nat) : ∀ m, A.s (m * k) a = A.s m (A.s k a)
  | 0 => by rw [Nat.zero_mul]; rfl
  | m + 1 => by
    rw [Nat.add_mul, Nat.one_mul, Ab.s_add, Ab.s_mul a k m]
    rfl
theorem Ab.s_n (a : α) (m : Nat) : A.s m (A.n a) = A.n (A.s m a) := by
  refine A.rc (a := A.s m a) ?_
  rw [← A.s_f, A.nl, A.nl, A.s_z]
structure Sb (A : Ab α) (S : α → Prop) : Prop where
  z : S A.z
  f : ∀ a b, S a → S b → S (A.f a b)
  n : ∀ a, S a → S (A.n a)
variable {S : α → Prop}
theorem Sb.s (H : Sb A S) {a : α} (h : S a) : ∀ m, S (A.s m a)
  | 0 => H.z
  | m + 1 => H.f _ _ (H.s h m) h
theorem Sb.sub (H : Sb A S) {a b : α} (h : S (A.f a b)) (ha : S a) : S b := by
  have := H.f _ _ (H.n a ha) h
  rwa [← A.as, A.nl, A.zl] at this
theorem Sb.sub' (H : Sb A S) {a b : α} (h : S (A.f a b)) (hb : S b) : S a := H.sub (A.cm a b ▸ h) hb
/-- the outer turn -/
structure Ot (A : Ab α) (S : α → Prop) (a : α) (m : Nat) : Prop where
  p : 1 ≤ m
  i : S (A.s m a)
  l : ∀ k, 1 ≤ k → k < m → ¬ S (A.s k a)
theorem Ot.dvd (H : Sb A S) {a : α} {m : Nat} (h : Ot A S a m) (k : Nat) : S (A.s k a) ↔ m ∣ k := by
  constructor
  · intro hk
    have e := Nat.div_add_mod k m
    rw [← e, A.s_add, Nat.mul_comm, A.s_mul] at hk
    have h2 := H.sub hk (H.s h.i _)
    have hlt : k % m < m := Nat.mod_lt _ h.p
    by_cases h0 : k % m = 0
    · exact Nat.dvd_of_mod_eq_zero h0
    · exact absurd h2 (h.l _ (by omega) hlt)
  · rintro ⟨c, rfl⟩
    rw [Nat.mul_comm, A.s_mul]
    exact H.s h.i _
theorem Ot.uni (H : Sb A S) {a : α} {m k : Nat} (h : Ot A S a m) (g : Ot A S a k) : m = k := Nat.dvd_antisymm ((h.dvd H k).mp g.i) ((g.dvd H m).mp h.i)
theorem least {P : Nat → Prop} : ∀ n, P n → ∃ m, m ≤ n ∧ P m ∧ ∀ k, k < m → ¬ P k := by
  intro n
  induction n using Nat.strongRecOn with
  | ind n ih =>
    intro h
    by_cases c : ∃ k, k < n ∧ P k
    · obtain ⟨k, hk, pk⟩ := c
      obtain ⟨m, h1, h2, h3⟩ := ih k hk pk
      exact ⟨m, by omega, h2, h3⟩
    · exact ⟨n, Nat.le_refl _, h, fun k hk pk => c ⟨k, hk, pk⟩⟩
theorem ot_ex [DecidableEq α] {L : List α} (hL : ∀ a, a ∈ L) (H : Sb A S) (a : α) : ∃ m, m ≤ L.length ∧ Ot A S a m := by
  have key : ∃ i j, i < j ∧ j ≤ L.length ∧ A.s i a = A.s j a := by
    apply Classical.byContradiction
    intro c
    have nd : ((List.range (L.length + 1)).map fun i => A.s i a).Nodup := by
      rw [List.nodup_iff_pairwise_ne, List.pairwise_map]
      refine List.Pairwise.imp_of_mem (fun {i j} hi hj h e => ?_) List.pairwise_lt_range
      rw [List.mem_range] at hj
      exact c ⟨i, j, h, by omega, e⟩
    have := St.nodup_sub _ L nd fun x _ => hL x
    simp at this
    omega
  obtain ⟨i, j, hij, hj, e⟩ := key
  have e2 : A.s (j - i) a = A.z := by
    have : j = i + (j - i) := by omega
    rw [this, A.s_add] at e
    refine (A.lc (a := A.s i a) ?_).symm
    rw [A.zr]
    exact e
  obtain ⟨m, h1, ⟨h2, h3⟩, h4⟩ := least (P := fun m => 1 ≤ m ∧ S (A.s m a)) (j - i) ⟨by omega, by rw [e2]; exact H.z⟩
  exact ⟨m, by omega, h2, h3, fun k k1 k2 hk => h4 k k2 ⟨k1, hk⟩⟩
/-! ### the greatest outer turn -/
theorem cop_pow {p a : Nat} (h : Nat.Coprime p a) (k : Nat) : Nat.Coprime (p ^ k) a := h.pow_left k
/-- p-parts: if M does not divide N, some power of a number p prime to the rest of N divides M and has more than N's -/
theorem ot_max (H : Sb A S) {L : List α} (hL : ∀ a, a ∈ L) [DecidableEq α] {a : α} {N : Nat} (ha : Ot A S a N) (hm : ∀ b M, Ot A S b M → M ≤ N) {b : α} {M : Nat} (hb : Ot A S b M)
    (part : ¬ M ∣ N → ∃ p j k N0 M0, j < k ∧ 2 ≤ p ∧ N = p ^ j * N0 ∧ M = p ^ k * M0 ∧ Nat.Coprime p N0) : M ∣ N := by
  apply Classical.byContradiction
  intro hn
  obtain ⟨p, j, k, N0, M0, hjk, hp, e1, e2, co⟩ := part hn
  have hN0 : 1 ≤ N0 := by
    rcases Nat.eq_zero_or_pos N0 with h | h
    · rw [h, Nat.mul_zero] at e1
      have := ha.p
      omega
    · exact h
  have hM0 : 1 ≤ M0 := by
    rcases Nat.eq_zero_or_pos M0 with h | h
    · rw [h, Nat.mul_zero] at e2
      have := hb.p
      omega
    · exact h
  let c := A.f (A.s (p ^ j) a) (A.s M0 b)
  obtain ⟨t, _, ht⟩ := ot_ex hL H c
  have tc : ∀ q, S (A.s (q * t) c) := fun q => by
    rw [A.s_mul]
    exact H.s ht.i q
  have ex : ∀ q, A.s q c = A.f (A.s (q * p ^ j) a) (A.s (q * M0) b) := fun q => by
    show A.s q (A.f _ _) = _
    rw [A.s_f, A.s_mul, A.s_mul]
  -- p ^ k divides t
  have d1 : p ^ k ∣ t := by
    have h := tc N0
    rw [ex] at h
    have h1 : S (A.s (N0 * t * p ^ j) a) := (ha.dvd H _).mpr ⟨t, by rw [e1]; ac_rfl⟩
    have h2 := (hb.dvd H _).mp (H.sub h h1)
    rw [e2] at h2
    have h3 : p ^ k ∣ N0 * t := Nat.dvd_of_mul_dvd_mul_right hM0 h2
    exact (cop_pow co k).dvd_of_dvd_mul_left h3
  have d2 : N0 ∣ t := by
    have h := tc (p ^ k)
    rw [ex] at h
    have h1 : S (A.s (p ^ k * t * M0) b) := (hb.dvd H _).mpr ⟨t, by rw [e2]; ac_rfl⟩
    have h2 := (ha.dvd H _).mp (H.sub' h h1)
    rw [e1] at h2
    have pj : 0 < p ^ j := Nat.pow_pos (by omega)
    have h3 : N0 ∣ p ^ k * t := by
      have : p ^ j * N0 ∣ p ^ j * (p ^ k * t) := by rwa [Nat.mul_comm (p ^ j) (p ^ k * t)]
      exact Nat.dvd_of_mul_dvd_mul_left pj this
    exact (cop_pow co k).symm.dvd_of_dvd_mul_left h3
  have d3 : p ^ k * N0 ∣ t := Nat.Coprime.mul_dvd_of_dvd_of_dvd (cop_pow co k) d1 d2
  have h1 := Nat.le_of_dvd ht.p d3
  have h2 := hm c t ht
  have h3 : p ^ j < p ^ k := Nat.pow_lt_pow_right (by omega) hjk
  have h4 : p ^ j * N0 < p ^ k * N0 := Nat.mul_lt_mul_of_pos_right h3 hN0
  omega
/-! ### names -/
def Thr : List Nat → List Nat → Prop
  | [], [] => True
  | r :: R, x :: X => x < r ∧ Thr R X
  | _, _ => False
def ads : List Nat → List Nat → List Nat → List Nat
  | r :: R, x :: X, y :: Y => (x + y) % r :: ads R X Y
  | _, _, _ => []
def keys (kv : List (α × List Nat)) : α → Prop := fun a => ∃ x, (a, x) ∈ kv
structure Nm (A : Ab α) (R : List Nat) (kv : List (α × List Nat)) : Prop where
  nd : (kv.map (·.1)).Nodup
  nd2 : (kv.map (·.2)).Nodup
  th : ∀ x, (∃ a, (a, x) ∈ kv) ↔ Thr R x
  z : (A.z, R.map fun _ => 0) ∈ kv
  ad : ∀ a x b y, (a, x) ∈ kv → (b, y) ∈ kv → (A.f a b, ads R x y) ∈ kv
  ng : ∀ a, keys kv a → keys kv (A.n a)
  r2 : ∀ r ∈ R, 2 ≤ r
  dv : R.Pairwise (· ∣ ·)
  ex : ∀ r, R.head? = some r → ∀ a, keys kv (A.s r a)
  pu : ∀ m, (∀ r ∈ R, m ∣ r) → ∀ a, keys kv (A.s m a) → ∃ b, keys kv b ∧ A.s m b = A.s m a
theorem Nm.sb {R : List Nat} {kv : List (α × List Nat)} (H : Nm A R kv) : Sb A (keys kv) :=
  ⟨⟨_, H.z⟩, fun a b ⟨x, hx⟩ ⟨y, hy⟩ => ⟨_, H.ad a x b y hx hy⟩, H.ng⟩
theorem nm_0 : Nm A [] [(A.z, [])] where
  nd := by simp
  nd2 := by simp
  th := fun x => by
    constructor
    · rintro ⟨a, h⟩
      simp at h
      rw [h.2]
      trivial
    · intro h
      cases x with
      | nil => exact ⟨A.z, by simp⟩
      | cons _ _ => exact h.elim
  z := by simp
  ad := fun a x b y h1 h2 => by
    simp at h1 h2
    obtain ⟨rfl, rfl⟩ := h1
    obtain ⟨rfl, rfl⟩ := h2
    simp [A.zl, ads]
  ng := fun a ⟨x, h⟩ => by
    simp at h
    obtain ⟨rfl, rfl⟩ := h
    refine ⟨[], ?_⟩
    have : A.n A.z = A.z := by
      have := A.nl A.z
      rwa [A.zr] at this
    simp [this]
  r2 := fun _ h => nomatch h
  dv := List.Pairwise.nil
  ex := fun _ h => nomatch h
  pu := fun m _ a ⟨x, h⟩ => by
    simp at h
    exact ⟨A.z, ⟨[], by simp⟩, by rw [A.s_z, h.1]⟩
def grow (A : Ab α) (g : α) (N : Nat) (kv : List (α × List Nat)) : List (α × List Nat) := kv.flatMap fun p => (List.range N).map fun o => (A.f p.1 (A.s o g), o :: p.2)
theorem grow_mem {g : α} {N : Nat} {kv : List (α × List Nat)} {a : α} {x : List Nat} : (a, x) ∈ grow A g N kv ↔ ∃ s y o, (s, y) ∈ kv ∧ o < N ∧ a = A.f s (A.s o g) ∧ x = o :: y := by
  unfold grow
  rw [List.mem_flatMap]
  constructor
  · rintro ⟨⟨s, y⟩, h1, h2⟩
    obtain ⟨o, h3, h4⟩ := List.mem_map.mp h2
    injection h4 with h5 h6
    exact ⟨s, y, o, h1, List.mem_range.mp h3, h5.symm, h6.symm⟩
  · rintro ⟨s, y, o, h1, h2, rfl, rfl⟩
    exact ⟨(s, y), h1, List.mem_map.mpr ⟨o, List.mem_range.mpr h2, rfl⟩⟩
theorem Nm.fst_eq {R : List Nat} {kv : List (α × List Nat)} (H : Nm A R kv) {a : α} {x y : List Nat} (h1 : (a, x) ∈ kv) (h2 : (a, y) ∈ kv) : x = y := by
  have nd := H.nd
  induction kv with
  | nil => cases h1
  | cons p kv ih =>
    clear ih
    revert h1 h2
    have : ∀ (l : List (α × List Nat)), (l.map (·.1)).Nodup → (a, x) ∈ l → (a, y) ∈ l → x = y := by
      intro l
      induction l with
      | nil => intro _ h; cases h
      | cons q l ih =>
        intro nd h1 h2
        rw [List.map_cons, List.nodup_cons] at nd
        rcases List.mem_cons.mp h1 with e1 | h1 <;> rcases List.mem_cons.mp h2 with e2 | h2
        · rw [← e1] at e2
          injection e2 with _ e
          exact e.symm
        · exact absurd (List.mem_map.mpr ⟨_, h2, by rw [← e1]⟩) nd.1
        · exact absurd (List.mem_map.mpr ⟨_, h1, by rw [← e2]⟩) nd.1
        · exact ih nd.2 h1 h2
    exact this _ nd
theorem pw_flat {β γ : Type} {P : γ → γ → Prop} (f : β → List γ) : ∀ (l : List β), (∀ x ∈ l, (f x).Pairwise P) → l.Pairwise (fun x y => ∀ u ∈ f x, ∀ v ∈ f y, P u v) → (l.flatMap f).Pairwise P
  | [], _, _ => List.Pairwise.nil
  | x :: l, h1, h2 => by
    rw [List.flatMap_cons, List.pairwise_append]
    rw [List.pairwise_cons] at h2
    refine ⟨h1 x (List.mem_cons_self ..), pw_flat f l (fun y hy => h1 y (List.mem_cons_of_mem _ hy)) h2.2, fun u hu v hv => ?_⟩
    obtain ⟨y, hy, hv⟩ := List.mem_flatMap.mp hv
    exact h2.1 y hy u hu v hv
theorem Nm.step {R : List Nat} {kv : List (α × List Nat)} (H : Nm A R kv) {g : α} {N : Nat} (hN : 2 ≤ N) (hg : Ot A (keys kv) g N) (h0 : A.s N g = A.z) (hex : ∀ a, keys kv (A.s N a)) (hd : ∀ r ∈ R, N ∣ r) : Nm A (N :: R) (grow A g N kv) := by
  have sb := H.sb
  -- o g in the part only if N divides o
  have ind : ∀ {s t : α} {o p : Nat}, keys kv s → keys kv t → o < N → p < N → A.f s (A.s o g) = A.f t (A.s p g) → o = p ∧ s = t := fun {s t o p} hs ht ho hp e => by
    have main : ∀ {s t : α} {o p : Nat}, keys kv s → keys kv t → o ≤ p → p < N → A.f s (A.s o g) = A.f t (A.s p g) → o = p := fun {s t o p} hs ht hop hp e => by
      have e2 : p = (p - o) + o := by omega
      rw [e2, A.s_add, ← A.as] at e
      have e3 := A.rc e
      have h2 : keys kv (A.s (p - o) g) := by
        refine sb.sub (a := t) ?_ ht
        rw [← e3]
        exact hs
      have := (hg.dvd sb _).mp h2
      have := Nat.eq_zero_of_dvd_of_lt this (by omega)
      omega
    have eo : o = p := by
      rcases Nat.le_total o p with h | h
      · exact main hs ht h hp e
      · exact (main ht hs h ho e.symm).symm
    subst eo
    exact ⟨rfl, A.rc e⟩
  have smod : ∀ o, A.s o g = A.s (o % N) g := fun o => by
    conv => lhs; rw [← Nat.div_add_mod o N, A.s_add, Nat.mul_comm, A.s_mul, h0, A.s_z, A.zl]
  have nds : kv.Pairwise (fun p q => p.1 ≠ q.1) := List.pairwise_map.mp H.nd
  have nds2 : kv.Pairwise (fun p q => p.2 ≠ q.2) := List.pairwise_map.mp H.nd2
  have kk : ∀ {a : α}, keys (grow A g N kv) a ↔ ∃ s o, keys kv s ∧ o < N ∧ a = A.f s (A.s o g) := fun {a} => by
    constructor
    · rintro ⟨x, hx⟩
      obtain ⟨s, y, o, h1, h2, h3, _⟩ := grow_mem.mp hx
      exact ⟨s, o, ⟨y, h1⟩, h2, h3⟩
    · rintro ⟨s, o, ⟨y, h1⟩, h2, h3⟩
      exact ⟨_, grow_mem.mpr ⟨s, y, o, h1, h2, h3, rfl⟩⟩
  have up : ∀ {a : α}, keys kv a → keys (grow A g N kv) a := fun {a} h => kk.mpr ⟨a, 0, h, by omega, by show a = A.f a A.z; rw [A.zr]⟩
  have gin : ∀ o, keys (grow A g N kv) (A.s o g) := fun o => kk.mpr ⟨A.z, o % N, sb.z, Nat.mod_lt _ (by omega), by rw [A.zl, ← smod]⟩
  refine ⟨?_, ?_, fun x => ?_, ?_, fun a x b y h1 h2 => ?_, fun a h => ?_, fun r hr => ?_, ?_, fun r hr a => ?_, fun m hm a ha => ?_⟩
  · rw [List.nodup_iff_pairwise_ne, List.pairwise_map]
    refine pw_flat _ kv (fun p hp => ?_) (List.Pairwise.imp_of_mem (fun {p q} hp hq hpq u hu v hv e => ?_) nds)
    · rw [List.pairwise_map]
      refine List.Pairwise.imp_of_mem (fun {i j} hi hj hij e => ?_) List.pairwise_lt_range
      rw [List.mem_range] at hi hj
      have := (ind ⟨p.2, hp⟩ ⟨p.2, hp⟩ hi hj e).1
      omega
    · obtain ⟨i, hi, rfl⟩ := List.mem_map.mp hu
      obtain ⟨j, hj, rfl⟩ := List.mem_map.mp hv
      rw [List.mem_range] at hi hj
      exact hpq (ind ⟨p.2, hp⟩ ⟨q.2, hq⟩ hi hj e).2
  · rw [List.nodup_iff_pairwise_ne, List.pairwise_map]
    refine pw_flat _ kv (fun p hp => ?_) (List.Pairwise.imp_of_mem (fun {p q} hp hq hpq u hu v hv e => ?_) nds2)
    · rw [List.pairwise_map]
      refine List.Pairwise.imp (fun {i j} hij e => ?_) List.pairwise_lt_range
      injection e with e _
      omega
    · obtain ⟨i, hi, rfl⟩ := List.mem_map.mp hu
      obtain ⟨j, hj, rfl⟩ := List.mem_map.mp hv
      injection e with _ e
      exact hpq e
  · constructor
    · rintro ⟨a, h⟩
      obtain ⟨s, y, o, h1, h2, _, rfl⟩ := grow_mem.mp h
      exact ⟨h2, (H.th y).mp ⟨s, h1⟩⟩
    · intro h
      cases x with
      | nil => exact h.elim
      | cons o y =>
        obtain ⟨s, hs⟩ := (H.th y).mpr h.2
        exact ⟨_, grow_mem.mpr ⟨s, y, o, hs, h.1, rfl, rfl⟩⟩
  · refine grow_mem.mpr ⟨A.z, _, 0, H.z, by omega, ?_, rfl⟩
    show A.z = A.f A.z A.z
    rw [A.zl]
  · obtain ⟨s, u, o, g1, g2, rfl, rfl⟩ := grow_mem.mp h1
    obtain ⟨t, v, p, k1, k2, rfl, rfl⟩ := grow_mem.mp h2
    refine grow_mem.mpr ⟨A.f s t, ads R u v, (o + p) % N, H.ad s u t v g1 k1, Nat.mod_lt _ (by omega), ?_, rfl⟩
    rw [A.ac4, ← A.s_add, smod]
  · obtain ⟨s, o, hs, ho, rfl⟩ := kk.mp h
    have e : A.n (A.f s (A.s o g)) = A.f (A.n s) (A.s (N - o) g) := by
      refine A.rc (a := A.f s (A.s o g)) ?_
      rw [A.nl, A.ac4, A.nl, ← A.s_add, A.zl]
      have : N - o + o = N := by omega
      rw [this, h0]
    rw [e]
    exact kk.mpr ⟨A.n s, (N - o) % N, sb.n s hs, Nat.mod_lt _ (by omega), by rw [← smod]⟩
  · rcases List.mem_cons.mp hr with rfl | hr
    · exact hN
    · exact H.r2 r hr
  · exact List.pairwise_cons.mpr ⟨hd, H.dv⟩
  · cases hr
    exact up (hex a)
  · have hmN : m ∣ N := hm N (List.mem_cons_self ..)
    obtain ⟨q, hq⟩ := hmN
    obtain ⟨s, c, hs, hc, e⟩ := kk.mp ha
    -- (N / m) c g is in the part
    have h1 : keys kv (A.s (q * c) g) := by
      have h2 : keys kv (A.s N a) := hex a
      rw [hq, Nat.mul_comm, A.s_mul, e, A.s_f, ← A.s_mul] at h2
      exact sb.sub h2 (sb.s hs _)
    have h2 := (hg.dvd sb _).mp h1
    have q0 : 0 < q := by
      rcases Nat.eq_zero_or_pos q with h | h
      · rw [h, Nat.mul_zero] at hq
        omega
      · exact h
    have h3 : m ∣ c := by
      rw [hq, Nat.mul_comm m q] at h2
      exact Nat.dvd_of_mul_dvd_mul_left q0 h2
    obtain ⟨d, rfl⟩ := h3
    -- a less d g
    have h4 : A.s m (A.f a (A.n (A.s d g))) = s := by
      rw [A.s_f, A.s_n, e, A.s_mul, A.as, A.nr, A.zr]
    obtain ⟨b, hb, eb⟩ := H.pu m (fun r hr => hm r (List.mem_cons_of_mem _ hr)) (A.f a (A.n (A.s d g))) (by rw [h4]; exact hs)
    refine ⟨A.f b (A.s d g), (Sb.f (S := keys (grow A g N kv)) ⟨up sb.z, fun u v hu hv => ?_, fun u hu => ?_⟩ _ _ (up hb) (gin d)), ?_⟩
    · obtain ⟨s1, o1, g1, g2, rfl⟩ := kk.mp hu
      obtain ⟨s2, o2, k1, k2, rfl⟩ := kk.mp hv
      exact kk.mpr ⟨A.f s1 s2, (o1 + o2) % N, sb.f _ _ g1 k1, Nat.mod_lt _ (by omega), by rw [A.ac4, ← A.s_add, smod]⟩
    · obtain ⟨s1, o1, g1, g2, rfl⟩ := kk.mp hu
      refine kk.mpr ⟨A.n s1, (N - o1) % N, sb.n s1 g1, Nat.mod_lt _ (by omega), ?_⟩
      refine A.rc (a := A.f s1 (A.s o1 g)) ?_
      rw [A.nl, A.ac4, A.nl, ← smod, ← A.s_add, A.zl]
      have : N - o1 + o1 = N := by omega
      rw [this, h0]
    · rw [A.s_f, eb, h4, ← A.s_mul, e]
/-- a maker made right -/
theorem Nm.maker {R : List Nat} {kv : List (α × List Nat)} (H : Nm A R kv) {a b : α} {N : Nat} (ha : Ot A (keys kv) a N) (hb : keys kv b) (e : A.s N b = A.s N a) : Ot A (keys kv) (A.f a (A.n b)) N ∧ A.s N (A.f a (A.n b)) = A.z := by
  have sb := H.sb
  have key : ∀ k, keys kv (A.s k (A.f a (A.n b))) ↔ keys kv (A.s k a) := fun k => by
    rw [A.s_f]
    exact ⟨fun h => sb.sub' h (sb.s (sb.n b hb) k), fun h => sb.f _ _ h (sb.s (sb.n b hb) k)⟩
  refine ⟨⟨ha.p, (key N).mpr ha.i, fun k k1 k2 h => ha.l k k1 k2 ((key k).mp h)⟩, ?_⟩
  rw [A.s_f, A.s_n, e, A.nr]
end Gn
namespace Pu
open PySem L2
variable [TabT]
/-! ### the plain side of CoreFD -/
/-- a frozen dict with whole numbers as keys -/
def fdt (kv : List (Nat × D)) : D := .dict (kv.map fun q => (PyData.int (q.1 : Nat), q.2))
omit [TabT] in
theorem fdG_mem {kv : List (Nat × D)} (nd : (kv.map (·.1)).Nodup) {i : Nat} {d : D} (h : (i, d) ∈ kv) : fdG (kv.map fun q => (PyData.int (q.1 : Nat), q.2)) (i : Int) = some d := by
  induction kv with
  | nil => cases h
  | cons p kv ih =>
    rw [List.map_cons, List.nodup_cons] at nd
    rcases List.mem_cons.mp h with rfl | h
    · show (if (i : Int) = (i : Int) then some d else _) = _
      rw [if_pos rfl]
    · have ne : p.1 ≠ i := fun e => nd.1 (List.mem_map.mpr ⟨_, h, e.symm⟩)
      show (if (p.1 : Int) = (i : Int) then some p.2 else _) = _
      rw [if_neg (by omega)]
      exact ih nd.2 h
omit [TabT] in
theorem fdG_not {kv : List (Nat × D)} {i : Nat} (h : ∀ d, (i, d) ∉ kv) : fdG (kv.map fun q => (PyData.int (q.1 : Nat), q.2)) (i : Int) = none := by
  induction kv with
  | nil => rfl
  | cons p kv ih =>
    have ne : p.1 ≠ i := fun e => h p.2 (by rw [← e]; exact List.mem_cons_self ..)
    show (if (p.1 : Int) = (i : Int) then some p.2 else _) = _
    rw [if_neg (by omega)]
    exact ih fun d z => h d (List.mem_cons_of_mem _ z)
omit [TabT] in
theorem fdt_cons {kv : List (Nat × D)} (h : kv ≠ []) : ∃ x r, (kv.map fun q => (PyData.int (q.1 : Nat), q.2)) = x :: r ∧ isKD (fdt kv) = true := by
  cases kv with
  | nil => exact absurd rfl h
  | cons p kv => exact ⟨_, _, rfl, rfl⟩
omit [TabT] in
theorem ix_fd {kv : List (Nat × D)} (nd : (kv.map (·.1)).Nodup) {i : Nat} {d : D} (h : (i, d) ∈ kv) : ixKD (fdt kv) (.int (i : Int)) = some d := fdG_mem nd h
omit [TabT] in
theorem in_fd_y {kv : List (Nat × D)} (nd : (kv.map (·.1)).Nodup) {i : Nat} {d : D} (h : (i, d) ∈ kv) : inK (.int (i : Int)) (fdt kv) = some (.bool true) ∧ ninK (.int (i : Int)) (fdt kv) = some (.bool false) := by
  obtain ⟨x, r, e, k⟩ := fdt_cons (kv := kv) (fun z => by rw [z] at h; cases h)
  have g := fdG_mem nd h
  unfold inK ninK
  rw [if_pos k, if_pos k]
  unfold fdt
  rw [e] at g ⊢
  constructor
  · show some (PyData.bool (fdG (x :: r) (i : Int)).isSome) = _
    rw [g]
    rfl
  · show some (PyData.bool (!(fdG (x :: r) (i : Int)).isSome)) = _
    rw [g]
    rfl
omit [TabT] in
theorem in_fd_n {kv : List (Nat × D)} (h0 : kv ≠ []) {i : Nat} (h : ∀ d, (i, d) ∉ kv) : inK (.int (i : Int)) (fdt kv) = some (.bool false) ∧ ninK (.int (i : Int)) (fdt kv) = some (.bool true) := by
  obtain ⟨x, r, e, k⟩ := fdt_cons h0
  have g := fdG_not h
  unfold inK ninK
  rw [if_pos k, if_pos k]
  unfold fdt
  rw [e] at g ⊢
  constructor
  · show some (PyData.bool (fdG (x :: r) (i : Int)).isSome) = _
    rw [g]
    rfl
  · show some (PyData.bool (!(fdG (x :: r) (i : Int)).isSome)) = _
    rw [g]
    rfl
omit [TabT] in
theorem len_fd {kv : List (Nat × D)} (h0 : kv ≠ []) : lenK (fdt kv) = some (.int (kv.length : Nat)) := by
  obtain ⟨x, r, e, k⟩ := fdt_cons h0
  have := congrArg List.length e
  rw [List.length_map] at this
  unfold lenK
  rw [if_pos k]
  unfold fdt
  rw [e, this]
  rfl
omit [TabT] in
theorem keys_fd {kv : List (Nat × D)} (h0 : kv ≠ []) : keysK (fdt kv) = some (kv.map fun q => PyData.int (q.1 : Nat)) := by
  obtain ⟨x, r, e, k⟩ := fdt_cons h0
  have := congrArg (List.map (·.1)) e
  rw [List.map_map] at this
  unfold keysK
  rw [if_pos k]
  unfold fdt
  rw [e]
  show some ((x :: r).map (·.1)) = _
  rw [← this]
  rfl
omit [TabT] in
theorem items_fd {kv : List (Nat × D)} (h0 : kv ≠ []) : itemsK (fdt kv) = some (kv.map fun q => PyData.tuple [.int (q.1 : Nat), q.2]) := by
  obtain ⟨x, r, e, k⟩ := fdt_cons h0
  have := congrArg (List.map fun q : D × D => PyData.tuple [q.1, q.2]) e
  rw [List.map_map] at this
  unfold itemsK
  rw [if_pos k]
  unfold fdt
  rw [e]
  show some ((x :: r).map fun q => PyData.tuple [q.1, q.2]) = _
  rw [← this]
  rfl
/-- an owned dict with whole numbers as keys -/
def odt (kv : List (Nat × D)) : List (Key × D) := kv.map fun q => (.inl (q.1 : Int), q.2)
omit [TabT] in
theorem intsKv_odt : ∀ kv : List (Nat × D), intsKv (odt kv) = some (kv.map fun q => ((q.1 : Int), q.2))
  | [] => rfl
  | p :: kv => by
    show (intsKv (odt kv)).map (((p.1 : Int), p.2) :: ·) = _
    rw [intsKv_odt kv]
    rfl
omit [TabT] in
theorem dctOf_odt {kv : List (Nat × D)} (h0 : kv ≠ []) : dctOf (odt kv) = some (fdt kv) := by
  unfold dctOf
  rw [intsKv_odt]
  cases kv with
  | nil => exact absurd rfl h0
  | cons p kv =>
    show some (PyData.dict _) = some (PyData.dict _)
    simp
omit [TabT] in
theorem pK_odt {kv : List (Nat × D)} {i : Nat} {d : D} (h : ∀ d, (i, d) ∉ kv) : pK (odt kv) (.inl (i : Int)) d = odt (kv ++ [(i, d)]) := by
  unfold pK odt
  rw [if_neg]
  · simp
  · intro c
    obtain ⟨q, hq, e⟩ := List.any_eq_true.mp c
    obtain ⟨p, hp, rfl⟩ := List.mem_map.mp hq
    have e := of_decide_eq_true e
    have e : (p.1 : Int) = (i : Int) := Sum.inl.inj e
    have e : p.1 = i := by omega
    exact h p.2 (by rw [← e]; exact hp)
theorem frzD_ap (m : M RV) (r : En) : frzD m r = (m r).bind fun rv r => match rv with
  | .v d => .ok d r
  | .o (.d kvs) => M.opt (dctOf kvs) r
  | _ => .no := by
  unfold frzD
  show (m r).bind _ = _
  congr 1
  funext rv r'
  cases rv with
  | v d => rfl
  | o c => cases c <;> rfl
@[simp] theorem iKeysK_ap (m : M D) (r : En) : iKeysK m r = (m r).bind fun d r => M.opt (keysK d) r := rfl
@[simp] theorem iItemsK_ap (m : M D) (r : En) : iItemsK m r = (m r).bind fun d r => M.opt (itemsK d) r := rfl
end Pu
namespace K74
open PySem PySem.Spec PyProof.Rows L2 Pu
abbrev ln : List Str := []
instance : TabT := ⟨tabsN ln⟩
def topS (i : Nat) : Stmt := PySem.Challenge.pw_commonhouse_k74_names_looked_at.main.body.getD i (.Pass ⟨0, 0, 0, 0⟩)
abbrev FnP (K : PySem.W.Frag) (x : Str) (st : Stmt) (f : Addr) (fd : FuncData) : Prop := FunD K x x (defArgs st) (defBody st) (defScope st) [] [] f fd
structure Bz (K : PySem.W.Frag) (w : World) (mg : Str → Option Value) : Prop where
  b_isinstance : mg "isinstance" = none
  b_int : mg "int" = none
  b_bool : mg "bool" = none
  b_enumerate : mg "enumerate" = none
  b_tuple : mg "tuple" = none
  b_len : mg "len" = none
  b_range : mg "range" = none
  b_all : mg "all" = none
  b_abs : mg "abs" = none
  b_max : mg "max" = none
  b_list : mg "list" = none
  b_repr : mg "repr" = none
  b_sorted : mg "sorted" = none
  b_dict : mg "dict" = none
  b_set : mg "set" = none
  g_MOST_ROUNDS : ∃ t, mg "MOST_ROUNDS" = some (.int 6 t)
  g_MOST_ROWS : ∃ t, mg "MOST_ROWS" = some (.int 16 t)
section
variable {P : Program} {w : World} {K : PySem.W.Frag} {mg : Str → Option Value} {base : Heap}
abbrev s_is_whole : Stmt := topS 5
abbrev N_is_whole : List Str := ["thing"]
theorem sc_is_whole : FnScope N_is_whole ["thing"] (defScope s_is_whole) := ⟨rfl, rfl, rfl, by decide +kernel, rfl, by decide +kernel, by decide +kernel⟩
noncomputable def b_is_whole : M Fl := (sRet ((eAnd (una (isiD "int") (getS 0)) (eNot (una (isiD "bool") (getS 0)))).bind fun d => M.ret (.v d)))
noncomputable def m_is_whole : List Sl → Re RV := fnOf 1 b_is_whole
theorem ok_is_whole {f : Addr} {fd : FuncData} (Fu : FnP K "is_whole" s_is_whole f fd) (B : Bz K w mg) (NS : SeerK P base) : FnG P w K mg base 1 f fd ["thing"] (spG K mg 1 m_is_whole) :=
  mk_fn Fu sc_is_whole fun cdv A outer s H E hr =>
  (ss_one (s_ret (o_val (e_and (e_isi (T := "int") (e_var 0) B.b_isinstance B.b_int) (e_one (e_not (e_isi (T := "bool") (e_var 0) B.b_isinstance B.b_bool)))))))
abbrev s_by_rounds : Stmt := topS 11
abbrev N_by_rounds : List Str := ["house", "numbers", "at", "number"]
theorem sc_by_rounds : FnScope N_by_rounds ["house", "numbers"] (defScope s_by_rounds) := ⟨rfl, rfl, rfl, by decide +kernel, rfl, by decide +kernel, by decide +kernel⟩
noncomputable def b_by_rounds : M Fl := (sRet ((nry (one tupD) (aCons (frzM (oComp (iBy enOf (aCons (getS 1) aNil)) [2, 3] (gT (gCn (gN 2) (gCn (gN 3) gNl))) yes (bin modD (getS 3) (bin ixD (getS 0) (getS 2))))) aNil)).bind fun d => M.ret (.v d)))
noncomputable def m_by_rounds : List Sl → Re RV := fnOf 4 b_by_rounds
theorem ok_by_rounds {f : Addr} {fd : FuncData} (Fu : FnP K "by_rounds" s_by_rounds f fd) (B : Bz K w mg) (NS : SeerK P base) : FnG P w K mg base 1 f fd ["house", "numbers"] (spG K mg 2 m_by_rounds) :=
  mk_fn Fu sc_by_rounds fun cdv A outer s H E hr =>
  (ss_one (s_ret (o_val (e_callT tup_data B.b_tuple (a_cons (e_val (o_lc (own := [("at", 2), ("number", 3)]) (i_enum (a_cons (e_var 1) a_nil) B.b_enumerate) (blkOk_by (show blkC N_by_rounds (defScope s_by_rounds) _ [("at", 2), ("number", 3)] = true from by decide +kernel)) (fun _ _ _ _ _ => (g_tup (g_cons (g_name 2 sc_by_rounds.nd) (g_cons (g_name 3 sc_by_rounds.nd) g_nil)) (gCn_len (gCn_len gNl_len)))) (fun _ _ _ _ _ => ts_nil) (fun _ _ _ _ _ => (e_op mod_data (e_var 3) (e_ix ix_data (e_var 0) (e_var 2)))) sc_by_rounds.nd)) a_nil)))))
abbrev s_size : Stmt := topS 13
abbrev N_size : List Str := ["house", "found", "one"]
theorem sc_size : FnScope N_size ["house"] (defScope s_size) := ⟨rfl, rfl, rfl, by decide +kernel, rfl, by decide +kernel, by decide +kernel⟩
noncomputable def b_size : M Fl := (sSeq (sSet 1 (M.ret (.int 1)))
  (sSeq (sFor (iSeq (getS 0)) (gN 2)
  (sSet 1 (bin mulD (getS 1) (getS 2))))
  (sRet ((getS 1).bind fun d => M.ret (.v d)))))
noncomputable def m_size : List Sl → Re RV := fnOf 3 b_size
theorem ok_size {f : Addr} {fd : FuncData} (Fu : FnP K "size" s_size f fd) (B : Bz K w mg) (NS : SeerK P base) : FnG P w K mg base 1 f fd ["house"] (spG K mg 1 m_size) :=
  mk_fn Fu sc_size fun cdv A outer s H E hr =>
  (ss_cons (s_set (i := 1) e_int sc_size.nd)
  (ss_cons (s_for (i_seq (e_var 0)) (g_name 2 sc_size.nd)
  (ss_one (s_set (i := 1) (e_op mul_data (e_var 1) (e_var 2)) sc_size.nd)) (passes_of rfl))
  (ss_one (s_ret (o_val (e_var 1))))))
abbrev s_nought_number : Stmt := topS 17
abbrev N_nought_number : List Str := ["table", "many", "number", "a"]
theorem sc_nought_number : FnScope N_nought_number ["table"] (defScope s_nought_number) := ⟨rfl, rfl, rfl, by decide +kernel, rfl, by decide +kernel, by decide +kernel⟩
noncomputable def b_nought_number : M Fl := (sSeq (sSet 1 (nry (one lenD) (aCons (getS 0) aNil)))
  (sSeq (sFor (iBy rng1 (aCons (getS 1) aNil)) (gN 2)
  (sIf (tTru (nry (one allD) (aCons (frzM (oComp (iBy rng1 (aCons (getS 1) aNil)) [3] (gN 3) yes (eAnd (bin eqD (bin ixD (bin ixD (getS 0) (getS 2)) (getS 3)) (getS 3)) (bin eqD (bin ixD (bin ixD (getS 0) (getS 3)) (getS 2)) (getS 3))))) aNil)))
  (sRet ((getS 2).bind fun d => M.ret (.v d)))
  sNil))
  (sRet ((M.ret .none).bind fun d => M.ret (.v d)))))
noncomputable def m_nought_number : List Sl → Re RV := fnOf 4 b_nought_number
theorem ok_nought_number {f : Addr} {fd : FuncData} (Fu : FnP K "nought_number" s_nought_number f fd) (B : Bz K w mg) (NS : SeerK P base) : FnG P w K mg base 1 f fd ["table"] (spG K mg 1 m_nought_number) :=
  mk_fn Fu sc_nought_number fun cdv A outer s H E hr =>
  (ss_cons (s_set (i := 1) (e_callB len_data B.b_len (a_cons (e_var 0) a_nil)) sc_nought_number.nd)
  (ss_cons (s_for (i_rng1 (a_cons (e_var 1) a_nil) B.b_range) (g_name 2 sc_nought_number.nd)
  (ss_one (s_if (t_tru (e_callB all_data B.b_all (a_cons (e_val (o_lc (own := [("a", 3)]) (i_rng1 (a_cons (e_var 1) a_nil) B.b_range) (blkOk_by (show blkC N_nought_number (defScope s_nought_number) _ [("a", 3)] = true from by decide +kernel)) (fun _ _ _ _ _ => (g_name 3 sc_nought_number.nd)) (fun _ _ _ _ _ => ts_nil) (fun _ _ _ _ _ => (e_and (e_cmp (eq_data hr.units) (e_ix ix_data (e_ix ix_data (e_var 0) (e_var 2)) (e_var 3)) (e_var 3)) (e_one (e_cmp (eq_data hr.units) (e_ix ix_data (e_ix ix_data (e_var 0) (e_var 3)) (e_var 2)) (e_var 3))))) sc_nought_number.nd)) a_nil)))
  (ss_one (s_ret (o_val (e_var 2))))
  ss_nil)) (passes_of rfl))
  (ss_one (s_ret (o_val e_non)))))
abbrev s_need_pairs : Stmt := topS 18
abbrev N_need_pairs : List Str := ["table", "a", "b"]
theorem sc_need_pairs : FnScope N_need_pairs ["table"] (defScope s_need_pairs) := ⟨rfl, rfl, rfl, by decide +kernel, rfl, by decide +kernel, by decide +kernel⟩
noncomputable def b_need_pairs : M Fl := (sFor (iBy rng1 (aCons (nry (one lenD) (aCons (getS 0) aNil)) aNil)) (gN 1)
  (sFor (iBy rng1 (aCons (nry (one lenD) (aCons (getS 0) aNil)) aNil)) (gN 2)
  (sIf (tBool (bin neD (bin ixD (bin ixD (getS 0) (getS 1)) (getS 2)) (bin ixD (bin ixD (getS 0) (getS 2)) (getS 1))))
  sNever
  sNil)))
noncomputable def m_need_pairs : List Sl → Re RV := fnOf 3 b_need_pairs
theorem ok_need_pairs {f : Addr} {fd : FuncData} (Fu : FnP K "need_pairs" s_need_pairs f fd) (B : Bz K w mg) (NS : SeerK P base) : FnG P w K mg base 1 f fd ["table"] (spG K mg 1 m_need_pairs) :=
  mk_fn Fu sc_need_pairs fun cdv A outer s H E hr =>
  (ss_one (s_for (i_rng1 (a_cons (e_callB len_data B.b_len (a_cons (e_var 0) a_nil)) a_nil) B.b_range) (g_name 1 sc_need_pairs.nd)
  (ss_one (s_for (i_rng1 (a_cons (e_callB len_data B.b_len (a_cons (e_var 0) a_nil)) a_nil) B.b_range) (g_name 2 sc_need_pairs.nd)
  (ss_one (s_if (t_cmp (ne_data hr.units) (e_ix ix_data (e_ix ix_data (e_var 0) (e_var 1)) (e_var 2)) (e_ix ix_data (e_ix ix_data (e_var 0) (e_var 2)) (e_var 1)))
  (ss_one s_never)
  ss_nil)) (passes_of rfl))) (passes_of rfl)))
abbrev s_need_triples : Stmt := topS 19
abbrev N_need_triples : List Str := ["table", "a", "b", "c", "later"]
theorem sc_need_triples : FnScope N_need_triples ["table"] (defScope s_need_triples) := ⟨rfl, rfl, rfl, by decide +kernel, rfl, by decide +kernel, by decide +kernel⟩
noncomputable def b_need_triples : M Fl := (sFor (iBy rng1 (aCons (nry (one lenD) (aCons (getS 0) aNil)) aNil)) (gN 1)
  (sFor (iBy rng1 (aCons (nry (one lenD) (aCons (getS 0) aNil)) aNil)) (gN 2)
  (sFor (iBy enOf (aCons (bin ixD (getS 0) (getS 2)) aNil)) (gT (gCn (gN 3) (gCn (gN 4) gNl)))
  (sIf (tBool (bin neD (bin ixD (bin ixD (getS 0) (bin ixD (bin ixD (getS 0) (getS 1)) (getS 2))) (getS 3)) (bin ixD (bin ixD (getS 0) (getS 1)) (getS 4))))
  sNever
  sNil))))
noncomputable def m_need_triples : List Sl → Re RV := fnOf 5 b_need_triples
theorem ok_need_triples {f : Addr} {fd : FuncData} (Fu : FnP K "need_triples" s_need_triples f fd) (B : Bz K w mg) (NS : SeerK P base) : FnG P w K mg base 1 f fd ["table"] (spG K mg 1 m_need_triples) :=
  mk_fn Fu sc_need_triples fun cdv A outer s H E hr =>
  (ss_one (s_for (i_rng1 (a_cons (e_callB len_data B.b_len (a_cons (e_var 0) a_nil)) a_nil) B.b_range) (g_name 1 sc_need_triples.nd)
  (ss_one (s_for (i_rng1 (a_cons (e_callB len_data B.b_len (a_cons (e_var 0) a_nil)) a_nil) B.b_range) (g_name 2 sc_need_triples.nd)
  (ss_one (s_for (i_enum (a_cons (e_ix ix_data (e_var 0) (e_var 2)) a_nil) B.b_enumerate) (g_tup (g_cons (g_name 3 sc_need_triples.nd) (g_cons (g_name 4 sc_need_triples.nd) g_nil)) (gCn_len (gCn_len gNl_len)))
  (ss_one (s_if (t_cmp (ne_data hr.units) (e_ix ix_data (e_ix ix_data (e_var 0) (e_ix ix_data (e_ix ix_data (e_var 0) (e_var 1)) (e_var 2))) (e_var 3)) (e_ix ix_data (e_ix ix_data (e_var 0) (e_var 1)) (e_var 4)))
  (ss_one s_never)
  ss_nil)) (passes_of rfl))) (passes_of rfl))) (passes_of rfl)))
abbrev s_outer_turn : Stmt := topS 23
abbrev N_outer_turn : List Str := ["table", "have", "a", "found", "many"]
theorem sc_outer_turn : FnScope N_outer_turn ["table", "have", "a"] (defScope s_outer_turn) := ⟨rfl, rfl, rfl, by decide +kernel, rfl, by decide +kernel, by decide +kernel⟩
noncomputable def b_outer_turn : M Fl := (sSeq (sSet 3 (getS 2))
  (sSeq (sSet 4 (M.ret (.int 1)))
  (sSeq (sWhile (tBool (bin ninK (getS 3) (getS 1)))
  (sSeq (sSet 3 (bin ixD (bin ixD (getS 0) (getS 3)) (getS 2)))
  (sSet 4 (bin addD (getS 4) (M.ret (.int 1))))))
  (sRet ((getS 4).bind fun d => M.ret (.v d))))))
noncomputable def m_outer_turn : List Sl → Re RV := fnOf 5 b_outer_turn
theorem ok_outer_turn {f : Addr} {fd : FuncData} (Fu : FnP K "outer_turn" s_outer_turn f fd) (B : Bz K w mg) (NS : SeerK P base) : FnG P w K mg base 1 f fd ["table", "have", "a"] (spG K mg 3 m_outer_turn) :=
  mk_fn Fu sc_outer_turn fun cdv A outer s H E hr =>
  (ss_cons (s_set (i := 3) (e_var 2) sc_outer_turn.nd)
  (ss_cons (s_set (i := 4) e_int sc_outer_turn.nd)
  (ss_cons (s_while (t_ninK (e_var 3) (e_var 1) hr.u1)
  (ss_cons (s_set (i := 3) (e_ix ix_data (e_ix ix_data (e_var 0) (e_var 3)) (e_var 2)) sc_outer_turn.nd)
  (ss_one (s_set (i := 4) (e_op add_data (e_var 4) e_int) sc_outer_turn.nd))) (passes_of rfl))
  (ss_one (s_ret (o_val (e_var 4)))))))
abbrev s__law_pen : Stmt := topS 29
abbrev N__law_pen : List Str := ["_law_script"]
theorem sc__law_pen : FnScope N__law_pen ["_law_script"] (defScope s__law_pen) := ⟨rfl, rfl, rfl, by decide +kernel, rfl, by decide +kernel, by decide +kernel⟩
noncomputable def b__law_pen : M Fl := (sRet (oDict [((M.ret (.str "cells")), (eSl (getS 0) pNone (pSome (M.ret (.int 63))))), ((M.ret (.str "at")), (M.ret (.int 0))), ((M.ret (.str "left")), (M.ret (.int 0)))]))
noncomputable def m__law_pen : List Sl → Re RV := fnOf 1 b__law_pen
theorem ok__law_pen {f : Addr} {fd : FuncData} (Fu : FnP K "_law_pen" s__law_pen f fd) (B : Bz K w mg) (NS : SeerK P base) : FnG P w K mg base 1 f fd ["_law_script"] (spG K mg 1 m__law_pen) :=
  mk_fn Fu sc__law_pen fun cdv A outer s H E hr =>
  (ss_one (s_ret (o_dict (l := [((M.ret (.str "cells")), (eSl (getS 0) pNone (pSome (M.ret (.int 63))))), ((M.ret (.str "at")), (M.ret (.int 0))), ((M.ret (.str "left")), (M.ret (.int 0)))]) (pps_cons e_str (e_sl (e_var 0) p_none (p_some e_int)) (pps_cons e_str e_int (pps_cons e_str e_int pps_nil))))))
abbrev s__law_draw : Stmt := topS 30
abbrev N__law_draw : List Str := ["_law_pen_here", "_law_many", "_law_found", "_law_at", "_law_cell", "_law_number"]
theorem sc__law_draw : FnScope N__law_draw ["_law_pen_here", "_law_many"] (defScope s__law_draw) := ⟨rfl, rfl, rfl, by decide +kernel, rfl, by decide +kernel, by decide +kernel⟩
noncomputable def b__law_draw : M Fl := (sSeq (sIf (tBool (bin gtD (eIxS 0 (M.ret (.str "left"))) (M.ret (.int 0))))
  (sSeq (sSet 2 (bin modD (eIxS 0 (M.ret (.str "left"))) (getS 1)))
  (sSeq (sPut' 0 (M.ret (.str "left")) (bin fdivLD (eIxS 0 (M.ret (.str "left"))) (getS 1)))
  (sRet ((getS 2).bind fun d => M.ret (.v d)))))
  sNil)
  (sSeq (sSet 3 (eIxS 0 (M.ret (.str "at"))))
  (sSeq (sPut' 0 (M.ret (.str "at")) (bin addD (getS 3) (M.ret (.int 1))))
  (sSeq (sSet 4 (bin addD (bin mulD (M.ret (.int 11)) (getS 3)) (M.ret (.int 5))))
  (sSeq (sIf (tBool (bin gtD (nry (one lenD) (aCons (eIxS 0 (M.ret (.str "cells"))) aNil)) (M.ret (.int 0))))
  (sSet 4 (bin ixD (eIxS 0 (M.ret (.str "cells"))) (bin modD (getS 3) (nry (one lenD) (aCons (eIxS 0 (M.ret (.str "cells"))) aNil)))))
  sNil)
  (sSeq (sIf (tAndM (tBool (bin ltD (getS 3) (nry (one lenD) (aCons (eIxS 0 (M.ret (.str "cells"))) aNil)))) (tBool (bin geD (nry (one absD) (aCons (getS 4) aNil)) (bin powD (M.ret (.int 10)) (M.ret (.int 18))))))
  (sSeq (sPut' 0 (M.ret (.str "left")) (bin fdivLD (nry (one absD) (aCons (getS 4) aNil)) (getS 1)))
  (sRet ((bin modD (nry (one absD) (aCons (getS 4) aNil)) (getS 1)).bind fun d => M.ret (.v d))))
  sNil)
  (sSeq (sSet 5 (bin modD (bin mulD (bin addD (bin addD (bin modD (getS 4) (M.ret (.int 2147483629))) (bin mulD (M.ret (.int 50021)) (getS 3))) (M.ret (.int 307))) (M.ret (.int 48271))) (M.ret (.int 2147483647))))
  (sSeq (sSet 5 (bin modD (bin addD (bin addD (bin mulD (getS 5) (getS 5)) (bin mulD (M.ret (.int 69621)) (getS 5))) (bin mulD (M.ret (.int 3)) (getS 3))) (M.ret (.int 2147483587))))
  (sRet ((bin modD (bin fdivLD (bin modD (bin mulD (getS 5) (M.ret (.int 16807))) (M.ret (.int 2147483563))) (M.ret (.int 128))) (getS 1)).bind fun d => M.ret (.v d)))))))))))
noncomputable def m__law_draw : List Sl → Re RV := fnOf 6 b__law_draw
theorem ok__law_draw {f : Addr} {fd : FuncData} (Fu : FnP K "_law_draw" s__law_draw f fd) (B : Bz K w mg) (NS : SeerK P base) : FnG P w K mg base 1 f fd ["_law_pen_here", "_law_many"] (spG K mg 2 m__law_draw) :=
  mk_fn Fu sc__law_draw fun cdv A outer s H E hr =>
  (ss_cons (s_if (t_cmp gt_data (e_ixS 0 e_str hr.u1) e_int)
  (ss_cons (s_set (i := 2) (e_op mod_data (e_ixS 0 e_str hr.u1) (e_var 1)) sc__law_draw.nd)
  (ss_cons (s_put 0 e_str (e_op (fdivL_data hr NS) (e_ixS 0 e_str hr.u1) (e_var 1)) hr.u1)
  (ss_one (s_ret (o_val (e_var 2))))))
  ss_nil)
  (ss_cons (s_set (i := 3) (e_ixS 0 e_str hr.u1) sc__law_draw.nd)
  (ss_cons (s_put 0 e_str (e_op add_data (e_var 3) e_int) hr.u1)
  (ss_cons (s_set (i := 4) (e_op add_data (e_op mul_data e_int (e_var 3)) e_int) sc__law_draw.nd)
  (ss_cons (s_if (t_cmp gt_data (e_callB len_data B.b_len (a_cons (e_ixS 0 e_str hr.u1) a_nil)) e_int)
  (ss_one (s_set (i := 4) (e_ix ix_data (e_ixS 0 e_str hr.u1) (e_op mod_data (e_var 3) (e_callB len_data B.b_len (a_cons (e_ixS 0 e_str hr.u1) a_nil)))) sc__law_draw.nd))
  ss_nil)
  (ss_cons (s_if (PW.pt (w_and (t_cmp lt_data (e_var 3) (e_callB len_data B.b_len (a_cons (e_ixS 0 e_str hr.u1) a_nil))) (w_and1 (t_cmp ge_data (e_callB abs_data B.b_abs (a_cons (e_var 4) a_nil)) (e_op pow_data e_int e_int)))))
  (ss_cons (s_put 0 e_str (e_op (fdivL_data hr NS) (e_callB abs_data B.b_abs (a_cons (e_var 4) a_nil)) (e_var 1)) hr.u1)
  (ss_one (s_ret (o_val (e_op mod_data (e_callB abs_data B.b_abs (a_cons (e_var 4) a_nil)) (e_var 1))))))
  ss_nil)
  (ss_cons (s_set (i := 5) (e_op mod_data (e_op mul_data (e_op add_data (e_op add_data (e_op mod_data (e_var 4) e_int) (e_op mul_data e_int (e_var 3))) e_int) e_int) e_int) sc__law_draw.nd)
  (ss_cons (s_set (i := 5) (e_op mod_data (e_op add_data (e_op add_data (e_op mul_data (e_var 5) (e_var 5)) (e_op mul_data e_int (e_var 5))) (e_op mul_data e_int (e_var 3))) e_int) sc__law_draw.nd)
  (ss_one (s_ret (o_val (e_op mod_data (e_op (fdivL_data hr NS) (e_op mod_data (e_op mul_data (e_var 5) e_int) e_int) e_int) (e_var 1)))))))))))))
abbrev s__law_things : Stmt := topS 32
abbrev N__law_things : List Str := ["_law_house_here", "_law_found", "_law_one", "_law_longer", "_law_ahead", "_law_number"]
theorem sc__law_things : FnScope N__law_things ["_law_house_here"] (defScope s__law_things) := ⟨rfl, rfl, rfl, by decide +kernel, rfl, by decide +kernel, by decide +kernel⟩
noncomputable def b__law_things : M Fl := (sSeq (sSetO 1 (oLst (aCons (eTup aNil) aNil)))
  (sSeq (sFor (iSeq (getS 0)) (gN 2)
  (sSeq (sSetO 3 (oLst aNil))
  (sSeq (frz 1 (sFor (iSeq (getS 1)) (gN 4)
  (sExtend 3 (oComp (iBy rng1 (aCons (getS 2) aNil)) [5] (gN 5) yes (bin addD (getS 4) (eTup (aCons (getS 5) aNil)))))))
  (sSetO 1 (takeS 3)))))
  (sRet (takeS 1))))
noncomputable def m__law_things : List Sl → Re RV := fnOf 6 b__law_things
theorem ok__law_things {f : Addr} {fd : FuncData} (Fu : FnP K "_law_things" s__law_things f fd) (B : Bz K w mg) (NS : SeerK P base) : FnG P w K mg base 1 f fd ["_law_house_here"] (spG K mg 1 m__law_things) :=
  mk_fn Fu sc__law_things fun cdv A outer s H E hr =>
  (ss_cons (s_setO (i := 1) (o_lst (a_cons (e_tup a_nil) a_nil)) sc__law_things.nd)
  (ss_cons (s_for (i_seq (e_var 0)) (g_name 2 sc__law_things.nd)
  (ss_cons (s_setO (i := 3) (o_lst a_nil) sc__law_things.nd)
  (ss_cons (s_frz 1 (s_for (i_seq (e_var 1)) (g_name 4 sc__law_things.nd)
  (ss_one (s_extend 3 (o_lc (own := [("_law_number", 5)]) (i_rng1 (a_cons (e_var 2) a_nil) B.b_range) (blkOk_by (show blkC N__law_things (defScope s__law_things) _ [("_law_number", 5)] = true from by decide +kernel)) (fun _ _ _ _ _ => (g_name 5 sc__law_things.nd)) (fun _ _ _ _ _ => ts_nil) (fun _ _ _ _ _ => (e_op add_data (e_var 4) (e_tup (a_cons (e_var 5) a_nil)))) sc__law_things.nd))) (passes_of rfl)))
  (ss_one (s_setO (i := 1) (o_take 3) sc__law_things.nd)))) (passes_of rfl))
  (ss_one (s_ret (o_take 1)))))
abbrev s__law_sum : Stmt := topS 33
abbrev N__law_sum : List Str := ["_law_house_here", "_law_a", "_law_b", "_law_k"]
theorem sc__law_sum : FnScope N__law_sum ["_law_house_here", "_law_a", "_law_b"] (defScope s__law_sum) := ⟨rfl, rfl, rfl, by decide +kernel, rfl, by decide +kernel, by decide +kernel⟩
noncomputable def b__law_sum : M Fl := (sRet ((nry (one tupD) (aCons (frzM (oComp (iBy rng1 (aCons (nry (one lenD) (aCons (getS 0) aNil)) aNil)) [3] (gN 3) yes (bin modD (bin addD (bin ixD (getS 1) (getS 3)) (bin ixD (getS 2) (getS 3))) (bin ixD (getS 0) (getS 3))))) aNil)).bind fun d => M.ret (.v d)))
noncomputable def m__law_sum : List Sl → Re RV := fnOf 4 b__law_sum
theorem ok__law_sum {f : Addr} {fd : FuncData} (Fu : FnP K "_law_sum" s__law_sum f fd) (B : Bz K w mg) (NS : SeerK P base) : FnG P w K mg base 1 f fd ["_law_house_here", "_law_a", "_law_b"] (spG K mg 3 m__law_sum) :=
  mk_fn Fu sc__law_sum fun cdv A outer s H E hr =>
  (ss_one (s_ret (o_val (e_callT tup_data B.b_tuple (a_cons (e_val (o_lc (own := [("_law_k", 3)]) (i_rng1 (a_cons (e_callB len_data B.b_len (a_cons (e_var 0) a_nil)) a_nil) B.b_range) (blkOk_by (show blkC N__law_sum (defScope s__law_sum) _ [("_law_k", 3)] = true from by decide +kernel)) (fun _ _ _ _ _ => (g_name 3 sc__law_sum.nd)) (fun _ _ _ _ _ => ts_nil) (fun _ _ _ _ _ => (e_op mod_data (e_op add_data (e_ix ix_data (e_var 1) (e_var 3)) (e_ix ix_data (e_var 2) (e_var 3))) (e_ix ix_data (e_var 0) (e_var 3)))) sc__law_sum.nd)) a_nil)))))
abbrev s__law_is_form : Stmt := topS 37
abbrev N__law_is_form : List Str := ["_law_house_here", "_law_k", "_law_one"]
theorem sc__law_is_form : FnScope N__law_is_form ["_law_house_here"] (defScope s__law_is_form) := ⟨rfl, rfl, rfl, by decide +kernel, rfl, by decide +kernel, by decide +kernel⟩
noncomputable def b__law_is_form : M Fl := (sRet ((nry (one allD) (aCons (frzM (oComp (iBy enOf (aCons (getS 0) aNil)) [1, 2] (gT (gCn (gN 1) (gCn (gN 2) gNl))) yes (eAnd (bin gtD (getS 2) (M.ret (.int 1))) (bin eqD (bin modD (getS 2) (bin ixD (getS 0) (nry (two maxD) (aCons (M.ret (.int 0)) (aCons (bin subD (getS 1) (M.ret (.int 1))) aNil))))) (M.ret (.int 0)))))) aNil)).bind fun d => M.ret (.v d)))
noncomputable def m__law_is_form : List Sl → Re RV := fnOf 3 b__law_is_form
theorem ok__law_is_form {f : Addr} {fd : FuncData} (Fu : FnP K "_law_is_form" s__law_is_form f fd) (B : Bz K w mg) (NS : SeerK P base) : FnG P w K mg base 1 f fd ["_law_house_here"] (spG K mg 1 m__law_is_form) :=
  mk_fn Fu sc__law_is_form fun cdv A outer s H E hr =>
  (ss_one (s_ret (o_val (e_callB all_data B.b_all (a_cons (e_val (o_lc (own := [("_law_k", 1), ("_law_one", 2)]) (i_enum (a_cons (e_var 0) a_nil) B.b_enumerate) (blkOk_by (show blkC N__law_is_form (defScope s__law_is_form) _ [("_law_k", 1), ("_law_one", 2)] = true from by decide +kernel)) (fun _ _ _ _ _ => (g_tup (g_cons (g_name 1 sc__law_is_form.nd) (g_cons (g_name 2 sc__law_is_form.nd) g_nil)) (gCn_len (gCn_len gNl_len)))) (fun _ _ _ _ _ => ts_nil) (fun _ _ _ _ _ => (e_and (e_cmp gt_data (e_var 2) e_int) (e_one (e_cmp (eq_data hr.units) (e_op mod_data (e_var 2) (e_ix ix_data (e_var 0) (e_callB max_data B.b_max (a_cons e_int (a_cons (e_op sub_data (e_var 1) e_int) a_nil))))) e_int)))) sc__law_is_form.nd)) a_nil)))))
abbrev s__law_with : Stmt := topS 38
abbrev N__law_with : List Str := ["_law_row", "_law_at", "_law_thing"]
theorem sc__law_with : FnScope N__law_with ["_law_row", "_law_at", "_law_thing"] (defScope s__law_with) := ⟨rfl, rfl, rfl, by decide +kernel, rfl, by decide +kernel, by decide +kernel⟩
noncomputable def b__law_with : M Fl := (sRet (binO addO (bin addD (eSl (getS 0) pNone (pSome (getS 1))) (frzM (oLst (aCons (getS 2) aNil)))) (eSl (getS 0) (pSome (bin addD (getS 1) (M.ret (.int 1)))) pNone)))
noncomputable def m__law_with : List Sl → Re RV := fnOf 3 b__law_with
theorem ok__law_with {f : Addr} {fd : FuncData} (Fu : FnP K "_law_with" s__law_with f fd) (B : Bz K w mg) (NS : SeerK P base) : FnG P w K mg base 1 f fd ["_law_row", "_law_at", "_law_thing"] (spG K mg 3 m__law_with) :=
  mk_fn Fu sc__law_with fun cdv A outer s H E hr =>
  (ss_one (s_ret (o_add (e_op add_data (e_sl (e_var 0) p_none (p_some (e_var 1))) (e_val (o_lst (a_cons (e_var 2) a_nil)))) (e_sl (e_var 0) (p_some (e_op add_data (e_var 1) e_int)) p_none))))
abbrev s_is_house : Stmt := topS 8
abbrev N_is_house : List Str := ["thing", "one"]
theorem sc_is_house : FnScope N_is_house ["thing"] (defScope s_is_house) := ⟨rfl, rfl, rfl, by decide +kernel, rfl, by decide +kernel, by decide +kernel⟩
noncomputable def b_is_house : M Fl := (sSeq (sIf (tOrM (tNotM (tTru (una (isiD "tuple") (getS 0)))) (tBool (bin gtD (nry (one lenD) (aCons (getS 0) aNil)) (M.ret (.int 6)))))
  (sRet ((M.ret (.bool false)).bind fun d => M.ret (.v d)))
  sNil)
  (sRet ((nry (one allD) (aCons (frzM (oComp (iSeq (getS 0)) [1] (gN 1) yes (eAnd (frzM (cCall m_is_whole (aCons (getS 1) aNil))) (bin geD (getS 1) (M.ret (.int 1)))))) aNil)).bind fun d => M.ret (.v d))))
noncomputable def m_is_house : List Sl → Re RV := fnOf 2 b_is_house
theorem ok_is_house {f : Addr} {fd : FuncData} (Fu : FnP K "is_house" s_is_house f fd) (B : Bz K w mg) (NS : SeerK P base) (G_is_whole : Fn P w K mg base 1 "is_whole" 1 m_is_whole) : FnG P w K mg base 2 f fd ["thing"] (spG K mg 1 m_is_house) :=
  mk_fn Fu sc_is_house fun cdv A outer s H E hr =>
  (ss_cons (s_if (PW.pt (w_or (t_not (t_tru (e_isi (T := "tuple") (e_var 0) B.b_isinstance B.b_tuple))) (w_or1 (t_cmp gt_data (e_callB len_data B.b_len (a_cons (e_var 0) a_nil)) (e_globI' B.g_MOST_ROUNDS)))))
  (ss_one (s_ret (o_val e_bl)))
  ss_nil)
  (ss_one (s_ret (o_val (e_callB all_data B.b_all (a_cons (e_val (o_lc (own := [("one", 1)]) (i_seq (e_var 0)) (blkOk_by (show blkC N_is_house (defScope s_is_house) _ [("one", 1)] = true from by decide +kernel)) (fun _ _ _ _ _ => (g_name 1 sc_is_house.nd)) (fun _ _ _ _ _ => ts_nil) (fun _ _ _ _ _ => (e_and (e_val (o_call G_is_whole (hr.mono (by decide : 1 ≤ 1)) takes0 (a_cons (e_var 1) a_nil) (hnm := (aCons_len aNil_len)))) (e_one (e_cmp ge_data (e_var 1) e_int)))) sc_is_house.nd)) a_nil))))))
abbrev s_is_thing : Stmt := topS 9
abbrev N_is_thing : List Str := ["house", "thing", "at", "one"]
theorem sc_is_thing : FnScope N_is_thing ["house", "thing"] (defScope s_is_thing) := ⟨rfl, rfl, rfl, by decide +kernel, rfl, by decide +kernel, by decide +kernel⟩
noncomputable def b_is_thing : M Fl := (sSeq (sIf (tOrM (tNotM (tTru (una (isiD "tuple") (getS 1)))) (tBool (bin neD (nry (one lenD) (aCons (getS 1) aNil)) (nry (one lenD) (aCons (getS 0) aNil)))))
  (sRet ((M.ret (.bool false)).bind fun d => M.ret (.v d)))
  sNil)
  (sRet ((nry (one allD) (aCons (frzM (oComp (iBy enOf (aCons (getS 1) aNil)) [2, 3] (gT (gCn (gN 2) (gCn (gN 3) gNl))) yes (eAnd (frzM (cCall m_is_whole (aCons (getS 3) aNil))) (eChain leD ltD (M.ret (.int 0)) (getS 3) (bin ixD (getS 0) (getS 2)))))) aNil)).bind fun d => M.ret (.v d))))
noncomputable def m_is_thing : List Sl → Re RV := fnOf 4 b_is_thing
theorem ok_is_thing {f : Addr} {fd : FuncData} (Fu : FnP K "is_thing" s_is_thing f fd) (B : Bz K w mg) (NS : SeerK P base) (G_is_whole : Fn P w K mg base 1 "is_whole" 1 m_is_whole) : FnG P w K mg base 2 f fd ["house", "thing"] (spG K mg 2 m_is_thing) :=
  mk_fn Fu sc_is_thing fun cdv A outer s H E hr =>
  (ss_cons (s_if (PW.pt (w_or (t_not (t_tru (e_isi (T := "tuple") (e_var 1) B.b_isinstance B.b_tuple))) (w_or1 (t_cmp (ne_data hr.units) (e_callB len_data B.b_len (a_cons (e_var 1) a_nil)) (e_callB len_data B.b_len (a_cons (e_var 0) a_nil))))))
  (ss_one (s_ret (o_val e_bl)))
  ss_nil)
  (ss_one (s_ret (o_val (e_callB all_data B.b_all (a_cons (e_val (o_lc (own := [("at", 2), ("one", 3)]) (i_enum (a_cons (e_var 1) a_nil) B.b_enumerate) (blkOk_by (show blkC N_is_thing (defScope s_is_thing) _ [("at", 2), ("one", 3)] = true from by decide +kernel)) (fun _ _ _ _ _ => (g_tup (g_cons (g_name 2 sc_is_thing.nd) (g_cons (g_name 3 sc_is_thing.nd) g_nil)) (gCn_len (gCn_len gNl_len)))) (fun _ _ _ _ _ => ts_nil) (fun _ _ _ _ _ => (e_and (e_val (o_call G_is_whole (hr.mono (by decide : 1 ≤ 1)) takes0 (a_cons (e_var 3) a_nil) (hnm := (aCons_len aNil_len)))) (e_one (e_chain le_data lt_data e_int (e_var 3) (e_ix ix_data (e_var 0) (e_var 2)))))) sc_is_thing.nd)) a_nil))))))
abbrev s_is_square : Stmt := topS 16
abbrev N_is_square : List Str := ["thing", "many", "row", "number"]
theorem sc_is_square : FnScope N_is_square ["thing"] (defScope s_is_square) := ⟨rfl, rfl, rfl, by decide +kernel, rfl, by decide +kernel, by decide +kernel⟩
noncomputable def b_is_square : M Fl := (sSeq (sIf (tOrM (tNotM (tTru (una (isiD "list") (getS 0)))) (tNotM (tBool (eChain leD leD (M.ret (.int 1)) (nry (one lenD) (aCons (getS 0) aNil)) (M.ret (.int 16))))))
  (sRet ((M.ret (.bool false)).bind fun d => M.ret (.v d)))
  sNil)
  (sSeq (sSet 1 (nry (one lenD) (aCons (getS 0) aNil)))
  (sSeq (sFor (iSeq (getS 0)) (gN 2)
  (sSeq (sIf (tOrM (tNotM (tTru (una (isiD "list") (getS 2)))) (tBool (bin neD (nry (one lenD) (aCons (getS 2) aNil)) (getS 1))))
  (sRet ((M.ret (.bool false)).bind fun d => M.ret (.v d)))
  sNil)
  (sIf (tNotM (tTru (nry (one allD) (aCons (frzM (oComp (iSeq (getS 2)) [3] (gN 3) yes (eAnd (frzM (cCall m_is_whole (aCons (getS 3) aNil))) (eChain leD ltD (M.ret (.int 0)) (getS 3) (getS 1))))) aNil))))
  (sRet ((M.ret (.bool false)).bind fun d => M.ret (.v d)))
  sNil)))
  (sRet ((M.ret (.bool true)).bind fun d => M.ret (.v d))))))
noncomputable def m_is_square : List Sl → Re RV := fnOf 4 b_is_square
theorem ok_is_square {f : Addr} {fd : FuncData} (Fu : FnP K "is_square" s_is_square f fd) (B : Bz K w mg) (NS : SeerK P base) (G_is_whole : Fn P w K mg base 1 "is_whole" 1 m_is_whole) : FnG P w K mg base 2 f fd ["thing"] (spG K mg 1 m_is_square) :=
  mk_fn Fu sc_is_square fun cdv A outer s H E hr =>
  (ss_cons (s_if (PW.pt (w_or (t_not (t_tru (e_isi (T := "list") (e_var 0) B.b_isinstance B.b_list))) (w_or1 (t_not (t_chain le_data le_data e_int (e_callB len_data B.b_len (a_cons (e_var 0) a_nil)) (e_globI' B.g_MOST_ROWS))))))
  (ss_one (s_ret (o_val e_bl)))
  ss_nil)
  (ss_cons (s_set (i := 1) (e_callB len_data B.b_len (a_cons (e_var 0) a_nil)) sc_is_square.nd)
  (ss_cons (s_for (i_seq (e_var 0)) (g_name 2 sc_is_square.nd)
  (ss_cons (s_if (PW.pt (w_or (t_not (t_tru (e_isi (T := "list") (e_var 2) B.b_isinstance B.b_list))) (w_or1 (t_cmp (ne_data hr.units) (e_callB len_data B.b_len (a_cons (e_var 2) a_nil)) (e_var 1)))))
  (ss_one (s_ret (o_val e_bl)))
  ss_nil)
  (ss_one (s_if (t_not (t_tru (e_callB all_data B.b_all (a_cons (e_val (o_lc (own := [("number", 3)]) (i_seq (e_var 2)) (blkOk_by (show blkC N_is_square (defScope s_is_square) _ [("number", 3)] = true from by decide +kernel)) (fun _ _ _ _ _ => (g_name 3 sc_is_square.nd)) (fun _ _ _ _ _ => ts_nil) (fun _ _ _ _ _ => (e_and (e_val (o_call G_is_whole (hr.mono (by decide : 1 ≤ 1)) takes0 (a_cons (e_var 3) a_nil) (hnm := (aCons_len aNil_len)))) (e_one (e_chain le_data lt_data e_int (e_var 3) (e_var 1))))) sc_is_square.nd)) a_nil))))
  (ss_one (s_ret (o_val e_bl)))
  ss_nil))) (passes_of rfl))
  (ss_one (s_ret (o_val e_bl))))))
abbrev s_so_often : Stmt := topS 22
abbrev N_so_often : List Str := ["table", "many", "a", "found", "often"]
theorem sc_so_often : FnScope N_so_often ["table", "many", "a"] (defScope s_so_often) := ⟨rfl, rfl, rfl, by decide +kernel, rfl, by decide +kernel, by decide +kernel⟩
noncomputable def b_so_often : M Fl := (sSeq (sSet 3 (frzM (cCall m_nought_number (aCons (getS 0) aNil))))
  (sSeq (sFor (iBy rng1 (aCons (getS 1) aNil)) (gN 4)
  (sSet 3 (bin ixD (bin ixD (getS 0) (getS 3)) (getS 2))))
  (sRet ((getS 3).bind fun d => M.ret (.v d)))))
noncomputable def m_so_often : List Sl → Re RV := fnOf 5 b_so_often
theorem ok_so_often {f : Addr} {fd : FuncData} (Fu : FnP K "so_often" s_so_often f fd) (B : Bz K w mg) (NS : SeerK P base) (G_nought_number : Fn P w K mg base 1 "nought_number" 1 m_nought_number) : FnG P w K mg base 2 f fd ["table", "many", "a"] (spG K mg 3 m_so_often) :=
  mk_fn Fu sc_so_often fun cdv A outer s H E hr =>
  (ss_cons (s_set (i := 3) (e_val (o_call G_nought_number (hr.mono (by decide : 1 ≤ 1)) (takes_of rfl rfl rfl rfl) (a_cons (e_var 0) a_nil) (hnm := (aCons_len aNil_len)))) sc_so_often.nd)
  (ss_cons (s_for (i_rng1 (a_cons (e_var 1) a_nil) B.b_range) (g_name 4 sc_so_often.nd)
  (ss_one (s_set (i := 3) (e_ix ix_data (e_ix ix_data (e_var 0) (e_var 3)) (e_var 2)) sc_so_often.nd)) (passes_of rfl))
  (ss_one (s_ret (o_val (e_var 3))))))
abbrev s__law_house : Stmt := topS 31
abbrev N__law_house : List Str := ["_law_pen_here", "_law_some"]
theorem sc__law_house : FnScope N__law_house ["_law_pen_here"] (defScope s__law_house) := ⟨rfl, rfl, rfl, by decide +kernel, rfl, by decide +kernel, by decide +kernel⟩
noncomputable def b__law_house : M Fl := (sSeq (sSet 1 (frzM (oLst (aCons (eTup aNil) (aCons (eTup (aCons (M.ret (.int 2)) aNil)) (aCons (eTup (aCons (M.ret (.int 3)) aNil)) (aCons (eTup (aCons (M.ret (.int 4)) aNil)) (aCons (eTup (aCons (M.ret (.int 2)) (aCons (M.ret (.int 2)) aNil))) (aCons (eTup (aCons (M.ret (.int 6)) aNil)) (aCons (eTup (aCons (M.ret (.int 2)) (aCons (M.ret (.int 3)) aNil))) (aCons (eTup (aCons (M.ret (.int 8)) aNil)) (aCons (eTup (aCons (M.ret (.int 2)) (aCons (M.ret (.int 4)) aNil))) (aCons (eTup (aCons (M.ret (.int 2)) (aCons (M.ret (.int 2)) (aCons (M.ret (.int 2)) aNil)))) (aCons (eTup (aCons (M.ret (.int 4)) (aCons (M.ret (.int 2)) aNil))) (aCons (eTup (aCons (M.ret (.int 9)) aNil)) (aCons (eTup (aCons (M.ret (.int 3)) (aCons (M.ret (.int 3)) aNil))) (aCons (eTup (aCons (M.ret (.int 12)) aNil)) (aCons (eTup (aCons (M.ret (.int 2)) (aCons (M.ret (.int 6)) aNil))) aNil))))))))))))))))))
  (sSeq (sSet 1 (bin addD (getS 1) (frzM (oLst (aCons (eTup (aCons (M.ret (.int 16)) aNil)) (aCons (eTup (aCons (M.ret (.int 4)) (aCons (M.ret (.int 4)) aNil))) (aCons (eTup (aCons (M.ret (.int 2)) (aCons (M.ret (.int 8)) aNil))) (aCons (eTup (aCons (M.ret (.int 2)) (aCons (M.ret (.int 2)) (aCons (M.ret (.int 4)) aNil)))) (aCons (eTup (aCons (M.ret (.int 2)) (aCons (M.ret (.int 2)) (aCons (M.ret (.int 2)) (aCons (M.ret (.int 2)) aNil))))) (aCons (eTup (aCons (M.ret (.int 5)) aNil)) (aCons (eTup (aCons (M.ret (.int 7)) aNil)) (aCons (eTup (aCons (M.ret (.int 10)) aNil)) (aCons (eTup (aCons (M.ret (.int 15)) aNil)) (aCons (eTup (aCons (M.ret (.int 3)) (aCons (M.ret (.int 5)) aNil))) (aCons (eTup (aCons (M.ret (.int 1)) (aCons (M.ret (.int 2)) (aCons (M.ret (.int 1)) aNil)))) (aCons (eTup (aCons (M.ret (.int 11)) aNil)) aNil))))))))))))))))
  (sSeq (sSet 1 (bin addD (getS 1) (frzM (oLst (aCons (eTup (aCons (M.ret (.int 13)) aNil)) (aCons (eTup (aCons (M.ret (.int 14)) aNil)) (aCons (eTup (aCons (M.ret (.int 1)) aNil)) (aCons (eTup (aCons (M.ret (.int 8)) (aCons (M.ret (.int 2)) aNil))) (aCons (eTup (aCons (M.ret (.int 3)) (aCons (M.ret (.int 4)) aNil))) aNil)))))))))
  (sRet ((bin ixD (getS 1) (frzM (cCallI 0 m__law_draw (aCons (M.ret (.int 32)) aNil)))).bind fun d => M.ret (.v d))))))
noncomputable def m__law_house : List Sl → Re RV := fnOf 2 b__law_house
theorem ok__law_house {f : Addr} {fd : FuncData} (Fu : FnP K "_law_house" s__law_house f fd) (B : Bz K w mg) (NS : SeerK P base) (G__law_draw : Fn P w K mg base 1 "_law_draw" 2 m__law_draw) : FnG P w K mg base 2 f fd ["_law_pen_here"] (spG K mg 1 m__law_house) :=
  mk_fn Fu sc__law_house fun cdv A outer s H E hr =>
  (ss_cons (s_set (i := 1) (e_val (o_lst (a_cons (e_tup a_nil) (a_cons (e_tup (a_cons e_int a_nil)) (a_cons (e_tup (a_cons e_int a_nil)) (a_cons (e_tup (a_cons e_int a_nil)) (a_cons (e_tup (a_cons e_int (a_cons e_int a_nil))) (a_cons (e_tup (a_cons e_int a_nil)) (a_cons (e_tup (a_cons e_int (a_cons e_int a_nil))) (a_cons (e_tup (a_cons e_int a_nil)) (a_cons (e_tup (a_cons e_int (a_cons e_int a_nil))) (a_cons (e_tup (a_cons e_int (a_cons e_int (a_cons e_int a_nil)))) (a_cons (e_tup (a_cons e_int (a_cons e_int a_nil))) (a_cons (e_tup (a_cons e_int a_nil)) (a_cons (e_tup (a_cons e_int (a_cons e_int a_nil))) (a_cons (e_tup (a_cons e_int a_nil)) (a_cons (e_tup (a_cons e_int (a_cons e_int a_nil))) a_nil))))))))))))))))) sc__law_house.nd)
  (ss_cons (s_set (i := 1) (e_op add_data (e_var 1) (e_val (o_lst (a_cons (e_tup (a_cons e_int a_nil)) (a_cons (e_tup (a_cons e_int (a_cons e_int a_nil))) (a_cons (e_tup (a_cons e_int (a_cons e_int a_nil))) (a_cons (e_tup (a_cons e_int (a_cons e_int (a_cons e_int a_nil)))) (a_cons (e_tup (a_cons e_int (a_cons e_int (a_cons e_int (a_cons e_int a_nil))))) (a_cons (e_tup (a_cons e_int a_nil)) (a_cons (e_tup (a_cons e_int a_nil)) (a_cons (e_tup (a_cons e_int a_nil)) (a_cons (e_tup (a_cons e_int a_nil)) (a_cons (e_tup (a_cons e_int (a_cons e_int a_nil))) (a_cons (e_tup (a_cons e_int (a_cons e_int (a_cons e_int a_nil)))) (a_cons (e_tup (a_cons e_int a_nil)) a_nil))))))))))))))) sc__law_house.nd)
  (ss_cons (s_set (i := 1) (e_op add_data (e_var 1) (e_val (o_lst (a_cons (e_tup (a_cons e_int a_nil)) (a_cons (e_tup (a_cons e_int a_nil)) (a_cons (e_tup (a_cons e_int a_nil)) (a_cons (e_tup (a_cons e_int (a_cons e_int a_nil))) (a_cons (e_tup (a_cons e_int (a_cons e_int a_nil))) a_nil)))))))) sc__law_house.nd)
  (ss_one (s_ret (o_val (e_ix ix_data (e_var 1) (e_val (o_callI 0 G__law_draw (hr.mono (by decide : 1 ≤ 1)) (takes_of rfl rfl rfl rfl) (a_cons e_int a_nil) (fun r ds r' h => congrArg Nat.succ ((aCons_len aNil_len) r ds r' h)))))))))))
abbrev s__law_mixed_things : Stmt := topS 34
abbrev N__law_mixed_things : List Str := ["_law_pen_here", "_law_house_here", "_law_left", "_law_found"]
theorem sc__law_mixed_things : FnScope N__law_mixed_things ["_law_pen_here", "_law_house_here"] (defScope s__law_mixed_things) := ⟨rfl, rfl, rfl, by decide +kernel, rfl, by decide +kernel, by decide +kernel⟩
noncomputable def b__law_mixed_things : M Fl := (sSeq (sSetO 2 (cCall m__law_things (aCons (getS 1) aNil)))
  (sSeq (sSetO 3 (oLst aNil))
  (sSeq (sWhile (tBool (neS 2 (frzM (oLst aNil))))
  (sAppend 3 (ePop 2 (frzM (cCallI 0 m__law_draw (aCons (eLenS 2) aNil))))))
  (sRet (takeS 3)))))
noncomputable def m__law_mixed_things : List Sl → Re RV := fnOf 4 b__law_mixed_things
theorem ok__law_mixed_things {f : Addr} {fd : FuncData} (Fu : FnP K "_law_mixed_things" s__law_mixed_things f fd) (B : Bz K w mg) (NS : SeerK P base) (G__law_things : Fn P w K mg base 1 "_law_things" 1 m__law_things) (G__law_draw : Fn P w K mg base 1 "_law_draw" 2 m__law_draw) : FnG P w K mg base 2 f fd ["_law_pen_here", "_law_house_here"] (spG K mg 2 m__law_mixed_things) :=
  mk_fn Fu sc__law_mixed_things fun cdv A outer s H E hr =>
  (ss_cons (s_setO (i := 2) (o_call G__law_things (hr.mono (by decide : 1 ≤ 1)) (takes_of rfl rfl rfl rfl) (a_cons (e_var 1) a_nil) (hnm := (aCons_len aNil_len))) sc__law_mixed_things.nd)
  (ss_cons (s_setO (i := 3) (o_lst a_nil) sc__law_mixed_things.nd)
  (ss_cons (s_while (t_neS 2 (e_val (o_lst a_nil)) hr.units)
  (ss_one (s_append 3 (e_pop 2 (e_val (o_callI 0 G__law_draw (hr.mono (by decide : 1 ≤ 1)) (takes_of rfl rfl rfl rfl) (a_cons (e_lenS 2 B.b_len) a_nil) (fun r ds r' h => congrArg Nat.succ ((aCons_len aNil_len) r ds r' h))))))) (passes_of rfl))
  (ss_one (s_ret (o_take 3))))))
abbrev s__law_table : Stmt := topS 35
abbrev N__law_table : List Str := ["_law_house_here", "_law_some", "_law_a", "_law_b"]
theorem sc__law_table : FnScope N__law_table ["_law_house_here", "_law_some"] (defScope s__law_table) := ⟨rfl, rfl, rfl, by decide +kernel, rfl, by decide +kernel, by decide +kernel⟩
noncomputable def b__law_table : M Fl := (sRet (oComp (iSeq (getS 1)) [2] (gN 2) yes (frzM (oComp (iSeq (getS 1)) [3] (gN 3) yes (eIndex (getS 1) (frzM (cCall m__law_sum (aCons (getS 0) (aCons (getS 2) (aCons (getS 3) aNil))))))))))
noncomputable def m__law_table : List Sl → Re RV := fnOf 4 b__law_table
theorem ok__law_table {f : Addr} {fd : FuncData} (Fu : FnP K "_law_table" s__law_table f fd) (B : Bz K w mg) (NS : SeerK P base) (G__law_sum : Fn P w K mg base 1 "_law_sum" 3 m__law_sum) : FnG P w K mg base 2 f fd ["_law_house_here", "_law_some"] (spG K mg 2 m__law_table) :=
  mk_fn Fu sc__law_table fun cdv A outer s H E hr =>
  (ss_one (s_ret (o_lc (own := [("_law_a", 2)]) (i_seq (e_var 1)) (blkOk_by (show blkC N__law_table (defScope s__law_table) _ [("_law_a", 2)] = true from by decide +kernel)) (fun _ _ _ _ _ => (g_name 2 sc__law_table.nd)) (fun _ _ _ _ _ => ts_nil) (fun _ _ _ _ _ => (e_val (o_lc (own := [("_law_b", 3)]) (i_seq (e_var 1)) (blkOk_by (by rfl)) (fun _ _ _ _ _ => (g_name 3 sc__law_table.nd)) (fun _ _ _ _ _ => ts_nil) (fun _ _ _ _ _ => (e_index (e_var 1) (e_val (o_call G__law_sum (hr.mono (by decide : 1 ≤ 1)) takes0 (a_cons (e_var 0) (a_cons (e_var 2) (a_cons (e_var 3) a_nil))) (hnm := (aCons_len (aCons_len (aCons_len aNil_len)))))) hr)) sc__law_table.nd))) sc__law_table.nd)))
abbrev s__law_is_named : Stmt := topS 36
abbrev N__law_is_named : List Str := ["_law_table_here", "_law_thing", "_law_form", "_law_names", "_law_many", "_law_k", "_law_one", "_law_a", "_law_row", "_law_b", "_law_number", "_law_name"]
theorem sc__law_is_named : FnScope N__law_is_named ["_law_table_here", "_law_thing"] (defScope s__law_is_named) := ⟨rfl, rfl, rfl, by decide +kernel, rfl, by decide +kernel, by decide +kernel⟩
noncomputable def b__law_is_named : M Fl := (sSeq (sIf (tOrM (tNotM (tTru (una (isiD "tuple") (getS 1)))) (tBool (bin neD (nry (one lenD) (aCons (getS 1) aNil)) (M.ret (.int 2)))))
  (sRet ((M.ret (.bool false)).bind fun d => M.ret (.v d)))
  sNil)
  (sSeq (sAsg (gT (gCn (gN 2) (gCn (gN 3) gNl))) (getS 1))
  (sSeq (sIf (tOrM (tNotM (tTru (una (isiD "tuple") (getS 2)))) (tOrM (tNotM (tTru (una (isiD "list") (getS 3)))) (tOrM (tBool (bin neD (nry (one lenD) (aCons (getS 3) aNil)) (nry (one lenD) (aCons (getS 0) aNil)))) (tBool (bin gtD (nry (one lenD) (aCons (getS 2) aNil)) (M.ret (.int 6)))))))
  (sRet ((M.ret (.bool false)).bind fun d => M.ret (.v d)))
  sNil)
  (sSeq (sSet 4 (M.ret (.int 1)))
  (sSeq (sFor (iBy enOf (aCons (getS 2) aNil)) (gT (gCn (gN 5) (gCn (gN 6) gNl)))
  (sSeq (sIf (tOrM (tNotM (tTru (una (isiD "int") (getS 6)))) (tOrM (tTru (una (isiD "bool") (getS 6))) (tOrM (tBool (bin ltD (getS 6) (M.ret (.int 2)))) (tBool (bin neD (bin modD (getS 6) (bin ixD (getS 2) (nry (two maxD) (aCons (M.ret (.int 0)) (aCons (bin subD (getS 5) (M.ret (.int 1))) aNil))))) (M.ret (.int 0)))))))
  (sRet ((M.ret (.bool false)).bind fun d => M.ret (.v d)))
  sNil)
  (sSet 4 (bin mulD (getS 4) (getS 6)))))
  (sSeq (sIf (tBool (bin neD (getS 4) (nry (one lenD) (aCons (getS 0) aNil))))
  (sRet ((M.ret (.bool false)).bind fun d => M.ret (.v d)))
  sNil)
  (sSeq (sIf (tBool (bin neD (frzM (nryO sortAL (aCons (frzM (oComp (iSeq (getS 3)) [11] (gN 11) yes (nry (one reprZ) (aCons (getS 11) aNil)))) aNil))) (frzM (nryO sortAL (aCons (frzM (oComp (iSeq (frzM (cCall m__law_things (aCons (getS 2) aNil)))) [7] (gN 7) yes (nry (one reprZ) (aCons (getS 7) aNil)))) aNil)))))
  (sRet ((M.ret (.bool false)).bind fun d => M.ret (.v d)))
  sNil)
  (sSeq (sFor (iBy enOf (aCons (getS 0) aNil)) (gT (gCn (gN 7) (gCn (gN 8) gNl)))
  (sFor (iBy enOf (aCons (getS 8) aNil)) (gT (gCn (gN 9) (gCn (gN 10) gNl)))
  (sIf (tBool (bin neD (frzM (cCall m__law_sum (aCons (getS 2) (aCons (bin ixD (getS 3) (getS 7)) (aCons (bin ixD (getS 3) (getS 9)) aNil))))) (bin ixD (getS 3) (getS 10))))
  (sRet ((M.ret (.bool false)).bind fun d => M.ret (.v d)))
  sNil)))
  (sRet ((M.ret (.bool true)).bind fun d => M.ret (.v d)))))))))))
noncomputable def m__law_is_named : List Sl → Re RV := fnOf 12 b__law_is_named
theorem ok__law_is_named {f : Addr} {fd : FuncData} (Fu : FnP K "_law_is_named" s__law_is_named f fd) (B : Bz K w mg) (NS : SeerK P base) (G__law_things : Fn P w K mg base 1 "_law_things" 1 m__law_things) (G__law_sum : Fn P w K mg base 1 "_law_sum" 3 m__law_sum) : FnG P w K mg base 2 f fd ["_law_table_here", "_law_thing"] (spG K mg 2 m__law_is_named) :=
  mk_fn Fu sc__law_is_named fun cdv A outer s H E hr =>
  (ss_cons (s_if (PW.pt (w_or (t_not (t_tru (e_isi (T := "tuple") (e_var 1) B.b_isinstance B.b_tuple))) (w_or1 (t_cmp (ne_data hr.units) (e_callB len_data B.b_len (a_cons (e_var 1) a_nil)) e_int))))
  (ss_one (s_ret (o_val e_bl)))
  ss_nil)
  (ss_cons (s_asg (e_var 1) (g_tup (g_cons (g_name 2 sc__law_is_named.nd) (g_cons (g_name 3 sc__law_is_named.nd) g_nil)) (gCn_len (gCn_len gNl_len))))
  (ss_cons (s_if (PW.pt (w_or (t_not (t_tru (e_isi (T := "tuple") (e_var 2) B.b_isinstance B.b_tuple))) (w_or (t_not (t_tru (e_isi (T := "list") (e_var 3) B.b_isinstance B.b_list))) (w_or (t_cmp (ne_data hr.units) (e_callB len_data B.b_len (a_cons (e_var 3) a_nil)) (e_callB len_data B.b_len (a_cons (e_var 0) a_nil))) (w_or1 (t_cmp gt_data (e_callB len_data B.b_len (a_cons (e_var 2) a_nil)) e_int))))))
  (ss_one (s_ret (o_val e_bl)))
  ss_nil)
  (ss_cons (s_set (i := 4) e_int sc__law_is_named.nd)
  (ss_cons (s_for (i_enum (a_cons (e_var 2) a_nil) B.b_enumerate) (g_tup (g_cons (g_name 5 sc__law_is_named.nd) (g_cons (g_name 6 sc__law_is_named.nd) g_nil)) (gCn_len (gCn_len gNl_len)))
  (ss_cons (s_if (PW.pt (w_or (t_not (t_tru (e_isi (T := "int") (e_var 6) B.b_isinstance B.b_int))) (w_or (t_tru (e_isi (T := "bool") (e_var 6) B.b_isinstance B.b_bool)) (w_or (t_cmp lt_data (e_var 6) e_int) (w_or1 (t_cmp (ne_data hr.units) (e_op mod_data (e_var 6) (e_ix ix_data (e_var 2) (e_callB max_data B.b_max (a_cons e_int (a_cons (e_op sub_data (e_var 5) e_int) a_nil))))) e_int))))))
  (ss_one (s_ret (o_val e_bl)))
  ss_nil)
  (ss_one (s_set (i := 4) (e_op mul_data (e_var 4) (e_var 6)) sc__law_is_named.nd))) (passes_of rfl))
  (ss_cons (s_if (t_cmp (ne_data hr.units) (e_var 4) (e_callB len_data B.b_len (a_cons (e_var 0) a_nil)))
  (ss_one (s_ret (o_val e_bl)))
  ss_nil)
  (ss_cons (s_if (t_cmp (ne_data hr.units) (e_val (o_callB (call_sortedA hr) B.b_sorted (a_cons (e_val (o_lc (own := [("_law_name", 11)]) (i_seq (e_var 3)) (blkOk_by (show blkC N__law_is_named (defScope s__law_is_named) _ [("_law_name", 11)] = true from by decide +kernel)) (fun _ _ _ _ _ => (g_name 11 sc__law_is_named.nd)) (fun _ _ _ _ _ => ts_nil) (fun _ _ _ _ _ => (e_callB (reprZ_data hr) B.b_repr (a_cons (e_var 11) a_nil))) sc__law_is_named.nd)) a_nil))) (e_val (o_callB (call_sortedA hr) B.b_sorted (a_cons (e_val (o_lc (own := [("_law_a", 7)]) (i_seq (e_val (o_call G__law_things (hr.mono (by decide : 1 ≤ 1)) (takes_of rfl rfl rfl rfl) (a_cons (e_var 2) a_nil) (hnm := (aCons_len aNil_len))))) (blkOk_by (show blkC N__law_is_named (defScope s__law_is_named) _ [("_law_a", 7)] = true from by decide +kernel)) (fun _ _ _ _ _ => (g_name 7 sc__law_is_named.nd)) (fun _ _ _ _ _ => ts_nil) (fun _ _ _ _ _ => (e_callB (reprZ_data hr) B.b_repr (a_cons (e_var 7) a_nil))) sc__law_is_named.nd)) a_nil))))
  (ss_one (s_ret (o_val e_bl)))
  ss_nil)
  (ss_cons (s_for (i_enum (a_cons (e_var 0) a_nil) B.b_enumerate) (g_tup (g_cons (g_name 7 sc__law_is_named.nd) (g_cons (g_name 8 sc__law_is_named.nd) g_nil)) (gCn_len (gCn_len gNl_len)))
  (ss_one (s_for (i_enum (a_cons (e_var 8) a_nil) B.b_enumerate) (g_tup (g_cons (g_name 9 sc__law_is_named.nd) (g_cons (g_name 10 sc__law_is_named.nd) g_nil)) (gCn_len (gCn_len gNl_len)))
  (ss_one (s_if (t_cmp (ne_data hr.units) (e_val (o_call G__law_sum (hr.mono (by decide : 1 ≤ 1)) (takes_of rfl rfl rfl rfl) (a_cons (e_var 2) (a_cons (e_ix ix_data (e_var 3) (e_var 7)) (a_cons (e_ix ix_data (e_var 3) (e_var 9)) a_nil))) (hnm := (aCons_len (aCons_len (aCons_len aNil_len)))))) (e_ix ix_data (e_var 3) (e_var 10)))
  (ss_one (s_ret (o_val e_bl)))
  ss_nil)) (passes_of rfl))) (passes_of rfl))
  (ss_one (s_ret (o_val e_bl)))))))))))
abbrev s__law_each_bent : Stmt := topS 39
abbrev N__law_each_bent : List Str := ["_law_form", "_law_names", "_law_found", "_law_at", "_law_name", "_law_place", "_law_number", "_law_some", "_law_thing"]
theorem sc__law_each_bent : FnScope N__law_each_bent ["_law_form", "_law_names"] (defScope s__law_each_bent) := ⟨rfl, rfl, rfl, by decide +kernel, rfl, by decide +kernel, by decide +kernel⟩
noncomputable def b__law_each_bent : M Fl := (sSeq (sSetO 2 (oLst aNil))
  (sSeq (sFor (iBy enOf (aCons (getS 1) aNil)) (gT (gCn (gN 3) (gCn (gN 4) gNl)))
  (sFor (iBy enOf (aCons (getS 4) aNil)) (gT (gCn (gN 5) (gCn (gN 6) gNl)))
  (sSeq (sSet 7 (frzM (oLst (aCons (bin modD (bin addD (getS 6) (M.ret (.int 1))) (bin ixD (getS 0) (getS 5))) (aCons (bin addD (getS 6) (bin ixD (getS 0) (getS 5))) (aCons (una negD (M.ret (.int 1))) (aCons (bin eqD (getS 6) (M.ret (.int 1))) (aCons (M.ret .none) aNil))))))))
  (sFor (iSeq (getS 7)) (gN 8)
  (sAppend 2 (eTup (aCons (getS 0) (aCons (frzM (cCall m__law_with (aCons (getS 1) (aCons (getS 3) (aCons (bin addD (bin addD (eSl (getS 4) pNone (pSome (getS 5))) (eTup (aCons (getS 8) aNil))) (eSl (getS 4) (pSome (bin addD (getS 5) (M.ret (.int 1)))) pNone)) aNil))))) aNil))))))))
  (sRet (takeS 2))))
noncomputable def m__law_each_bent : List Sl → Re RV := fnOf 9 b__law_each_bent
theorem ok__law_each_bent {f : Addr} {fd : FuncData} (Fu : FnP K "_law_each_bent" s__law_each_bent f fd) (B : Bz K w mg) (NS : SeerK P base) (G__law_with : Fn P w K mg base 1 "_law_with" 3 m__law_with) : FnG P w K mg base 2 f fd ["_law_form", "_law_names"] (spG K mg 2 m__law_each_bent) :=
  mk_fn Fu sc__law_each_bent fun cdv A outer s H E hr =>
  (ss_cons (s_setO (i := 2) (o_lst a_nil) sc__law_each_bent.nd)
  (ss_cons (s_for (i_enum (a_cons (e_var 1) a_nil) B.b_enumerate) (g_tup (g_cons (g_name 3 sc__law_each_bent.nd) (g_cons (g_name 4 sc__law_each_bent.nd) g_nil)) (gCn_len (gCn_len gNl_len)))
  (ss_one (s_for (i_enum (a_cons (e_var 4) a_nil) B.b_enumerate) (g_tup (g_cons (g_name 5 sc__law_each_bent.nd) (g_cons (g_name 6 sc__law_each_bent.nd) g_nil)) (gCn_len (gCn_len gNl_len)))
  (ss_cons (s_set (i := 7) (e_val (o_lst (a_cons (e_op mod_data (e_op add_data (e_var 6) e_int) (e_ix ix_data (e_var 0) (e_var 5))) (a_cons (e_op add_data (e_var 6) (e_ix ix_data (e_var 0) (e_var 5))) (a_cons (e_un neg_data e_int) (a_cons (e_cmp (eq_data hr.units) (e_var 6) e_int) (a_cons e_non a_nil))))))) sc__law_each_bent.nd)
  (ss_one (s_for (i_seq (e_var 7)) (g_name 8 sc__law_each_bent.nd)
  (ss_one (s_append 2 (e_tup (a_cons (e_var 0) (a_cons (e_val (o_call G__law_with (hr.mono (by decide : 1 ≤ 1)) (takes_of rfl rfl rfl rfl) (a_cons (e_var 1) (a_cons (e_var 3) (a_cons (e_op add_data (e_op add_data (e_sl (e_var 4) p_none (p_some (e_var 5))) (e_tup (a_cons (e_var 8) a_nil))) (e_sl (e_var 4) (p_some (e_op add_data (e_var 5) e_int)) p_none)) a_nil))) (hnm := (aCons_len (aCons_len (aCons_len aNil_len)))))) a_nil))))) (passes_of rfl)))) (passes_of rfl))) (passes_of rfl))
  (ss_one (s_ret (o_take 2)))))
abbrev s__law_bent : Stmt := topS 40
abbrev N__law_bent : List Str := ["_law_pen_here", "_law_form", "_law_names", "_law_many", "_law_a", "_law_b", "_law_lap", "_law_moved", "_law_turned_names", "_law_found", "_law_thing", "_law_odd", "_law_name", "_law_k"]
theorem sc__law_bent : FnScope N__law_bent ["_law_pen_here", "_law_form", "_law_names"] (defScope s__law_bent) := ⟨rfl, rfl, rfl, by decide +kernel, rfl, by decide +kernel, by decide +kernel⟩
noncomputable def b__law_bent : M Fl := (sSeq (sSet 3 (nry (one lenD) (aCons (getS 2) aNil)))
  (sSeq (sSet 4 (frzM (cCallI 0 m__law_draw (aCons (getS 3) aNil))))
  (sSeq (sSet 5 (frzM (cCallI 0 m__law_draw (aCons (getS 3) aNil))))
  (sSeq (sSet 6 (frzM (cCallI 0 m__law_draw (aCons (M.ret (.int 16)) aNil))))
  (sSeq (sSet 7 (frzM (oComp (iSeq (getS 2)) [12] (gN 12) yes (frzM (cCall m__law_sum (aCons (getS 1) (aCons (getS 12) (aCons (bin ixD (getS 2) (getS 4)) aNil))))))))
  (sSeq (sSet 8 (frzM (oComp (iSeq (getS 2)) [12] (gN 12) yes (nry (one tupD) (aCons (frzM (oComp (iBy rng1 (aCons (nry (one lenD) (aCons (getS 1) aNil)) aNil)) [13] (gN 13) yes (bin modD (bin mulD (getS 6) (bin ixD (getS 12) (getS 13))) (bin ixD (getS 1) (getS 13))))) aNil)))))
  (sSeq (sSetO 9 (oLst (aCons (eTup (aCons (getS 1) (aCons (frzM (cCall m__law_with (aCons (frzM (cCall m__law_with (aCons (getS 2) (aCons (getS 4) (aCons (bin ixD (getS 2) (getS 5)) aNil))))) (aCons (getS 5) (aCons (bin ixD (getS 2) (getS 4)) aNil))))) aNil))) (aCons (eTup (aCons (getS 1) (aCons (getS 7) aNil))) (aCons (eTup (aCons (getS 1) (aCons (getS 8) aNil))) aNil)))))
  (sSeq (frz 9 (sSetO 9 (binO addO (getS 9) (frzM (oLst (aCons (eTup (aCons (getS 1) (aCons (frzM (cCall m__law_with (aCons (getS 2) (aCons (getS 4) (aCons (bin ixD (getS 2) (getS 5)) aNil))))) aNil))) (aCons (eTup (aCons (getS 1) (aCons (una revD (getS 2)) aNil))) (aCons (eTup (aCons (getS 1) (aCons (eSl (getS 2) pNone (pSome (una negD (M.ret (.int 1))))) aNil))) aNil))))))))
  (sSeq (sAppend 9 (eTup (aCons (getS 1) (aCons (bin addD (getS 2) (eSl (getS 2) pNone (pSome (M.ret (.int 1))))) aNil))))
  (sSeq (frz 9 (sSetO 9 (binO addO (getS 9) (frzM (oLst (aCons (eTup (aCons (getS 1) (aCons (nry (one tupD) (aCons (getS 2) aNil)) aNil))) (aCons (frzM (oLst (aCons (getS 1) (aCons (getS 2) aNil)))) (aCons (eTup (aCons (getS 1) (aCons (getS 2) (aCons (M.ret (.int 1)) aNil)))) (aCons (eTup (aCons (getS 1) aNil)) (aCons (eTup (aCons (frzM (nryO listD (aCons (getS 1) aNil))) (aCons (getS 2) aNil))) (aCons (eTup (aCons (getS 2) (aCons (getS 1) aNil))) aNil)))))))))))
  (sSeq (frz 9 (sSetO 9 (binO addO (getS 9) (frzM (oLst (aCons (eTup (aCons (eTup (aCons (getS 3) aNil)) (aCons (frzM (oComp (iBy rng1 (aCons (getS 3) aNil)) [13] (gN 13) yes (eTup (aCons (getS 13) aNil)))) aNil))) (aCons (eTup (aCons (bin addD (eTup (aCons (M.ret (.int 1)) aNil)) (getS 1)) (aCons (frzM (oComp (iSeq (getS 2)) [12] (gN 12) yes (bin addD (eTup (aCons (M.ret (.int 0)) aNil)) (getS 12)))) aNil))) aNil)))))))
  (sSeq (frz 9 (sSetO 9 (binO addO (getS 9) (frzM (oLst (aCons (eTup (aCons (una revD (getS 1)) (aCons (frzM (oComp (iSeq (getS 2)) [12] (gN 12) yes (una revD (getS 12)))) aNil))) (aCons (eTup (aCons (bin addD (getS 1) (eTup (aCons (M.ret (.int 2)) aNil))) (aCons (frzM (oComp (iSeq (getS 2)) [12] (gN 12) yes (bin addD (getS 12) (eTup (aCons (M.ret (.int 0)) aNil))))) aNil))) aNil)))))))
  (sSeq (frz 9 (sSetO 9 (binO addO (getS 9) (frzM (oComp (iSeq (eTup (aCons (M.ret .none) (aCons (M.ret (.int 7)) (aCons (frzM (oLst aNil)) (aCons (frzM (nryO listD (aCons (bin ixD (getS 2) (getS 4)) aNil))) (aCons (bin addD (bin ixD (getS 2) (getS 4)) (eTup (aCons (M.ret (.int 0)) aNil))) aNil))))))) [10] (gN 10) yes (eTup (aCons (getS 1) (aCons (frzM (cCall m__law_with (aCons (getS 2) (aCons (getS 4) (aCons (getS 10) aNil))))) aNil))))))))
  (sSeq (sFor (iSeq (eTup (aCons (M.ret (.str "2")) (aCons (M.ret .none) (aCons (frzM (oLst (aCons (M.ret (.int 2)) aNil))) (aCons (M.ret (.bool true)) (aCons (M.ret (.dict [])) (aCons (eTup (aCons (M.ret (.int 2)) aNil)) (aCons (M.ret (.int 0)) (aCons (una negD (M.ret (.int 2))) aNil)))))))))) (gN 10)
  (frz 9 (sSetO 9 (binO addO (getS 9) (frzM (oLst (aCons (eTup (aCons (eTup (aCons (getS 10) aNil)) (aCons (getS 2) aNil))) (aCons (eTup (aCons (bin addD (getS 1) (eTup (aCons (getS 10) aNil))) (aCons (getS 2) aNil))) (aCons (eTup (aCons (bin addD (eTup (aCons (getS 10) aNil)) (eSl (getS 1) (pSome (M.ret (.int 1))) pNone)) (aCons (getS 2) aNil))) aNil)))))))))
  (sSeq (sSet 11 (frzM (oLst (aCons (frzD (oDictI (aCons (frzM (oComp (iBy rng1 (aCons (getS 3) aNil)) [13] (gN 13) yes (eTup (aCons (getS 13) (aCons (bin ixD (getS 2) (getS 13)) aNil))))) aNil))) (aCons (frzT (oDictP (aCons (frzM (oComp (iSeq (getS 2)) [12] (gN 12) yes (eTup (aCons (getS 12) (aCons (M.ret (.int 0)) aNil))))) aNil))) (aCons (nry (one reprZ) (aCons (getS 2) aNil)) aNil))))))
  (sSeq (frz 9 (sSetO 9 (binO addO (bin addD (getS 9) (frzM (oComp (iSeq (getS 11)) [10] (gN 10) yes (eTup (aCons (getS 1) (aCons (getS 10) aNil)))))) (frzM (oLst (aCons (eTup (aCons (M.ret .none) (aCons (getS 2) aNil))) (aCons (eTup (aCons (getS 2) (aCons (getS 2) aNil))) (aCons (eTup (aCons (M.ret (.dict [])) (aCons (getS 2) aNil))) aNil))))))))
  (frz 9 (sRet (binO addO (getS 9) (frzM (oLst (aCons (eTup (aCons (getS 1) (aCons (frzM (oLst aNil)) aNil))) (aCons (eTup (aCons (getS 1) (aCons (M.ret .none) aNil))) (aCons (eTup (aCons (eTup aNil) (aCons (frzM (oLst (aCons (eTup aNil) aNil))) aNil))) (aCons (M.ret .none) (aCons (M.ret (.int 7)) (aCons (eTup aNil) (aCons (M.ret (.str "")) (aCons (eTup (aCons (eTup aNil) (aCons (frzM (oLst aNil)) aNil))) aNil)))))))))))))))))))))))))))))
noncomputable def m__law_bent : List Sl → Re RV := fnOf 14 b__law_bent
theorem ok__law_bent {f : Addr} {fd : FuncData} (Fu : FnP K "_law_bent" s__law_bent f fd) (B : Bz K w mg) (NS : SeerK P base) (G__law_draw : Fn P w K mg base 1 "_law_draw" 2 m__law_draw) (G__law_sum : Fn P w K mg base 1 "_law_sum" 3 m__law_sum) (G__law_with : Fn P w K mg base 1 "_law_with" 3 m__law_with) : FnG P w K mg base 2 f fd ["_law_pen_here", "_law_form", "_law_names"] (spG K mg 3 m__law_bent) :=
  mk_fn Fu sc__law_bent fun cdv A outer s H E hr =>
  (ss_cons (s_set (i := 3) (e_callB len_data B.b_len (a_cons (e_var 2) a_nil)) sc__law_bent.nd)
  (ss_cons (s_set (i := 4) (e_val (o_callI 0 G__law_draw (hr.mono (by decide : 1 ≤ 1)) (takes_of rfl rfl rfl rfl) (a_cons (e_var 3) a_nil) (fun r ds r' h => congrArg Nat.succ ((aCons_len aNil_len) r ds r' h)))) sc__law_bent.nd)
  (ss_cons (s_set (i := 5) (e_val (o_callI 0 G__law_draw (hr.mono (by decide : 1 ≤ 1)) (takes_of rfl rfl rfl rfl) (a_cons (e_var 3) a_nil) (fun r ds r' h => congrArg Nat.succ ((aCons_len aNil_len) r ds r' h)))) sc__law_bent.nd)
  (ss_cons (s_set (i := 6) (e_val (o_callI 0 G__law_draw (hr.mono (by decide : 1 ≤ 1)) (takes_of rfl rfl rfl rfl) (a_cons e_int a_nil) (fun r ds r' h => congrArg Nat.succ ((aCons_len aNil_len) r ds r' h)))) sc__law_bent.nd)
  (ss_cons (s_setLcV (i := 7) (own := [("_law_name", 12)]) (i_seq (e_var 2)) (blkOk_by (show blkC N__law_bent (defScope s__law_bent) _ [("_law_name", 12)] = true from by decide +kernel)) (fun _ _ _ _ _ => (g_name 12 sc__law_bent.nd)) (fun _ _ _ _ _ => ts_nil) (fun _ _ _ _ _ => (e_val (o_call G__law_sum (hr.mono (by decide : 1 ≤ 1)) takes0 (a_cons (e_var 1) (a_cons (e_var 12) (a_cons (e_ix ix_data (e_var 2) (e_var 4)) a_nil))) (hnm := (aCons_len (aCons_len (aCons_len aNil_len))))))) sc__law_bent.nd)
  (ss_cons (s_setLcV (i := 8) (own := [("_law_name", 12)]) (i_seq (e_var 2)) (blkOk_by (show blkC N__law_bent (defScope s__law_bent) _ [("_law_name", 12)] = true from by decide +kernel)) (fun _ _ _ _ _ => (g_name 12 sc__law_bent.nd)) (fun _ _ _ _ _ => ts_nil) (fun _ _ _ _ _ => (e_callT tup_data B.b_tuple (a_cons (e_val (o_lc (own := [("_law_k", 13)]) (i_rng1 (a_cons (e_callB len_data B.b_len (a_cons (e_var 1) a_nil)) a_nil) B.b_range) (blkOk_by (by rfl)) (fun _ _ _ _ _ => (g_name 13 sc__law_bent.nd)) (fun _ _ _ _ _ => ts_nil) (fun _ _ _ _ _ => (e_op mod_data (e_op mul_data (e_var 6) (e_ix ix_data (e_var 12) (e_var 13))) (e_ix ix_data (e_var 1) (e_var 13)))) sc__law_bent.nd)) a_nil))) sc__law_bent.nd)
  (ss_cons (s_setO (i := 9) (o_lst (a_cons (e_tup (a_cons (e_var 1) (a_cons (e_val (o_call G__law_with (hr.mono (by decide : 1 ≤ 1)) (takes_of rfl rfl rfl rfl) (a_cons (e_val (o_call G__law_with (hr.mono (by decide : 1 ≤ 1)) (takes_of rfl rfl rfl rfl) (a_cons (e_var 2) (a_cons (e_var 4) (a_cons (e_ix ix_data (e_var 2) (e_var 5)) a_nil))) (hnm := (aCons_len (aCons_len (aCons_len aNil_len)))))) (a_cons (e_var 5) (a_cons (e_ix ix_data (e_var 2) (e_var 4)) a_nil))) (hnm := (aCons_len (aCons_len (aCons_len aNil_len)))))) a_nil))) (a_cons (e_tup (a_cons (e_var 1) (a_cons (e_var 7) a_nil))) (a_cons (e_tup (a_cons (e_var 1) (a_cons (e_var 8) a_nil))) a_nil)))) sc__law_bent.nd)
  (ss_cons (s_frz 9 (s_setO (i := 9) (o_add (e_var 9) (e_val (o_lst (a_cons (e_tup (a_cons (e_var 1) (a_cons (e_val (o_call G__law_with (hr.mono (by decide : 1 ≤ 1)) (takes_of rfl rfl rfl rfl) (a_cons (e_var 2) (a_cons (e_var 4) (a_cons (e_ix ix_data (e_var 2) (e_var 5)) a_nil))) (hnm := (aCons_len (aCons_len (aCons_len aNil_len)))))) a_nil))) (a_cons (e_tup (a_cons (e_var 1) (a_cons (e_rev (e_var 2)) a_nil))) (a_cons (e_tup (a_cons (e_var 1) (a_cons (e_sl (e_var 2) p_none (p_some (e_un neg_data e_int))) a_nil))) a_nil)))))) sc__law_bent.nd))
  (ss_cons (s_append 9 (e_tup (a_cons (e_var 1) (a_cons (e_op add_data (e_var 2) (e_sl (e_var 2) p_none (p_some e_int))) a_nil))))
  (ss_cons (s_frz 9 (s_setO (i := 9) (o_add (e_var 9) (e_val (o_lst (a_cons (e_tup (a_cons (e_var 1) (a_cons (e_callT tup_data B.b_tuple (a_cons (e_var 2) a_nil)) a_nil))) (a_cons (e_val (o_lst (a_cons (e_var 1) (a_cons (e_var 2) a_nil)))) (a_cons (e_tup (a_cons (e_var 1) (a_cons (e_var 2) (a_cons e_int a_nil)))) (a_cons (e_tup (a_cons (e_var 1) a_nil)) (a_cons (e_tup (a_cons (e_val (o_callT list_data B.b_list (a_cons (e_var 1) a_nil))) (a_cons (e_var 2) a_nil))) (a_cons (e_tup (a_cons (e_var 2) (a_cons (e_var 1) a_nil))) a_nil))))))))) sc__law_bent.nd))
  (ss_cons (s_frz 9 (s_setO (i := 9) (o_add (e_var 9) (e_val (o_lst (a_cons (e_tup (a_cons (e_tup (a_cons (e_var 3) a_nil)) (a_cons (e_val (o_lc (own := [("_law_k", 13)]) (i_rng1 (a_cons (e_var 3) a_nil) B.b_range) (blkOk_by (show blkC N__law_bent (defScope s__law_bent) _ [("_law_k", 13)] = true from by decide +kernel)) (fun _ _ _ _ _ => (g_name 13 sc__law_bent.nd)) (fun _ _ _ _ _ => ts_nil) (fun _ _ _ _ _ => (e_tup (a_cons (e_var 13) a_nil))) sc__law_bent.nd)) a_nil))) (a_cons (e_tup (a_cons (e_op add_data (e_tup (a_cons e_int a_nil)) (e_var 1)) (a_cons (e_val (o_lc (own := [("_law_name", 12)]) (i_seq (e_var 2)) (blkOk_by (show blkC N__law_bent (defScope s__law_bent) _ [("_law_name", 12)] = true from by decide +kernel)) (fun _ _ _ _ _ => (g_name 12 sc__law_bent.nd)) (fun _ _ _ _ _ => ts_nil) (fun _ _ _ _ _ => (e_op add_data (e_tup (a_cons e_int a_nil)) (e_var 12))) sc__law_bent.nd)) a_nil))) a_nil))))) sc__law_bent.nd))
  (ss_cons (s_frz 9 (s_setO (i := 9) (o_add (e_var 9) (e_val (o_lst (a_cons (e_tup (a_cons (e_rev (e_var 1)) (a_cons (e_val (o_lc (own := [("_law_name", 12)]) (i_seq (e_var 2)) (blkOk_by (show blkC N__law_bent (defScope s__law_bent) _ [("_law_name", 12)] = true from by decide +kernel)) (fun _ _ _ _ _ => (g_name 12 sc__law_bent.nd)) (fun _ _ _ _ _ => ts_nil) (fun _ _ _ _ _ => (e_rev (e_var 12))) sc__law_bent.nd)) a_nil))) (a_cons (e_tup (a_cons (e_op add_data (e_var 1) (e_tup (a_cons e_int a_nil))) (a_cons (e_val (o_lc (own := [("_law_name", 12)]) (i_seq (e_var 2)) (blkOk_by (show blkC N__law_bent (defScope s__law_bent) _ [("_law_name", 12)] = true from by decide +kernel)) (fun _ _ _ _ _ => (g_name 12 sc__law_bent.nd)) (fun _ _ _ _ _ => ts_nil) (fun _ _ _ _ _ => (e_op add_data (e_var 12) (e_tup (a_cons e_int a_nil)))) sc__law_bent.nd)) a_nil))) a_nil))))) sc__law_bent.nd))
  (ss_cons (s_frz 9 (s_setO (i := 9) (o_add (e_var 9) (e_val (o_lc (own := [("_law_thing", 10)]) (i_seq (e_tup (a_cons e_non (a_cons e_int (a_cons (e_val (o_lst a_nil)) (a_cons (e_val (o_callT list_data B.b_list (a_cons (e_ix ix_data (e_var 2) (e_var 4)) a_nil))) (a_cons (e_op add_data (e_ix ix_data (e_var 2) (e_var 4)) (e_tup (a_cons e_int a_nil))) a_nil))))))) (blkOk_by (show blkC N__law_bent (defScope s__law_bent) _ [("_law_thing", 10)] = true from by decide +kernel)) (fun _ _ _ _ _ => (g_name 10 sc__law_bent.nd)) (fun _ _ _ _ _ => ts_nil) (fun _ _ _ _ _ => (e_tup (a_cons (e_var 1) (a_cons (e_val (o_call G__law_with (hr.mono (by decide : 1 ≤ 1)) takes0 (a_cons (e_var 2) (a_cons (e_var 4) (a_cons (e_var 10) a_nil))) (hnm := (aCons_len (aCons_len (aCons_len aNil_len)))))) a_nil)))) sc__law_bent.nd))) sc__law_bent.nd))
  (ss_cons (s_for (i_seq (e_tup (a_cons e_str (a_cons e_non (a_cons (e_val (o_lst (a_cons e_int a_nil))) (a_cons e_bl (a_cons e_dict0 (a_cons (e_tup (a_cons e_int a_nil)) (a_cons e_int (a_cons (e_un neg_data e_int) a_nil)))))))))) (g_name 10 sc__law_bent.nd)
  (ss_one (s_frz 9 (s_setO (i := 9) (o_add (e_var 9) (e_val (o_lst (a_cons (e_tup (a_cons (e_tup (a_cons (e_var 10) a_nil)) (a_cons (e_var 2) a_nil))) (a_cons (e_tup (a_cons (e_op add_data (e_var 1) (e_tup (a_cons (e_var 10) a_nil))) (a_cons (e_var 2) a_nil))) (a_cons (e_tup (a_cons (e_op add_data (e_tup (a_cons (e_var 10) a_nil)) (e_sl (e_var 1) (p_some e_int) p_none)) (a_cons (e_var 2) a_nil))) a_nil)))))) sc__law_bent.nd))) (passes_of rfl))
  (ss_cons (s_set (i := 11) (e_val (o_lst (a_cons (e_frzD (o_dictI B.b_dict (a_cons (e_val (o_lc (own := [("_law_k", 13)]) (i_rng1 (a_cons (e_var 3) a_nil) B.b_range) (blkOk_by (show blkC N__law_bent (defScope s__law_bent) _ [("_law_k", 13)] = true from by decide +kernel)) (fun _ _ _ _ _ => (g_name 13 sc__law_bent.nd)) (fun _ _ _ _ _ => ts_nil) (fun _ _ _ _ _ => (e_tup (a_cons (e_var 13) (a_cons (e_ix ix_data (e_var 2) (e_var 13)) a_nil)))) sc__law_bent.nd)) a_nil))) (a_cons (e_frzT (o_dictP B.b_dict (a_cons (e_val (o_lc (own := [("_law_name", 12)]) (i_seq (e_var 2)) (blkOk_by (show blkC N__law_bent (defScope s__law_bent) _ [("_law_name", 12)] = true from by decide +kernel)) (fun _ _ _ _ _ => (g_name 12 sc__law_bent.nd)) (fun _ _ _ _ _ => ts_nil) (fun _ _ _ _ _ => (e_tup (a_cons (e_var 12) (a_cons e_int a_nil)))) sc__law_bent.nd)) a_nil) hr.in3)) (a_cons (e_callB (reprZ_data hr) B.b_repr (a_cons (e_var 2) a_nil)) a_nil))))) sc__law_bent.nd)
  (ss_cons (s_frz 9 (s_setO (i := 9) (o_add (e_op add_data (e_var 9) (e_val (o_lc (own := [("_law_thing", 10)]) (i_seq (e_var 11)) (blkOk_by (show blkC N__law_bent (defScope s__law_bent) _ [("_law_thing", 10)] = true from by decide +kernel)) (fun _ _ _ _ _ => (g_name 10 sc__law_bent.nd)) (fun _ _ _ _ _ => ts_nil) (fun _ _ _ _ _ => (e_tup (a_cons (e_var 1) (a_cons (e_var 10) a_nil)))) sc__law_bent.nd))) (e_val (o_lst (a_cons (e_tup (a_cons e_non (a_cons (e_var 2) a_nil))) (a_cons (e_tup (a_cons (e_var 2) (a_cons (e_var 2) a_nil))) (a_cons (e_tup (a_cons e_dict0 (a_cons (e_var 2) a_nil))) a_nil)))))) sc__law_bent.nd))
  (ss_one (s_frz 9 (s_ret (o_add (e_var 9) (e_val (o_lst (a_cons (e_tup (a_cons (e_var 1) (a_cons (e_val (o_lst a_nil)) a_nil))) (a_cons (e_tup (a_cons (e_var 1) (a_cons e_non a_nil))) (a_cons (e_tup (a_cons (e_tup a_nil) (a_cons (e_val (o_lst (a_cons (e_tup a_nil) a_nil))) a_nil))) (a_cons e_non (a_cons e_int (a_cons (e_tup a_nil) (a_cons e_str (a_cons (e_tup (a_cons (e_tup a_nil) (a_cons (e_val (o_lst a_nil)) a_nil))) a_nil))))))))))))))))))))))))))))))
abbrev s_need_things : Stmt := topS 10
abbrev N_need_things : List Str := ["house", "some", "one"]
theorem sc_need_things : FnScope N_need_things ["house", "some"] (defScope s_need_things) := ⟨rfl, rfl, rfl, by decide +kernel, rfl, by decide +kernel, by decide +kernel⟩
noncomputable def b_need_things : M Fl := (sFor (iSeq (getS 1)) (gN 2)
  (sIf (tNotM (tTru (frzM (cCall m_is_thing (aCons (getS 0) (aCons (getS 2) aNil))))))
  sNever
  sNil))
noncomputable def m_need_things : List Sl → Re RV := fnOf 3 b_need_things
theorem ok_need_things {f : Addr} {fd : FuncData} (Fu : FnP K "need_things" s_need_things f fd) (B : Bz K w mg) (NS : SeerK P base) (G_is_thing : Fn P w K mg base 2 "is_thing" 2 m_is_thing) : FnG P w K mg base 3 f fd ["house", "some"] (spG K mg 2 m_need_things) :=
  mk_fn Fu sc_need_things fun cdv A outer s H E hr =>
  (ss_one (s_for (i_seq (e_var 1)) (g_name 2 sc_need_things.nd)
  (ss_one (s_if (t_not (t_tru (e_val (o_call G_is_thing (hr.mono (by decide : 2 ≤ 2)) (takes_of rfl rfl rfl rfl) (a_cons (e_var 0) (a_cons (e_var 2) a_nil)) (hnm := (aCons_len (aCons_len aNil_len)))))))
  (ss_one s_never)
  ss_nil)) (passes_of rfl)))
abbrev s_lets_table : Stmt := topS 20
abbrev N_lets_table : List Str := ["thing", "zero", "a", "row"]
theorem sc_lets_table : FnScope N_lets_table ["thing"] (defScope s_lets_table) := ⟨rfl, rfl, rfl, by decide +kernel, rfl, by decide +kernel, by decide +kernel⟩
noncomputable def b_lets_table : M Fl := (sSeq (sIf (tNotM (tTru (frzM (cCall m_is_square (aCons (getS 0) aNil)))))
  sNever
  sNil)
  (sSeq (sSet 1 (frzM (cCall m_nought_number (aCons (getS 0) aNil))))
  (sSeq (sIf (tBool (bin isD (getS 1) (M.ret .none)))
  sNever
  sNil)
  (sSeq (sDropO (cCall m_need_pairs (aCons (getS 0) aNil)))
  (sSeq (sDropO (cCall m_need_triples (aCons (getS 0) aNil)))
  (sSeq (sFor (iBy enOf (aCons (getS 0) aNil)) (gT (gCn (gN 2) (gCn (gN 3) gNl)))
  (sIf (tBool (bin ninD (getS 1) (getS 3)))
  sNever
  sNil))
  (sRet ((M.ret (.bool true)).bind fun d => M.ret (.v d)))))))))
noncomputable def m_lets_table : List Sl → Re RV := fnOf 4 b_lets_table
theorem ok_lets_table {f : Addr} {fd : FuncData} (Fu : FnP K "lets_table" s_lets_table f fd) (B : Bz K w mg) (NS : SeerK P base) (G_is_square : Fn P w K mg base 2 "is_square" 1 m_is_square) (G_nought_number : Fn P w K mg base 1 "nought_number" 1 m_nought_number) (G_need_pairs : Fn P w K mg base 1 "need_pairs" 1 m_need_pairs) (G_need_triples : Fn P w K mg base 1 "need_triples" 1 m_need_triples) : FnG P w K mg base 3 f fd ["thing"] (spG K mg 1 m_lets_table) :=
  mk_fn Fu sc_lets_table fun cdv A outer s H E hr =>
  (ss_cons (s_if (t_not (t_tru (e_val (o_call G_is_square (hr.mono (by decide : 2 ≤ 2)) (takes_of rfl rfl rfl rfl) (a_cons (e_var 0) a_nil) (hnm := (aCons_len aNil_len))))))
  (ss_one s_never)
  ss_nil)
  (ss_cons (s_set (i := 1) (e_val (o_call G_nought_number (hr.mono (by decide : 1 ≤ 2)) (takes_of rfl rfl rfl rfl) (a_cons (e_var 0) a_nil) (hnm := (aCons_len aNil_len)))) sc_lets_table.nd)
  (ss_cons (s_if (t_cmp is_data (e_var 1) e_non)
  (ss_one s_never)
  ss_nil)
  (ss_cons (s_exprO (o_call G_need_pairs (hr.mono (by decide : 1 ≤ 2)) (takes_of rfl rfl rfl rfl) (a_cons (e_var 0) a_nil) (hnm := (aCons_len aNil_len))))
  (ss_cons (s_exprO (o_call G_need_triples (hr.mono (by decide : 1 ≤ 2)) (takes_of rfl rfl rfl rfl) (a_cons (e_var 0) a_nil) (hnm := (aCons_len aNil_len))))
  (ss_cons (s_for (i_enum (a_cons (e_var 0) a_nil) B.b_enumerate) (g_tup (g_cons (g_name 2 sc_lets_table.nd) (g_cons (g_name 3 sc_lets_table.nd) g_nil)) (gCn_len (gCn_len gNl_len)))
  (ss_one (s_if (t_cmp (nin_data hr.in65) (e_var 1) (e_var 3))
  (ss_one s_never)
  ss_nil)) (passes_of rfl))
  (ss_one (s_ret (o_val e_bl)))))))))
abbrev s_maker_of : Stmt := topS 24
abbrev N_maker_of : List Str := ["table", "have", "turns", "many", "a", "goal", "zero", "b"]
theorem sc_maker_of : FnScope N_maker_of ["table", "have"] (defScope s_maker_of) := ⟨rfl, rfl, rfl, by decide +kernel, rfl, by decide +kernel, by decide +kernel⟩
noncomputable def b_maker_of : M Fl := (sSeq (sSet 2 (frzM (oComp (iBy rng1 (aCons (nry (one lenD) (aCons (getS 0) aNil)) aNil)) [4] (gN 4) yes (frzM (cCall m_outer_turn (aCons (getS 0) (aCons (getS 1) (aCons (getS 4) aNil))))))))
  (sSeq (sSet 3 (nry (one maxL) (aCons (getS 2) aNil)))
  (sSeq (sSet 4 (eIndex (getS 2) (getS 3)))
  (sSeq (sSet 5 (frzM (cCall m_so_often (aCons (getS 0) (aCons (getS 3) (aCons (getS 4) aNil))))))
  (sSeq (sSet 6 (frzM (cCall m_nought_number (aCons (getS 0) aNil))))
  (sSeq (sFor (iKeysK (getS 1)) (gN 7)
  (sIf (tBool (bin eqD (frzM (cCall m_so_often (aCons (getS 0) (aCons (getS 3) (aCons (getS 7) aNil))))) (getS 5)))
  (sRet ((eTup (aCons (bin ixD (bin ixD (getS 0) (getS 4)) (eIndex (bin ixD (getS 0) (getS 7)) (getS 6))) (aCons (getS 3) aNil))).bind fun d => M.ret (.v d)))
  sNil))
  (sRet ((eTup (aCons (getS 6) (aCons (M.ret (.int 1)) aNil))).bind fun d => M.ret (.v d)))))))))
noncomputable def m_maker_of : List Sl → Re RV := fnOf 8 b_maker_of
theorem ok_maker_of {f : Addr} {fd : FuncData} (Fu : FnP K "maker_of" s_maker_of f fd) (B : Bz K w mg) (NS : SeerK P base) (G_outer_turn : Fn P w K mg base 1 "outer_turn" 3 m_outer_turn) (G_so_often : Fn P w K mg base 2 "so_often" 3 m_so_often) (G_nought_number : Fn P w K mg base 1 "nought_number" 1 m_nought_number) : FnG P w K mg base 3 f fd ["table", "have"] (spG K mg 2 m_maker_of) :=
  mk_fn Fu sc_maker_of fun cdv A outer s H E hr =>
  (ss_cons (s_setLcV (i := 2) (own := [("a", 4)]) (i_rng1 (a_cons (e_callB len_data B.b_len (a_cons (e_var 0) a_nil)) a_nil) B.b_range) (blkOk_by (show blkC N_maker_of (defScope s_maker_of) _ [("a", 4)] = true from by decide +kernel)) (fun _ _ _ _ _ => (g_name 4 sc_maker_of.nd)) (fun _ _ _ _ _ => ts_nil) (fun _ _ _ _ _ => (e_val (o_call G_outer_turn (hr.mono (by decide : 1 ≤ 2)) takes0 (a_cons (e_var 0) (a_cons (e_var 1) (a_cons (e_var 4) a_nil))) (hnm := (aCons_len (aCons_len (aCons_len aNil_len))))))) sc_maker_of.nd)
  (ss_cons (s_set (i := 3) (e_callB (maxL_data hr.in65) B.b_max (a_cons (e_var 2) a_nil)) sc_maker_of.nd)
  (ss_cons (s_set (i := 4) (e_index (e_var 2) (e_var 3) hr) sc_maker_of.nd)
  (ss_cons (s_set (i := 5) (e_val (o_call G_so_often (hr.mono (by decide : 2 ≤ 2)) (takes_of rfl rfl rfl rfl) (a_cons (e_var 0) (a_cons (e_var 3) (a_cons (e_var 4) a_nil))) (hnm := (aCons_len (aCons_len (aCons_len aNil_len)))))) sc_maker_of.nd)
  (ss_cons (s_set (i := 6) (e_val (o_call G_nought_number (hr.mono (by decide : 1 ≤ 2)) (takes_of rfl rfl rfl rfl) (a_cons (e_var 0) a_nil) (hnm := (aCons_len aNil_len)))) sc_maker_of.nd)
  (ss_cons (s_for (i_keysK (e_var 1)) (g_name 7 sc_maker_of.nd)
  (ss_one (s_if (t_cmp (eq_data hr.units) (e_val (o_call G_so_often (hr.mono (by decide : 2 ≤ 2)) (takes_of rfl rfl rfl rfl) (a_cons (e_var 0) (a_cons (e_var 3) (a_cons (e_var 7) a_nil))) (hnm := (aCons_len (aCons_len (aCons_len aNil_len)))))) (e_var 5))
  (ss_one (s_ret (o_val (e_tup (a_cons (e_ix ix_data (e_ix ix_data (e_var 0) (e_var 4)) (e_index (e_ix ix_data (e_var 0) (e_var 7)) (e_var 6) hr)) (a_cons (e_var 3) a_nil))))))
  ss_nil)) (passes_of rfl))
  (ss_one (s_ret (o_val (e_tup (a_cons (e_var 6) (a_cons e_int a_nil))))))))))))
abbrev s_is_form : Stmt := topS 26
abbrev N_is_form : List Str := ["thing", "at", "one"]
theorem sc_is_form : FnScope N_is_form ["thing"] (defScope s_is_form) := ⟨rfl, rfl, rfl, by decide +kernel, rfl, by decide +kernel, by decide +kernel⟩
noncomputable def b_is_form : M Fl := (sSeq (sIf (tNotM (tTru (frzM (cCall m_is_house (aCons (getS 0) aNil)))))
  (sRet ((M.ret (.bool false)).bind fun d => M.ret (.v d)))
  sNil)
  (sSeq (sFor (iBy enOf (aCons (getS 0) aNil)) (gT (gCn (gN 1) (gCn (gN 2) gNl)))
  (sIf (tOrM (tBool (bin ltD (getS 2) (M.ret (.int 2)))) (tAndM (tBool (bin gtD (getS 1) (M.ret (.int 0)))) (tBool (bin neD (bin modD (getS 2) (bin ixD (getS 0) (bin subD (getS 1) (M.ret (.int 1))))) (M.ret (.int 0))))))
  (sRet ((M.ret (.bool false)).bind fun d => M.ret (.v d)))
  sNil))
  (sRet ((M.ret (.bool true)).bind fun d => M.ret (.v d)))))
noncomputable def m_is_form : List Sl → Re RV := fnOf 3 b_is_form
theorem ok_is_form {f : Addr} {fd : FuncData} (Fu : FnP K "is_form" s_is_form f fd) (B : Bz K w mg) (NS : SeerK P base) (G_is_house : Fn P w K mg base 2 "is_house" 1 m_is_house) : FnG P w K mg base 3 f fd ["thing"] (spG K mg 1 m_is_form) :=
  mk_fn Fu sc_is_form fun cdv A outer s H E hr =>
  (ss_cons (s_if (t_not (t_tru (e_val (o_call G_is_house (hr.mono (by decide : 2 ≤ 2)) (takes_of rfl rfl rfl rfl) (a_cons (e_var 0) a_nil) (hnm := (aCons_len aNil_len))))))
  (ss_one (s_ret (o_val e_bl)))
  ss_nil)
  (ss_cons (s_for (i_enum (a_cons (e_var 0) a_nil) B.b_enumerate) (g_tup (g_cons (g_name 1 sc_is_form.nd) (g_cons (g_name 2 sc_is_form.nd) g_nil)) (gCn_len (gCn_len gNl_len)))
  (ss_one (s_if (PW.pt (w_or (t_cmp lt_data (e_var 2) e_int) (w_or1 (PW.pt (w_and (t_cmp gt_data (e_var 1) e_int) (w_and1 (t_cmp (ne_data hr.units) (e_op mod_data (e_var 2) (e_ix ix_data (e_var 0) (e_op sub_data (e_var 1) e_int))) e_int)))))))
  (ss_one (s_ret (o_val e_bl)))
  ss_nil)) (passes_of rfl))
  (ss_one (s_ret (o_val e_bl)))))
abbrev s_plus : Stmt := topS 12
abbrev N_plus : List Str := ["house", "a", "b", "at"]
theorem sc_plus : FnScope N_plus ["house", "a", "b"] (defScope s_plus) := ⟨rfl, rfl, rfl, by decide +kernel, rfl, by decide +kernel, by decide +kernel⟩
noncomputable def b_plus : M Fl := (sSeq (sDropO (cCall m_need_things (aCons (getS 0) (aCons (frzM (oLst (aCons (getS 1) (aCons (getS 2) aNil)))) aNil))))
  (sRet (cCall m_by_rounds (aCons (getS 0) (aCons (frzM (oComp (iBy rng1 (aCons (nry (one lenD) (aCons (getS 0) aNil)) aNil)) [3] (gN 3) yes (bin addD (bin ixD (getS 1) (getS 3)) (bin ixD (getS 2) (getS 3))))) aNil)))))
noncomputable def m_plus : List Sl → Re RV := fnOf 4 b_plus
theorem ok_plus {f : Addr} {fd : FuncData} (Fu : FnP K "plus" s_plus f fd) (B : Bz K w mg) (NS : SeerK P base) (G_need_things : Fn P w K mg base 3 "need_things" 2 m_need_things) (G_by_rounds : Fn P w K mg base 1 "by_rounds" 2 m_by_rounds) : FnG P w K mg base 4 f fd ["house", "a", "b"] (spG K mg 3 m_plus) :=
  mk_fn Fu sc_plus fun cdv A outer s H E hr =>
  (ss_cons (s_exprO (o_call G_need_things (hr.mono (by decide : 3 ≤ 3)) (takes_of rfl rfl rfl rfl) (a_cons (e_var 0) (a_cons (e_val (o_lst (a_cons (e_var 1) (a_cons (e_var 2) a_nil)))) a_nil)) (hnm := (aCons_len (aCons_len aNil_len)))))
  (ss_one (s_ret (o_call G_by_rounds (hr.mono (by decide : 1 ≤ 3)) (takes_of rfl rfl rfl rfl) (a_cons (e_var 0) (a_cons (e_val (o_lc (own := [("at", 3)]) (i_rng1 (a_cons (e_callB len_data B.b_len (a_cons (e_var 0) a_nil)) a_nil) B.b_range) (blkOk_by (show blkC N_plus (defScope s_plus) _ [("at", 3)] = true from by decide +kernel)) (fun _ _ _ _ _ => (g_name 3 sc_plus.nd)) (fun _ _ _ _ _ => ts_nil) (fun _ _ _ _ _ => (e_op add_data (e_ix ix_data (e_var 1) (e_var 3)) (e_ix ix_data (e_var 2) (e_var 3)))) sc_plus.nd)) a_nil)) (hnm := (aCons_len (aCons_len aNil_len)))))))
abbrev s_names_of : Stmt := topS 25
abbrev N_names_of : List Str := ["table", "have", "rounds", "maker", "many", "more", "number", "name", "here", "often"]
theorem sc_names_of : FnScope N_names_of ["table"] (defScope s_names_of) := ⟨rfl, rfl, rfl, by decide +kernel, rfl, by decide +kernel, by decide +kernel⟩
noncomputable def b_names_of : M Fl := (sSeq (sDropO (cCall m_lets_table (aCons (getS 0) aNil)))
  (sSeq (sSet 1 (frzD (oDict [((frzM (cCall m_nought_number (aCons (getS 0) aNil))), (eTup aNil))])))
  (sSeq (sSet 2 (eTup aNil))
  (sSeq (sWhile (tBool (bin ltD (nry (one lenK) (aCons (getS 1) aNil)) (nry (one lenD) (aCons (getS 0) aNil))))
  (sSeq (sAsg (gT (gCn (gN 3) (gCn (gN 4) gNl))) (frzM (cCall m_maker_of (aCons (getS 0) (aCons (getS 1) aNil)))))
  (sSeq (sSetO 5 oDict0)
  (sSeq (sFor (iItemsK (getS 1)) (gT (gCn (gN 6) (gCn (gN 7) gNl)))
  (sSeq (sSet 8 (getS 6))
  (sFor (iBy rng1 (aCons (getS 4) aNil)) (gN 9)
  (sSeq (sPut' 5 (getS 8) (bin addD (eTup (aCons (getS 9) aNil)) (getS 7)))
  (sSet 8 (bin ixD (bin ixD (getS 0) (getS 8)) (getS 3)))))))
  (sSeq (sSet 1 (frzD (takeS 5)))
  (sSet 2 (bin addD (eTup (aCons (getS 4) aNil)) (getS 2))))))))
  (sRet ((eTup (aCons (getS 2) (aCons (frzM (oComp (iBy rng1 (aCons (nry (one lenD) (aCons (getS 0) aNil)) aNil)) [6] (gN 6) yes (bin ixKD (getS 1) (getS 6)))) aNil))).bind fun d => M.ret (.v d)))))))
noncomputable def m_names_of : List Sl → Re RV := fnOf 10 b_names_of
theorem ok_names_of {f : Addr} {fd : FuncData} (Fu : FnP K "names_of" s_names_of f fd) (B : Bz K w mg) (NS : SeerK P base) (G_lets_table : Fn P w K mg base 3 "lets_table" 1 m_lets_table) (G_nought_number : Fn P w K mg base 1 "nought_number" 1 m_nought_number) (G_maker_of : Fn P w K mg base 3 "maker_of" 2 m_maker_of) : FnG P w K mg base 4 f fd ["table"] (spG K mg 1 m_names_of) :=
  mk_fn Fu sc_names_of fun cdv A outer s H E hr =>
  (ss_cons (s_exprO (o_call G_lets_table (hr.mono (by decide : 3 ≤ 3)) (takes_of rfl rfl rfl rfl) (a_cons (e_var 0) a_nil) (hnm := (aCons_len aNil_len))))
  (ss_cons (s_set (i := 1) (e_frzD (o_dict (l := [((frzM (cCall m_nought_number (aCons (getS 0) aNil))), (eTup aNil))]) (pps_cons (e_val (o_call G_nought_number (hr.mono (by decide : 1 ≤ 3)) (takes_of rfl rfl rfl rfl) (a_cons (e_var 0) a_nil) (hnm := (aCons_len aNil_len)))) (e_tup a_nil) pps_nil))) sc_names_of.nd)
  (ss_cons (s_set (i := 2) (e_tup a_nil) sc_names_of.nd)
  (ss_cons (s_while (t_cmp lt_data (e_callB lenK_data B.b_len (a_cons (e_var 1) a_nil)) (e_callB len_data B.b_len (a_cons (e_var 0) a_nil)))
  (ss_cons (s_asg (e_val (o_call G_maker_of (hr.mono (by decide : 3 ≤ 3)) (takes_of rfl rfl rfl rfl) (a_cons (e_var 0) (a_cons (e_var 1) a_nil)) (hnm := (aCons_len (aCons_len aNil_len))))) (g_tup (g_cons (g_name 3 sc_names_of.nd) (g_cons (g_name 4 sc_names_of.nd) g_nil)) (gCn_len (gCn_len gNl_len))))
  (ss_cons (s_setO (i := 5) o_dict0 sc_names_of.nd)
  (ss_cons (s_for (i_itemsK (e_var 1)) (g_tup (g_cons (g_name 6 sc_names_of.nd) (g_cons (g_name 7 sc_names_of.nd) g_nil)) (gCn_len (gCn_len gNl_len)))
  (ss_cons (s_set (i := 8) (e_var 6) sc_names_of.nd)
  (ss_one (s_for (i_rng1 (a_cons (e_var 4) a_nil) B.b_range) (g_name 9 sc_names_of.nd)
  (ss_cons (s_put 5 (e_var 8) (e_op add_data (e_tup (a_cons (e_var 9) a_nil)) (e_var 7)) hr.u1)
  (ss_one (s_set (i := 8) (e_ix ix_data (e_ix ix_data (e_var 0) (e_var 8)) (e_var 3)) sc_names_of.nd))) (passes_of rfl)))) (passes_of rfl))
  (ss_cons (s_set (i := 1) (e_frzD (o_take 5)) sc_names_of.nd)
  (ss_one (s_set (i := 2) (e_op add_data (e_tup (a_cons (e_var 4) a_nil)) (e_var 2)) sc_names_of.nd)))))) (passes_of rfl))
  (ss_one (s_ret (o_val (e_tup (a_cons (e_var 2) (a_cons (e_val (o_lc (own := [("number", 6)]) (i_rng1 (a_cons (e_callB len_data B.b_len (a_cons (e_var 0) a_nil)) a_nil) B.b_range) (blkOk_by (show blkC N_names_of (defScope s_names_of) _ [("number", 6)] = true from by decide +kernel)) (fun _ _ _ _ _ => (g_name 6 sc_names_of.nd)) (fun _ _ _ _ _ => ts_nil) (fun _ _ _ _ _ => (e_ixK2 (e_var 1) (e_var 6) hr.u1)) sc_names_of.nd)) a_nil))))))))))
abbrev s_lets_names : Stmt := topS 27
abbrev N_lets_names : List Str := ["table", "thing", "form", "names", "a", "row", "b", "number", "name"]
theorem sc_lets_names : FnScope N_lets_names ["table", "thing"] (defScope s_lets_names) := ⟨rfl, rfl, rfl, by decide +kernel, rfl, by decide +kernel, by decide +kernel⟩
noncomputable def b_lets_names : M Fl := (sSeq (sIf (tOrM (tNotM (tTru (una (isiD "tuple") (getS 1)))) (tBool (bin neD (nry (one lenD) (aCons (getS 1) aNil)) (M.ret (.int 2)))))
  (sRet ((M.ret (.bool false)).bind fun d => M.ret (.v d)))
  sNil)
  (sSeq (sAsg (gT (gCn (gN 2) (gCn (gN 3) gNl))) (getS 1))
  (sSeq (sIf (tOrM (tNotM (tTru (frzM (cCall m_is_form (aCons (getS 2) aNil))))) (tBool (bin neD (frzM (cCall m_size (aCons (getS 2) aNil))) (nry (one lenD) (aCons (getS 0) aNil)))))
  (sRet ((M.ret (.bool false)).bind fun d => M.ret (.v d)))
  sNil)
  (sSeq (sIf (tOrM (tNotM (tTru (una (isiD "list") (getS 3)))) (tBool (bin neD (nry (one lenD) (aCons (getS 3) aNil)) (nry (one lenD) (aCons (getS 0) aNil)))))
  (sRet ((M.ret (.bool false)).bind fun d => M.ret (.v d)))
  sNil)
  (sSeq (sIf (tOrM (tNotM (tTru (nry (one allD) (aCons (frzM (oComp (iSeq (getS 3)) [8] (gN 8) yes (frzM (cCall m_is_thing (aCons (getS 2) (aCons (getS 8) aNil)))))) aNil)))) (tBool (bin neD (una lsetTD (getS 3)) (nry (one lenD) (aCons (getS 3) aNil)))))
  (sRet ((M.ret (.bool false)).bind fun d => M.ret (.v d)))
  sNil)
  (sSeq (sFor (iBy enOf (aCons (getS 0) aNil)) (gT (gCn (gN 4) (gCn (gN 5) gNl)))
  (sFor (iBy enOf (aCons (getS 5) aNil)) (gT (gCn (gN 6) (gCn (gN 7) gNl)))
  (sIf (tBool (bin neD (frzM (cCall m_plus (aCons (getS 2) (aCons (bin ixD (getS 3) (getS 4)) (aCons (bin ixD (getS 3) (getS 6)) aNil))))) (bin ixD (getS 3) (getS 7))))
  (sRet ((M.ret (.bool false)).bind fun d => M.ret (.v d)))
  sNil)))
  (sRet ((M.ret (.bool true)).bind fun d => M.ret (.v d)))))))))
noncomputable def m_lets_names : List Sl → Re RV := fnOf 9 b_lets_names
theorem ok_lets_names {f : Addr} {fd : FuncData} (Fu : FnP K "lets_names" s_lets_names f fd) (B : Bz K w mg) (NS : SeerK P base) (G_is_form : Fn P w K mg base 3 "is_form" 1 m_is_form) (G_size : Fn P w K mg base 1 "size" 1 m_size) (G_is_thing : Fn P w K mg base 2 "is_thing" 2 m_is_thing) (G_plus : Fn P w K mg base 4 "plus" 3 m_plus) : FnG P w K mg base 5 f fd ["table", "thing"] (spG K mg 2 m_lets_names) :=
  mk_fn Fu sc_lets_names fun cdv A outer s H E hr =>
  (ss_cons (s_if (PW.pt (w_or (t_not (t_tru (e_isi (T := "tuple") (e_var 1) B.b_isinstance B.b_tuple))) (w_or1 (t_cmp (ne_data hr.units) (e_callB len_data B.b_len (a_cons (e_var 1) a_nil)) e_int))))
  (ss_one (s_ret (o_val e_bl)))
  ss_nil)
  (ss_cons (s_asg (e_var 1) (g_tup (g_cons (g_name 2 sc_lets_names.nd) (g_cons (g_name 3 sc_lets_names.nd) g_nil)) (gCn_len (gCn_len gNl_len))))
  (ss_cons (s_if (PW.pt (w_or (t_not (t_tru (e_val (o_call G_is_form (hr.mono (by decide : 3 ≤ 4)) (takes_of rfl rfl rfl rfl) (a_cons (e_var 2) a_nil) (hnm := (aCons_len aNil_len)))))) (w_or1 (t_cmp (ne_data hr.units) (e_val (o_call G_size (hr.mono (by decide : 1 ≤ 4)) (takes_of rfl rfl rfl rfl) (a_cons (e_var 2) a_nil) (hnm := (aCons_len aNil_len)))) (e_callB len_data B.b_len (a_cons (e_var 0) a_nil))))))
  (ss_one (s_ret (o_val e_bl)))
  ss_nil)
  (ss_cons (s_if (PW.pt (w_or (t_not (t_tru (e_isi (T := "list") (e_var 3) B.b_isinstance B.b_list))) (w_or1 (t_cmp (ne_data hr.units) (e_callB len_data B.b_len (a_cons (e_var 3) a_nil)) (e_callB len_data B.b_len (a_cons (e_var 0) a_nil))))))
  (ss_one (s_ret (o_val e_bl)))
  ss_nil)
  (ss_cons (s_if (PW.pt (w_or (t_not (t_tru (e_callB all_data B.b_all (a_cons (e_val (o_lc (own := [("name", 8)]) (i_seq (e_var 3)) (blkOk_by (show blkC N_lets_names (defScope s_lets_names) _ [("name", 8)] = true from by decide +kernel)) (fun _ _ _ _ _ => (g_name 8 sc_lets_names.nd)) (fun _ _ _ _ _ => ts_nil) (fun _ _ _ _ _ => (e_val (o_call G_is_thing (hr.mono (by decide : 2 ≤ 4)) takes0 (a_cons (e_var 2) (a_cons (e_var 8) a_nil)) (hnm := (aCons_len (aCons_len aNil_len)))))) sc_lets_names.nd)) a_nil)))) (w_or1 (t_cmp (ne_data hr.units) (e_lsetT B.b_len B.b_set (e_var 3) hr.units) (e_callB len_data B.b_len (a_cons (e_var 3) a_nil))))))
  (ss_one (s_ret (o_val e_bl)))
  ss_nil)
  (ss_cons (s_for (i_enum (a_cons (e_var 0) a_nil) B.b_enumerate) (g_tup (g_cons (g_name 4 sc_lets_names.nd) (g_cons (g_name 5 sc_lets_names.nd) g_nil)) (gCn_len (gCn_len gNl_len)))
  (ss_one (s_for (i_enum (a_cons (e_var 5) a_nil) B.b_enumerate) (g_tup (g_cons (g_name 6 sc_lets_names.nd) (g_cons (g_name 7 sc_lets_names.nd) g_nil)) (gCn_len (gCn_len gNl_len)))
  (ss_one (s_if (t_cmp (ne_data hr.units) (e_val (o_call G_plus (hr.mono (by decide : 4 ≤ 4)) (takes_of rfl rfl rfl rfl) (a_cons (e_var 2) (a_cons (e_ix ix_data (e_var 3) (e_var 4)) (a_cons (e_ix ix_data (e_var 3) (e_var 6)) a_nil))) (hnm := (aCons_len (aCons_len (aCons_len aNil_len)))))) (e_ix ix_data (e_var 3) (e_var 7)))
  (ss_one (s_ret (o_val e_bl)))
  ss_nil)) (passes_of rfl))) (passes_of rfl))
  (ss_one (s_ret (o_val e_bl)))))))))
abbrev s_law : Stmt := topS 41
abbrev N_law : List Str := ["_law_script", "_law_pen_here", "_law_house_here", "_law_some", "_law_table_here", "_law_form", "_law_names", "_law_things_here", "_law_k", "_law_kept", "_law_thing", "_law_held", "_law_told"]
theorem sc_law : FnScope N_law ["_law_script"] (defScope s_law) := ⟨rfl, rfl, rfl, by decide +kernel, rfl, by decide +kernel, by decide +kernel⟩
noncomputable def b_law : M Fl := (sSeq (sSetO 1 (cCall m__law_pen (aCons (getS 0) aNil)))
  (sSeq (sSet 2 (frzM (cCallI 1 m__law_house aNil)))
  (sSeq (sSet 3 (frzM (cCallI 1 m__law_mixed_things (aCons (getS 2) aNil))))
  (sSeq (sSet 4 (frzM (cCall m__law_table (aCons (getS 2) (aCons (getS 3) aNil)))))
  (sSeq (sAsg (gT (gCn (gN 5) (gCn (gN 6) gNl))) (frzM (cCall m_names_of (aCons (getS 4) aNil))))
  (sSeq (sSet 7 (bin addD (frzM (oLst (aCons (eTup (aCons (getS 5) (aCons (getS 6) aNil))) (aCons (eTup (aCons (getS 2) (aCons (getS 3) aNil))) aNil)))) (frzM (cCall m__law_each_bent (aCons (getS 5) (aCons (getS 6) aNil))))))
  (sSeq (sFor (iBy rng1 (aCons (M.ret (.int 2)) aNil)) (gN 8)
  (sSet 7 (bin addD (getS 7) (frzM (cCallI 1 m__law_bent (aCons (getS 5) (aCons (getS 6) aNil)))))))
  (sSeq (sSet 9 (nry (one reprZ) (aCons (getS 4) aNil)))
  (sSeq (sFor (iSeq (getS 7)) (gN 10)
  (sSeq (sSet 11 (nry (one reprZ) (aCons (getS 10) aNil)))
  (sSeq (sSet 12 (frzM (cCall m_lets_names (aCons (getS 4) (aCons (getS 10) aNil)))))
  (sSeq (sIf (tOrM (tNotM (tTru (una (isiD "bool") (getS 12)))) (tBool (bin neD (getS 12) (frzM (cCall m__law_is_named (aCons (getS 4) (aCons (getS 10) aNil)))))))
  (sRet ((M.ret (.bool false)).bind fun d => M.ret (.v d)))
  sNil)
  (sIf (tOrM (tBool (bin neD (nry (one reprZ) (aCons (getS 10) aNil)) (getS 11))) (tBool (bin neD (nry (one reprZ) (aCons (getS 4) aNil)) (getS 9))))
  (sRet ((M.ret (.bool false)).bind fun d => M.ret (.v d)))
  sNil)))))
  (sRet ((eAnd (bin isD (frzM (cCall m_lets_names (aCons (getS 4) (aCons (eTup (aCons (getS 5) (aCons (getS 6) aNil))) aNil)))) (M.ret (.bool true))) (bin eqD (frzM (cCall m_lets_names (aCons (getS 4) (aCons (eTup (aCons (getS 2) (aCons (getS 3) aNil))) aNil)))) (frzM (cCall m__law_is_form (aCons (getS 2) aNil))))).bind fun d => M.ret (.v d))))))))))))
noncomputable def m_law : List Sl → Re RV := fnOf 13 b_law
theorem ok_law {f : Addr} {fd : FuncData} (Fu : FnP K "law" s_law f fd) (B : Bz K w mg) (NS : SeerK P base) (G__law_pen : Fn P w K mg base 1 "_law_pen" 1 m__law_pen) (G__law_house : Fn P w K mg base 2 "_law_house" 1 m__law_house) (G__law_mixed_things : Fn P w K mg base 2 "_law_mixed_things" 2 m__law_mixed_things) (G__law_table : Fn P w K mg base 2 "_law_table" 2 m__law_table) (G_names_of : Fn P w K mg base 4 "names_of" 1 m_names_of) (G__law_each_bent : Fn P w K mg base 2 "_law_each_bent" 2 m__law_each_bent) (G__law_bent : Fn P w K mg base 2 "_law_bent" 3 m__law_bent) (G_lets_names : Fn P w K mg base 5 "lets_names" 2 m_lets_names) (G__law_is_named : Fn P w K mg base 2 "_law_is_named" 2 m__law_is_named) (G__law_is_form : Fn P w K mg base 1 "_law_is_form" 1 m__law_is_form) : FnG P w K mg base 6 f fd ["_law_script"] (spG K mg 1 m_law) :=
  mk_fn Fu sc_law fun cdv A outer s H E hr =>
  (ss_cons (s_setO (i := 1) (o_call G__law_pen (hr.mono (by decide : 1 ≤ 5)) (takes_of rfl rfl rfl rfl) (a_cons (e_var 0) a_nil) (hnm := (aCons_len aNil_len))) sc_law.nd)
  (ss_cons (s_set (i := 2) (e_val (o_callI 1 G__law_house (hr.mono (by decide : 2 ≤ 5)) (takes_of rfl rfl rfl rfl) a_nil (fun r ds r' h => congrArg Nat.succ (aNil_len r ds r' h)))) sc_law.nd)
  (ss_cons (s_set (i := 3) (e_val (o_callI 1 G__law_mixed_things (hr.mono (by decide : 2 ≤ 5)) (takes_of rfl rfl rfl rfl) (a_cons (e_var 2) a_nil) (fun r ds r' h => congrArg Nat.succ ((aCons_len aNil_len) r ds r' h)))) sc_law.nd)
  (ss_cons (s_set (i := 4) (e_val (o_call G__law_table (hr.mono (by decide : 2 ≤ 5)) (takes_of rfl rfl rfl rfl) (a_cons (e_var 2) (a_cons (e_var 3) a_nil)) (hnm := (aCons_len (aCons_len aNil_len))))) sc_law.nd)
  (ss_cons (s_asg (e_val (o_call G_names_of (hr.mono (by decide : 4 ≤ 5)) (takes_of rfl rfl rfl rfl) (a_cons (e_var 4) a_nil) (hnm := (aCons_len aNil_len)))) (g_tup (g_cons (g_name 5 sc_law.nd) (g_cons (g_name 6 sc_law.nd) g_nil)) (gCn_len (gCn_len gNl_len))))
  (ss_cons (s_set (i := 7) (e_op add_data (e_val (o_lst (a_cons (e_tup (a_cons (e_var 5) (a_cons (e_var 6) a_nil))) (a_cons (e_tup (a_cons (e_var 2) (a_cons (e_var 3) a_nil))) a_nil)))) (e_val (o_call G__law_each_bent (hr.mono (by decide : 2 ≤ 5)) (takes_of rfl rfl rfl rfl) (a_cons (e_var 5) (a_cons (e_var 6) a_nil)) (hnm := (aCons_len (aCons_len aNil_len)))))) sc_law.nd)
  (ss_cons (s_for (i_rng1 (a_cons e_int a_nil) B.b_range) (g_name 8 sc_law.nd)
  (ss_one (s_set (i := 7) (e_op add_data (e_var 7) (e_val (o_callI 1 G__law_bent (hr.mono (by decide : 2 ≤ 5)) (takes_of rfl rfl rfl rfl) (a_cons (e_var 5) (a_cons (e_var 6) a_nil)) (fun r ds r' h => congrArg Nat.succ ((aCons_len (aCons_len aNil_len)) r ds r' h))))) sc_law.nd)) (passes_of rfl))
  (ss_cons (s_set (i := 9) (e_callB (reprZ_data hr) B.b_repr (a_cons (e_var 4) a_nil)) sc_law.nd)
  (ss_cons (s_for (i_seq (e_var 7)) (g_name 10 sc_law.nd)
  (ss_cons (s_set (i := 11) (e_callB (reprZ_data hr) B.b_repr (a_cons (e_var 10) a_nil)) sc_law.nd)
  (ss_cons (s_set (i := 12) (e_val (o_call G_lets_names (hr.mono (by decide : 5 ≤ 5)) (takes_of rfl rfl rfl rfl) (a_cons (e_var 4) (a_cons (e_var 10) a_nil)) (hnm := (aCons_len (aCons_len aNil_len))))) sc_law.nd)
  (ss_cons (s_if (PW.pt (w_or (t_not (t_tru (e_isi (T := "bool") (e_var 12) B.b_isinstance B.b_bool))) (w_or1 (t_cmp (ne_data hr.units) (e_var 12) (e_val (o_call G__law_is_named (hr.mono (by decide : 2 ≤ 5)) (takes_of rfl rfl rfl rfl) (a_cons (e_var 4) (a_cons (e_var 10) a_nil)) (hnm := (aCons_len (aCons_len aNil_len)))))))))
  (ss_one (s_ret (o_val e_bl)))
  ss_nil)
  (ss_one (s_if (PW.pt (w_or (t_cmp (ne_data hr.units) (e_callB (reprZ_data hr) B.b_repr (a_cons (e_var 10) a_nil)) (e_var 11)) (w_or1 (t_cmp (ne_data hr.units) (e_callB (reprZ_data hr) B.b_repr (a_cons (e_var 4) a_nil)) (e_var 9)))))
  (ss_one (s_ret (o_val e_bl)))
  ss_nil))))) (passes_of rfl))
  (ss_one (s_ret (o_val (e_and (e_cmp is_data (e_val (o_call G_lets_names (hr.mono (by decide : 5 ≤ 5)) (takes_of rfl rfl rfl rfl) (a_cons (e_var 4) (a_cons (e_tup (a_cons (e_var 5) (a_cons (e_var 6) a_nil))) a_nil)) (hnm := (aCons_len (aCons_len aNil_len))))) e_bl) (e_one (e_cmp (eq_data hr.units) (e_val (o_call G_lets_names (hr.mono (by decide : 5 ≤ 5)) (takes_of rfl rfl rfl rfl) (a_cons (e_var 4) (a_cons (e_tup (a_cons (e_var 2) (a_cons (e_var 3) a_nil))) a_nil)) (hnm := (aCons_len (aCons_len aNil_len))))) (e_val (o_call G__law_is_form (hr.mono (by decide : 1 ≤ 5)) (takes_of rfl rfl rfl rfl) (a_cons (e_var 2) a_nil) (hnm := (aCons_len aNil_len)))))))))))))))))))
end
/-! ### the head -/
def d_is_whole : He.DefD := ⟨("is_whole", none), "is_whole", "is_whole", defArgs s_is_whole, defBody s_is_whole, defScope s_is_whole, [], []⟩
def d_by_rounds : He.DefD := ⟨("by_rounds", none), "by_rounds", "by_rounds", defArgs s_by_rounds, defBody s_by_rounds, defScope s_by_rounds, [], []⟩
def d_size : He.DefD := ⟨("size", none), "size", "size", defArgs s_size, defBody s_size, defScope s_size, [], []⟩
def d_nought_number : He.DefD := ⟨("nought_number", none), "nought_number", "nought_number", defArgs s_nought_number, defBody s_nought_number, defScope s_nought_number, [], []⟩
def d_need_pairs : He.DefD := ⟨("need_pairs", none), "need_pairs", "need_pairs", defArgs s_need_pairs, defBody s_need_pairs, defScope s_need_pairs, [], []⟩
def d_need_triples : He.DefD := ⟨("need_triples", none), "need_triples", "need_triples", defArgs s_need_triples, defBody s_need_triples, defScope s_need_triples, [], []⟩
def d_outer_turn : He.DefD := ⟨("outer_turn", none), "outer_turn", "outer_turn", defArgs s_outer_turn, defBody s_outer_turn, defScope s_outer_turn, [], []⟩
def d__law_pen : He.DefD := ⟨("_law_pen", none), "_law_pen", "_law_pen", defArgs s__law_pen, defBody s__law_pen, defScope s__law_pen, [], []⟩
def d__law_draw : He.DefD := ⟨("_law_draw", none), "_law_draw", "_law_draw", defArgs s__law_draw, defBody s__law_draw, defScope s__law_draw, [], []⟩
def d__law_things : He.DefD := ⟨("_law_things", none), "_law_things", "_law_things", defArgs s__law_things, defBody s__law_things, defScope s__law_things, [], []⟩
def d__law_sum : He.DefD := ⟨("_law_sum", none), "_law_sum", "_law_sum", defArgs s__law_sum, defBody s__law_sum, defScope s__law_sum, [], []⟩
def d__law_is_form : He.DefD := ⟨("_law_is_form", none), "_law_is_form", "_law_is_form", defArgs s__law_is_form, defBody s__law_is_form, defScope s__law_is_form, [], []⟩
def d__law_with : He.DefD := ⟨("_law_with", none), "_law_with", "_law_with", defArgs s__law_with, defBody s__law_with, defScope s__law_with, [], []⟩
def d_is_house : He.DefD := ⟨("is_house", none), "is_house", "is_house", defArgs s_is_house, defBody s_is_house, defScope s_is_house, [], []⟩
def d_is_thing : He.DefD := ⟨("is_thing", none), "is_thing", "is_thing", defArgs s_is_thing, defBody s_is_thing, defScope s_is_thing, [], []⟩
def d_is_square : He.DefD := ⟨("is_square", none), "is_square", "is_square", defArgs s_is_square, defBody s_is_square, defScope s_is_square, [], []⟩
def d_so_often : He.DefD := ⟨("so_often", none), "so_often", "so_often", defArgs s_so_often, defBody s_so_often, defScope s_so_often, [], []⟩
def d__law_house : He.DefD := ⟨("_law_house", none), "_law_house", "_law_house", defArgs s__law_house, defBody s__law_house, defScope s__law_house, [], []⟩
def d__law_mixed_things : He.DefD := ⟨("_law_mixed_things", none), "_law_mixed_things", "_law_mixed_things", defArgs s__law_mixed_things, defBody s__law_mixed_things, defScope s__law_mixed_things, [], []⟩
def d__law_table : He.DefD := ⟨("_law_table", none), "_law_table", "_law_table", defArgs s__law_table, defBody s__law_table, defScope s__law_table, [], []⟩
def d__law_is_named : He.DefD := ⟨("_law_is_named", none), "_law_is_named", "_law_is_named", defArgs s__law_is_named, defBody s__law_is_named, defScope s__law_is_named, [], []⟩
def d__law_each_bent : He.DefD := ⟨("_law_each_bent", none), "_law_each_bent", "_law_each_bent", defArgs s__law_each_bent, defBody s__law_each_bent, defScope s__law_each_bent, [], []⟩
def d__law_bent : He.DefD := ⟨("_law_bent", none), "_law_bent", "_law_bent", defArgs s__law_bent, defBody s__law_bent, defScope s__law_bent, [], []⟩
def d_need_things : He.DefD := ⟨("need_things", none), "need_things", "need_things", defArgs s_need_things, defBody s_need_things, defScope s_need_things, [], []⟩
def d_lets_table : He.DefD := ⟨("lets_table", none), "lets_table", "lets_table", defArgs s_lets_table, defBody s_lets_table, defScope s_lets_table, [], []⟩
def d_maker_of : He.DefD := ⟨("maker_of", none), "maker_of", "maker_of", defArgs s_maker_of, defBody s_maker_of, defScope s_maker_of, [], []⟩
def d_is_form : He.DefD := ⟨("is_form", none), "is_form", "is_form", defArgs s_is_form, defBody s_is_form, defScope s_is_form, [], []⟩
def d_plus : He.DefD := ⟨("plus", none), "plus", "plus", defArgs s_plus, defBody s_plus, defScope s_plus, [], []⟩
def d_names_of : He.DefD := ⟨("names_of", none), "names_of", "names_of", defArgs s_names_of, defBody s_names_of, defScope s_names_of, [], []⟩
def d_lets_names : He.DefD := ⟨("lets_names", none), "lets_names", "lets_names", defArgs s_lets_names, defBody s_lets_names, defScope s_lets_names, [], []⟩
def d_law : He.DefD := ⟨("law", none), "law", "law", defArgs s_law, defBody s_law, defScope s_law, [], []⟩
def fn : List He.DefD := [d_is_whole, d_by_rounds, d_size, d_nought_number, d_need_pairs, d_need_triples, d_outer_turn, d__law_pen, d__law_draw, d__law_things, d__law_sum, d__law_is_form, d__law_with, d_is_house, d_is_thing, d_is_square, d_so_often, d__law_house, d__law_mixed_things, d__law_table, d__law_is_named, d__law_each_bent, d__law_bent, d_need_things, d_lets_table, d_maker_of, d_is_form, d_plus, d_names_of, d_lets_names, d_law]
def fa : List He.Fa := [.glo "is_whole", .glo "by_rounds", .glo "size", .glo "nought_number", .glo "need_pairs", .glo "need_triples", .glo "outer_turn", .glo "_law_pen", .glo "_law_draw", .glo "_law_things", .glo "_law_sum", .glo "_law_is_form", .glo "_law_with", .glo "is_house", .glo "is_thing", .glo "is_square", .glo "so_often", .glo "_law_house", .glo "_law_mixed_things", .glo "_law_table", .glo "_law_is_named", .glo "_law_each_bent", .glo "_law_bent", .glo "need_things", .glo "lets_table", .glo "maker_of", .glo "is_form", .glo "plus", .glo "names_of", .glo "lets_names", .glo "law", .free "isinstance", .free "int", .free "bool", .free "enumerate", .free "tuple", .free "len", .free "range", .free "all", .free "abs", .free "max", .free "list", .free "repr", .free "sorted", .free "dict", .free "set", .int "MOST_ROUNDS" 6, .int "MOST_ROWS" 16]
abbrev R : PySem.W.OpenRow := PySem.W.OpenLaw.row PySem.Challenge.rw_commonhouse_k74_names_looked_at
abbrev hk : PySem.W.Hook := hookL 5 fa fn (fun _ => true) ln
def ob (s : PySem.W.SharedT) : AlB := obsLG 5 fa fn (fun _ => true) ln (HandSHeadRun.getT s)
theorem ob_eq (s : PySem.W.SharedT) : ob s = hk.obs s.abs := obsLG_eq (HandSHeadRun.getT_eq s)
abbrev lo0 : List Str := ["is_whole", "is_house", "is_thing", "need_things", "by_rounds", "plus", "size", "is_square", "nought_number", "need_pairs", "need_triples", "lets_table", "so_often", "outer_turn", "maker_of", "names_of", "is_form", "lets_names", "_law_pen", "_law_draw", "_law_house", "_law_things", "_law_sum", "_law_mixed_things", "_law_table", "_law_is_named", "_law_is_form", "_law_with", "_law_each_bent", "_law_bent"]
abbrev lo1 : List Str := ["MOST_ROUNDS", "MOST_ROWS", "HouseError", "NoThing", "NoTable"]
abbrev lo : List Str := lo0 ++ lo1
theorem run (w : World) : HandSHeadRun.RunEq R (PySem.W.view R.prog [41]) hk ob 27200 lo w := by
  intro os
  kernel_rfl
theorem facts {P : Program} {w : World} {K : PySem.W.Frag} {h : Heap} {mg : Str → Option Value} {f : Addr} (X : K.In h) (G : h.Ns mainGlobals mg) (hfa : mg ("law" : Str) = some (.ref f)) (hP : P.given.tree = none) (c0 : SaysB fa fn (fun _ => true) K) (l : LamOk ln K h) :
    ∃ fd : FuncData, (∀ (s : Shared) (v : Value), BindsTo s fd ⟨[v], []⟩ [("_law_script", v)]) ∧ ∀ base : Heap, K.In base → base.Ns mainGlobals mg → base.NoSeer → (∀ p ∈ csN ln K, LamX.TabB base mg p.1 p.2) → FnG P w K mg base 6 f fd ["_law_script"] (spG K mg 1 m_law) := by
  have c := c0.1
  obtain ⟨fd_is_whole, F_is_whole⟩ := c.def_ 0 (d := d_is_whole) rfl
  obtain ⟨fd_by_rounds, F_by_rounds⟩ := c.def_ 1 (d := d_by_rounds) rfl
  obtain ⟨fd_size, F_size⟩ := c.def_ 2 (d := d_size) rfl
  obtain ⟨fd_nought_number, F_nought_number⟩ := c.def_ 3 (d := d_nought_number) rfl
  obtain ⟨fd_need_pairs, F_need_pairs⟩ := c.def_ 4 (d := d_need_pairs) rfl
  obtain ⟨fd_need_triples, F_need_triples⟩ := c.def_ 5 (d := d_need_triples) rfl
  obtain ⟨fd_outer_turn, F_outer_turn⟩ := c.def_ 6 (d := d_outer_turn) rfl
  obtain ⟨fd__law_pen, F__law_pen⟩ := c.def_ 7 (d := d__law_pen) rfl
  obtain ⟨fd__law_draw, F__law_draw⟩ := c.def_ 8 (d := d__law_draw) rfl
  obtain ⟨fd__law_things, F__law_things⟩ := c.def_ 9 (d := d__law_things) rfl
  obtain ⟨fd__law_sum, F__law_sum⟩ := c.def_ 10 (d := d__law_sum) rfl
  obtain ⟨fd__law_is_form, F__law_is_form⟩ := c.def_ 11 (d := d__law_is_form) rfl
  obtain ⟨fd__law_with, F__law_with⟩ := c.def_ 12 (d := d__law_with) rfl
  obtain ⟨fd_is_house, F_is_house⟩ := c.def_ 13 (d := d_is_house) rfl
  obtain ⟨fd_is_thing, F_is_thing⟩ := c.def_ 14 (d := d_is_thing) rfl
  obtain ⟨fd_is_square, F_is_square⟩ := c.def_ 15 (d := d_is_square) rfl
  obtain ⟨fd_so_often, F_so_often⟩ := c.def_ 16 (d := d_so_often) rfl
  obtain ⟨fd__law_house, F__law_house⟩ := c.def_ 17 (d := d__law_house) rfl
  obtain ⟨fd__law_mixed_things, F__law_mixed_things⟩ := c.def_ 18 (d := d__law_mixed_things) rfl
  obtain ⟨fd__law_table, F__law_table⟩ := c.def_ 19 (d := d__law_table) rfl
  obtain ⟨fd__law_is_named, F__law_is_named⟩ := c.def_ 20 (d := d__law_is_named) rfl
  obtain ⟨fd__law_each_bent, F__law_each_bent⟩ := c.def_ 21 (d := d__law_each_bent) rfl
  obtain ⟨fd__law_bent, F__law_bent⟩ := c.def_ 22 (d := d__law_bent) rfl
  obtain ⟨fd_need_things, F_need_things⟩ := c.def_ 23 (d := d_need_things) rfl
  obtain ⟨fd_lets_table, F_lets_table⟩ := c.def_ 24 (d := d_lets_table) rfl
  obtain ⟨fd_maker_of, F_maker_of⟩ := c.def_ 25 (d := d_maker_of) rfl
  obtain ⟨fd_is_form, F_is_form⟩ := c.def_ 26 (d := d_is_form) rfl
  obtain ⟨fd_plus, F_plus⟩ := c.def_ 27 (d := d_plus) rfl
  obtain ⟨fd_names_of, F_names_of⟩ := c.def_ 28 (d := d_names_of) rfl
  obtain ⟨fd_lets_names, F_lets_names⟩ := c.def_ 29 (d := d_lets_names) rfl
  obtain ⟨fd_law, F_law⟩ := c.def_ 30 (d := d_law) rfl
  have e := hfa.symm.trans (He.glo_ok X G (c.fact 30 (f := .glo "law") rfl))
  cases e
  have b := FunD.bindsA (ps := ["_law_script"]) F_law fun _ _ _ _ _ _ us hl => match us, hl with | [_], _ => rfl
  have B : Bz K w mg := ⟨He.free_ok X G (c.fact 31 (f := .free "isinstance") rfl), He.free_ok X G (c.fact 32 (f := .free "int") rfl), He.free_ok X G (c.fact 33 (f := .free "bool") rfl), He.free_ok X G (c.fact 34 (f := .free "enumerate") rfl), He.free_ok X G (c.fact 35 (f := .free "tuple") rfl), He.free_ok X G (c.fact 36 (f := .free "len") rfl), He.free_ok X G (c.fact 37 (f := .free "range") rfl), He.free_ok X G (c.fact 38 (f := .free "all") rfl), He.free_ok X G (c.fact 39 (f := .free "abs") rfl), He.free_ok X G (c.fact 40 (f := .free "max") rfl), He.free_ok X G (c.fact 41 (f := .free "list") rfl), He.free_ok X G (c.fact 42 (f := .free "repr") rfl), He.free_ok X G (c.fact 43 (f := .free "sorted") rfl), He.free_ok X G (c.fact 44 (f := .free "dict") rfl), He.free_ok X G (c.fact 45 (f := .free "set") rfl), He.int_ok X G (c.fact 46 (f := .int "MOST_ROUNDS" 6) rfl), He.int_ok X G (c.fact 47 (f := .int "MOST_ROWS" 16) rfl)⟩
  refine ⟨fd_law, fun s v => b s [v] rfl, fun base _ _ sr TB => ?_⟩
  have NS : SeerK P base := ⟨hP, sr⟩
  have G_is_whole : Fn P w K mg base 1 "is_whole" 1 m_is_whole := ⟨⟨_, fd_is_whole, ["thing"], He.glo_ok X G (c.fact 0 (f := .glo "is_whole") rfl), F_is_whole.kp, F_is_whole.bindsN (fun _ _ _ _ _ _ us hl => match us, hl with | [_], _ => rfl), ok_is_whole F_is_whole B NS⟩⟩
  have G_by_rounds : Fn P w K mg base 1 "by_rounds" 2 m_by_rounds := ⟨⟨_, fd_by_rounds, ["house", "numbers"], He.glo_ok X G (c.fact 1 (f := .glo "by_rounds") rfl), F_by_rounds.kp, F_by_rounds.bindsN (fun _ _ _ _ _ _ us hl => match us, hl with | [_, _], _ => rfl), ok_by_rounds F_by_rounds B NS⟩⟩
  have G_size : Fn P w K mg base 1 "size" 1 m_size := ⟨⟨_, fd_size, ["house"], He.glo_ok X G (c.fact 2 (f := .glo "size") rfl), F_size.kp, F_size.bindsN (fun _ _ _ _ _ _ us hl => match us, hl with | [_], _ => rfl), ok_size F_size B NS⟩⟩
  have G_nought_number : Fn P w K mg base 1 "nought_number" 1 m_nought_number := ⟨⟨_, fd_nought_number, ["table"], He.glo_ok X G (c.fact 3 (f := .glo "nought_number") rfl), F_nought_number.kp, F_nought_number.bindsN (fun _ _ _ _ _ _ us hl => match us, hl with | [_], _ => rfl), ok_nought_number F_nought_number B NS⟩⟩
  have G_need_pairs : Fn P w K mg base 1 "need_pairs" 1 m_need_pairs := ⟨⟨_, fd_need_pairs, ["table"], He.glo_ok X G (c.fact 4 (f := .glo "need_pairs") rfl), F_need_pairs.kp, F_need_pairs.bindsN (fun _ _ _ _ _ _ us hl => match us, hl with | [_], _ => rfl), ok_need_pairs F_need_pairs B NS⟩⟩
  have G_need_triples : Fn P w K mg base 1 "need_triples" 1 m_need_triples := ⟨⟨_, fd_need_triples, ["table"], He.glo_ok X G (c.fact 5 (f := .glo "need_triples") rfl), F_need_triples.kp, F_need_triples.bindsN (fun _ _ _ _ _ _ us hl => match us, hl with | [_], _ => rfl), ok_need_triples F_need_triples B NS⟩⟩
  have G_outer_turn : Fn P w K mg base 1 "outer_turn" 3 m_outer_turn := ⟨⟨_, fd_outer_turn, ["table", "have", "a"], He.glo_ok X G (c.fact 6 (f := .glo "outer_turn") rfl), F_outer_turn.kp, F_outer_turn.bindsN (fun _ _ _ _ _ _ us hl => match us, hl with | [_, _, _], _ => rfl), ok_outer_turn F_outer_turn B NS⟩⟩
  have G__law_pen : Fn P w K mg base 1 "_law_pen" 1 m__law_pen := ⟨⟨_, fd__law_pen, ["_law_script"], He.glo_ok X G (c.fact 7 (f := .glo "_law_pen") rfl), F__law_pen.kp, F__law_pen.bindsN (fun _ _ _ _ _ _ us hl => match us, hl with | [_], _ => rfl), ok__law_pen F__law_pen B NS⟩⟩
  have G__law_draw : Fn P w K mg base 1 "_law_draw" 2 m__law_draw := ⟨⟨_, fd__law_draw, ["_law_pen_here", "_law_many"], He.glo_ok X G (c.fact 8 (f := .glo "_law_draw") rfl), F__law_draw.kp, F__law_draw.bindsN (fun _ _ _ _ _ _ us hl => match us, hl with | [_, _], _ => rfl), ok__law_draw F__law_draw B NS⟩⟩
  have G__law_things : Fn P w K mg base 1 "_law_things" 1 m__law_things := ⟨⟨_, fd__law_things, ["_law_house_here"], He.glo_ok X G (c.fact 9 (f := .glo "_law_things") rfl), F__law_things.kp, F__law_things.bindsN (fun _ _ _ _ _ _ us hl => match us, hl with | [_], _ => rfl), ok__law_things F__law_things B NS⟩⟩
  have G__law_sum : Fn P w K mg base 1 "_law_sum" 3 m__law_sum := ⟨⟨_, fd__law_sum, ["_law_house_here", "_law_a", "_law_b"], He.glo_ok X G (c.fact 10 (f := .glo "_law_sum") rfl), F__law_sum.kp, F__law_sum.bindsN (fun _ _ _ _ _ _ us hl => match us, hl with | [_, _, _], _ => rfl), ok__law_sum F__law_sum B NS⟩⟩
  have G__law_is_form : Fn P w K mg base 1 "_law_is_form" 1 m__law_is_form := ⟨⟨_, fd__law_is_form, ["_law_house_here"], He.glo_ok X G (c.fact 11 (f := .glo "_law_is_form") rfl), F__law_is_form.kp, F__law_is_form.bindsN (fun _ _ _ _ _ _ us hl => match us, hl with | [_], _ => rfl), ok__law_is_form F__law_is_form B NS⟩⟩
  have G__law_with : Fn P w K mg base 1 "_law_with" 3 m__law_with := ⟨⟨_, fd__law_with, ["_law_row", "_law_at", "_law_thing"], He.glo_ok X G (c.fact 12 (f := .glo "_law_with") rfl), F__law_with.kp, F__law_with.bindsN (fun _ _ _ _ _ _ us hl => match us, hl with | [_, _, _], _ => rfl), ok__law_with F__law_with B NS⟩⟩
  have G_is_house : Fn P w K mg base 2 "is_house" 1 m_is_house := ⟨⟨_, fd_is_house, ["thing"], He.glo_ok X G (c.fact 13 (f := .glo "is_house") rfl), F_is_house.kp, F_is_house.bindsN (fun _ _ _ _ _ _ us hl => match us, hl with | [_], _ => rfl), ok_is_house F_is_house B NS G_is_whole⟩⟩
  have G_is_thing : Fn P w K mg base 2 "is_thing" 2 m_is_thing := ⟨⟨_, fd_is_thing, ["house", "thing"], He.glo_ok X G (c.fact 14 (f := .glo "is_thing") rfl), F_is_thing.kp, F_is_thing.bindsN (fun _ _ _ _ _ _ us hl => match us, hl with | [_, _], _ => rfl), ok_is_thing F_is_thing B NS G_is_whole⟩⟩
  have G_is_square : Fn P w K mg base 2 "is_square" 1 m_is_square := ⟨⟨_, fd_is_square, ["thing"], He.glo_ok X G (c.fact 15 (f := .glo "is_square") rfl), F_is_square.kp, F_is_square.bindsN (fun _ _ _ _ _ _ us hl => match us, hl with | [_], _ => rfl), ok_is_square F_is_square B NS G_is_whole⟩⟩
  have G_so_often : Fn P w K mg base 2 "so_often" 3 m_so_often := ⟨⟨_, fd_so_often, ["table", "many", "a"], He.glo_ok X G (c.fact 16 (f := .glo "so_often") rfl), F_so_often.kp, F_so_often.bindsN (fun _ _ _ _ _ _ us hl => match us, hl with | [_, _, _], _ => rfl), ok_so_often F_so_often B NS G_nought_number⟩⟩
  have G__law_house : Fn P w K mg base 2 "_law_house" 1 m__law_house := ⟨⟨_, fd__law_house, ["_law_pen_here"], He.glo_ok X G (c.fact 17 (f := .glo "_law_house") rfl), F__law_house.kp, F__law_house.bindsN (fun _ _ _ _ _ _ us hl => match us, hl with | [_], _ => rfl), ok__law_house F__law_house B NS G__law_draw⟩⟩
  have G__law_mixed_things : Fn P w K mg base 2 "_law_mixed_things" 2 m__law_mixed_things := ⟨⟨_, fd__law_mixed_things, ["_law_pen_here", "_law_house_here"], He.glo_ok X G (c.fact 18 (f := .glo "_law_mixed_things") rfl), F__law_mixed_things.kp, F__law_mixed_things.bindsN (fun _ _ _ _ _ _ us hl => match us, hl with | [_, _], _ => rfl), ok__law_mixed_things F__law_mixed_things B NS G__law_things G__law_draw⟩⟩
  have G__law_table : Fn P w K mg base 2 "_law_table" 2 m__law_table := ⟨⟨_, fd__law_table, ["_law_house_here", "_law_some"], He.glo_ok X G (c.fact 19 (f := .glo "_law_table") rfl), F__law_table.kp, F__law_table.bindsN (fun _ _ _ _ _ _ us hl => match us, hl with | [_, _], _ => rfl), ok__law_table F__law_table B NS G__law_sum⟩⟩
  have G__law_is_named : Fn P w K mg base 2 "_law_is_named" 2 m__law_is_named := ⟨⟨_, fd__law_is_named, ["_law_table_here", "_law_thing"], He.glo_ok X G (c.fact 20 (f := .glo "_law_is_named") rfl), F__law_is_named.kp, F__law_is_named.bindsN (fun _ _ _ _ _ _ us hl => match us, hl with | [_, _], _ => rfl), ok__law_is_named F__law_is_named B NS G__law_things G__law_sum⟩⟩
  have G__law_each_bent : Fn P w K mg base 2 "_law_each_bent" 2 m__law_each_bent := ⟨⟨_, fd__law_each_bent, ["_law_form", "_law_names"], He.glo_ok X G (c.fact 21 (f := .glo "_law_each_bent") rfl), F__law_each_bent.kp, F__law_each_bent.bindsN (fun _ _ _ _ _ _ us hl => match us, hl with | [_, _], _ => rfl), ok__law_each_bent F__law_each_bent B NS G__law_with⟩⟩
  have G__law_bent : Fn P w K mg base 2 "_law_bent" 3 m__law_bent := ⟨⟨_, fd__law_bent, ["_law_pen_here", "_law_form", "_law_names"], He.glo_ok X G (c.fact 22 (f := .glo "_law_bent") rfl), F__law_bent.kp, F__law_bent.bindsN (fun _ _ _ _ _ _ us hl => match us, hl with | [_, _, _], _ => rfl), ok__law_bent F__law_bent B NS G__law_draw G__law_sum G__law_with⟩⟩
  have G_need_things : Fn P w K mg base 3 "need_things" 2 m_need_things := ⟨⟨_, fd_need_things, ["house", "some"], He.glo_ok X G (c.fact 23 (f := .glo "need_things") rfl), F_need_things.kp, F_need_things.bindsN (fun _ _ _ _ _ _ us hl => match us, hl with | [_, _], _ => rfl), ok_need_things F_need_things B NS G_is_thing⟩⟩
  have G_lets_table : Fn P w K mg base 3 "lets_table" 1 m_lets_table := ⟨⟨_, fd_lets_table, ["thing"], He.glo_ok X G (c.fact 24 (f := .glo "lets_table") rfl), F_lets_table.kp, F_lets_table.bindsN (fun _ _ _ _ _ _ us hl => match us, hl with | [_], _ => rfl), ok_lets_table F_lets_table B NS G_is_square G_nought_number G_need_pairs G_need_triples⟩⟩
  have G_maker_of : Fn P w K mg base 3 "maker_of" 2 m_maker_of := ⟨⟨_, fd_maker_of, ["table", "have"], He.glo_ok X G (c.fact 25 (f := .glo "maker_of") rfl), F_maker_of.kp, F_maker_of.bindsN (fun _ _ _ _ _ _ us hl => match us, hl with | [_, _], _ => rfl), ok_maker_of F_maker_of B NS G_outer_turn G_so_often G_nought_number⟩⟩
  have G_is_form : Fn P w K mg base 3 "is_form" 1 m_is_form := ⟨⟨_, fd_is_form, ["thing"], He.glo_ok X G (c.fact 26 (f := .glo "is_form") rfl), F_is_form.kp, F_is_form.bindsN (fun _ _ _ _ _ _ us hl => match us, hl with | [_], _ => rfl), ok_is_form F_is_form B NS G_is_house⟩⟩
  have G_plus : Fn P w K mg base 4 "plus" 3 m_plus := ⟨⟨_, fd_plus, ["house", "a", "b"], He.glo_ok X G (c.fact 27 (f := .glo "plus") rfl), F_plus.kp, F_plus.bindsN (fun _ _ _ _ _ _ us hl => match us, hl with | [_, _, _], _ => rfl), ok_plus F_plus B NS G_need_things G_by_rounds⟩⟩
  have G_names_of : Fn P w K mg base 4 "names_of" 1 m_names_of := ⟨⟨_, fd_names_of, ["table"], He.glo_ok X G (c.fact 28 (f := .glo "names_of") rfl), F_names_of.kp, F_names_of.bindsN (fun _ _ _ _ _ _ us hl => match us, hl with | [_], _ => rfl), ok_names_of F_names_of B NS G_lets_table G_nought_number G_maker_of⟩⟩
  have G_lets_names : Fn P w K mg base 5 "lets_names" 2 m_lets_names := ⟨⟨_, fd_lets_names, ["table", "thing"], He.glo_ok X G (c.fact 29 (f := .glo "lets_names") rfl), F_lets_names.kp, F_lets_names.bindsN (fun _ _ _ _ _ _ us hl => match us, hl with | [_, _], _ => rfl), ok_lets_names F_lets_names B NS G_is_form G_size G_is_thing G_plus⟩⟩
  exact ok_law F_law B NS G__law_pen G__law_house G__law_mixed_things G__law_table G_names_of G__law_each_bent G__law_bent G_lets_names G__law_is_named G__law_is_form
theorem sp_law {K : PySem.W.Frag} {mg : Str → Option Value} {ns : List Int} (hl : ∃ r, m_law [.v (.list (ns.map .int))] = .ok (.v (.bool true)) r) (H : Hp) (a : Addr) (hS : SqL K H a (ns.map V.int)) (tb : LamX.Tabs (TabT.T K) H) : spG K mg 1 m_law [.ref a] H (fun v _ => v = .bl true) fun _ _ _ => False :=
  sp_start hl hS tb
end K74
namespace K74
open PySem Pu L2
/-! ### things without defs in them -/
mutual
def noF : D → Bool
  | .list xs | .tuple xs => noFAll xs
  | .dict kvs => !isFnH kvs
  | _ => true
def noFAll : List D → Bool
  | [] => true
  | x :: xs => noF x && noFAll xs
end
theorem nf_dict {kvs : List (D × D)} (h : noF (.dict kvs) = true) : isFnH kvs = false := by simpa [noF] using h
theorem nf_all : ∀ {ds : List D} {x : D}, noFAll ds = true → x ∈ ds → noF x = true
  | [], x, _, hx => by cases hx
  | y :: ds, x, h, hx => by
    have h : (noF y && noFAll ds) = true := h
    rw [Bool.and_eq_true] at h
    rcases List.mem_cons.mp hx with e | hx
    · rw [e]; exact h.1
    · exact nf_all h.2 hx
theorem nf_mem {ds : List D} {x : D} (h : noF (.tuple ds) = true) (hx : x ∈ ds) : noF x = true := nf_all h hx
theorem nf_lmem {ds : List D} {x : D} (h : noF (.list ds) = true) (hx : x ∈ ds) : noF x = true := nf_all h hx
theorem nfA_of : ∀ {ds : List D}, (∀ x ∈ ds, noF x = true) → noFAll ds = true
  | [], _ => rfl
  | y :: ds, h => by
    show (noF y && noFAll ds) = true
    rw [h y (by simp), nfA_of fun x hx => h x (List.mem_cons_of_mem _ hx)]
    rfl
theorem nf_tup {ds : List D} (h : ∀ x ∈ ds, noF x = true) : noF (.tuple ds) = true := nfA_of h
theorem nf_lst {ds : List D} (h : ∀ x ∈ ds, noF x = true) : noF (.list ds) = true := nfA_of h
theorem nf_ints (xs : List Int) : noF (.tuple (xs.map .int)) = true := nf_tup fun x hx => by
  obtain ⟨i, _, rfl⟩ := List.mem_map.mp hx
  rfl
end K74
namespace K74.F
open PySem Pu L2
theorem lg {n : Nat} (h : n < 2 ^ 1900) : n.log2 < 1900 := PySem.Flt.log2_lt_of (by decide) h
theorem mulN {a b : Nat} (h1 : a < 2 ^ 1900) (h2 : b < 2 ^ 1900) : mulOk (a : Int) (b : Int) := .inr (.inr (by
  have := lg h1
  have := lg h2
  simp
  omega))
abbrev T (xs : List Int) : D := .tuple (xs.map .int)
abbrev IN (xs : List Nat) : List Int := xs.map fun n : Nat => (n : Int)
abbrev N (xs : List Nat) : D := .tuple (xs.map fun n : Nat => .int (n : Int))
theorem NT (xs : List Nat) : N xs = T (IN xs) := by simp [N, T, IN]
def B130 : Nat := 2 ^ 130
def HoN (hs : List Nat) : Prop := hs.length ≤ 6 ∧ ∀ h ∈ hs, 1 ≤ h ∧ h < B130
theorem b20 : 1000000 < B130 := by decide +kernel
def ThN (hs as : List Nat) : Prop := as.length = hs.length ∧ ∀ (i a h : Nat), as[i]? = some a → hs[i]? = some h → a < h
theorem nat_at {hs : List Nat} {i : Nat} (h : i < hs.length) : ∃ x, hs[i]? = some x := ⟨_, List.getElem?_eq_getElem h⟩
theorem nat_lt {as : List Nat} {i a : Nat} (h : as[i]? = some a) : i < as.length := (List.getElem?_eq_some_iff.mp h).1
theorem HoN.at {hs : List Nat} (H : HoN hs) {i h : Nat} (e : hs[i]? = some h) : 1 ≤ h ∧ h < B130 := H.2 h (List.mem_of_getElem? e)
theorem rev_ind {P : List Nat → Prop} (h0 : P []) (hs : ∀ xs x, P xs → P (xs ++ [x])) (xs : List Nat) : P xs := by
  have : ∀ ys : List Nat, P ys.reverse := by
    intro ys
    induction ys with
    | nil => exact h0
    | cons y ys ih =>
      rw [List.reverse_cons]
      exact hs _ _ ih
  have := this xs.reverse
  rwa [List.reverse_reverse] at this
theorem at_len {hs : List Int} {i : Nat} (h : i < hs.length) : ∃ x, hs[i]? = some x := ⟨_, List.getElem?_eq_getElem h⟩
theorem lt_of_at {as : List Int} {i : Nat} {a : Int} (h : as[i]? = some a) : i < as.length := (List.getElem?_eq_some_iff.mp h).1
def wh : D → Bool
  | .int _ => true
  | _ => false
def okA (hs : List Int) (ds : List D) (i : Nat) : Bool := match ds[i]? with
  | some (.int a) => (match hs[i]? with
    | some h => decide (0 ≤ a) && decide (a < h)
    | none => false)
  | _ => false
def thg (hs : List Int) : D → Bool
  | .tuple ds => decide (ds.length = hs.length) && (List.range hs.length).all (okA hs ds)
  | _ => false
theorem whole_ok {X : Exn → En → Prop} (d : D) (nd : K74.noF d = true) : Wp X (m_is_whole [.v d]) fun rv _ => rv = .v (.bool (wh d)) := by
  refine po_fn ?_
  unfold b_is_whole
  cases d with
  | dict kvs => simp [wh, K74.nf_dict nd]
  | _ => simp [wh]
theorem all_zip (ds : List D) (f : Nat → Bool) : (ds.zipIdx.map fun p => f p.2).all id = (List.range ds.length).all f := by
  have : (ds.zipIdx.map fun p => f p.2) = (List.range ds.length).map f := by
    apply List.ext_getElem?
    intro i
    rw [List.getElem?_map, List.getElem?_map, List.getElem?_zipIdx]
    by_cases h : i < ds.length
    · rw [List.getElem?_eq_getElem h, List.getElem?_range h]
      simp
    · rw [List.getElem?_eq_none (by omega), List.getElem?_eq_none (by simp; omega)]
      rfl
  rw [this, List.all_map]
  rfl
theorem is_thing_ok {X : Exn → En → Prop} {hs : List Int} (H : hs.length ≤ 6) (d : D) (nd : K74.noF d = true) : Wp X (m_is_thing [.v (T hs), .v d]) fun rv _ => rv = .v (.bool (thg hs d)) := by
  refine po_fnK fun Y K hY hK _ => ?_
  unfold b_is_thing
  refine po_step fun K1 h1 r1 _ _ => ?_
  cases d with
  | tuple ds =>
    by_cases hl : ds.length = hs.length
    · simp [hl]
      refine h1 _ ?_
      have e : enOf [.tuple ds] = some ((ds.zipIdx 0).map fun p => .tuple [.int (p.2 : Nat), p.1]) := by
        have := enOf_t (fun d : D => d) ds
        simpa using this
      simp [e]
      refine po_compM (g := fun p : D × Nat => PyData.bool (okA hs ds p.2)) (fun r => ∃ a b, r = [.v (T hs), .v (.tuple ds), a, b]) (ds.zipIdx 0) [] _ ⟨_, _, rfl⟩ (by simp; omega) ?_ ?_
      · rintro ⟨x, i⟩ hp r ⟨a, b, rfl⟩
        have e1 : ds[i]? = some x := by
          have := List.mem_zipIdx hp
          simp at this
          rw [List.getElem?_eq_getElem this.1]
          exact congrArg some this.2.symm
        obtain ⟨h, e2⟩ := at_len (hs := hs) (i := i) (by rw [← hl]; exact (List.getElem?_eq_some_iff.mp e1).1)
        refine ⟨[.v (T hs), .v (.tuple ds), .v (.int i), .v x], by simp, ?_⟩
        simp
        refine po_mono (whole_ok x (K74.nf_mem nd (List.mem_of_getElem? e1))) ?_
        rintro _ _ rfl
        cases x with
        | int a =>
          by_cases h0 : 0 ≤ a
          · simp [wh, okA, e1, e2, h0]
          · simp [wh, okA, e1, e2, h0]
        | _ => simp [wh, okA, e1]
      · rintro r ⟨a, b, rfl⟩
        have e3 := all_zip ds (okA hs ds)
        have e4 : boolsOf (ds.zipIdx.map fun p => PyData.bool (okA hs ds p.2)) = some (ds.zipIdx.map fun p => okA hs ds p.2) := boolsOf_map (fun p : D × Nat => okA hs ds p.2) _
        simp [e4]
        refine hK _ _ _ rfl ?_
        rw [hl] at e3
        rw [List.all_map] at e3
        simp [thg, hl]
        first | exact e3 | (simpa using e3)
    · have hl2 : ¬ ((ds.length : Int) = (hs.length : Int)) := by omega
      simp [hl2]
      refine r1 _ _ ?_
      exact hK _ _ _ rfl (by simp [thg, hl])
  | dict kvs =>
    simp [K74.nf_dict nd]
    exact r1 _ _ (hK _ _ _ rfl rfl)
  | _ =>
    simp
    exact r1 _ _ (hK _ _ _ rfl rfl)
theorem thg_N {hs as : List Nat} (h : ThN hs as) : thg (IN hs) (N as) = true := by
  unfold thg
  simp [h.1]
  intro i hi
  obtain ⟨a, ea⟩ := nat_at (hs := as) (i := i) (by rw [h.1]; exact hi)
  obtain ⟨k, ek⟩ := nat_at hi
  have := h.2 _ _ _ ea ek
  simp [okA, ea, ek]
  omega
theorem IN_len (hs : List Nat) : (IN hs).length = hs.length := by simp
def gn (xs : List Nat) (i : Nat) : Nat := xs.getD i 0
theorem gn_at {xs : List Nat} {i : Nat} (h : i < xs.length) : xs[i]? = some (gn xs i) := by
  rw [gn, List.getD, List.getElem?_eq_getElem h]
  rfl
theorem gn_mem {xs : List Nat} {i : Nat} (h : i < xs.length) : gn xs i ∈ xs := List.mem_of_getElem? (gn_at h)
theorem zip_idx {xs : List Nat} {done rest : List (Nat × Nat)} {p : Nat × Nat} (e : xs.zipIdx = done ++ p :: rest) : p.2 = done.length ∧ xs[done.length]? = some p.1 ∧ done.length < xs.length := by
  have h : (xs.zipIdx)[done.length]? = some p := by rw [e]; simp
  rw [List.getElem?_zipIdx] at h
  cases hx : xs[done.length]? with
  | none =>
    rw [hx] at h
    cases h
  | some x =>
    rw [hx] at h
    cases h
    exact ⟨by simp, rfl, nat_lt hx⟩
theorem draw_ok {X : Exn → En → Prop} {cs : List Int} {b : Nat} {p : Ct} {n : Int} (hp : PenB cs b p) (hb : b < 1000000) (hn : 0 < n) (hn2 : n < 2 ^ 63) : Wp X (m__law_draw [.io p, .v (.int n)]) (DrB cs b n) := by
  obtain ⟨a, l, rfl, ha, hab, hl⟩ := hp
  refine po_fn ?_
  unfold b__law_draw DrB
  rw [pen_eq]
  have hp1 : ∀ x : Int, 0 ≤ x.fmod n := fun x => (fmod_pos x hn).1
  have hp2 : ∀ x : Int, x.fmod n < n := fun x => (fmod_pos x hn).2
  have hn' : ¬ n = 0 := by omega
  have hlog : n.natAbs.log2 < 9000 := log2_64 (by omega)
  have fin1 : PenB cs (b + 1) (.d (penL cs (a + 1) l)) := .mk (by omega) (by omega) hl
  have fin2 : ∀ x : Int, 0 ≤ x → PenB cs (b + 1) (.d (penL cs (a + 1) (x.fdiv n))) := fun x hx => .mk (by omega) (by omega) (fdiv_nn hx hn)
  have fin3 : PenB cs (b + 1) (.d (penL cs a (l.fdiv n))) := .mk ha (by omega) (fdiv_nn hl hn)
  have hm : ∀ x, mulOk x a := fun x => mulOk_r ⟨by omega, by omega⟩
  by_cases hc : cs = []
  · subst hc
    simp [po_seq, Int.fmod_eq_emod_of_nonneg, Int.fdiv_eq_ediv_of_nonneg, hn', hlog, hp1, hp2, fin1, fin2, fin3, ha, Int.not_lt.mpr ha, hm]
  · have hlen : 0 < cs.length := List.length_pos_iff.mpr hc
    obtain ⟨c, hc1, -⟩ := atI_nn (xs := cs) (n := a % cs.length) (Int.emod_nonneg _ (by omega)) (Int.emod_lt_of_pos _ (by omega))
    simp [po_seq, Int.fmod_eq_emod_of_nonneg, Int.fdiv_eq_ediv_of_nonneg, hn', hlog, hp1, hp2, fin1, fin2, fin3, hc, hc1, hlen, hm]
def Ho (hs : List Int) : Prop := hs.length ≤ 6 ∧ ∀ h ∈ hs, 1 ≤ h ∧ h ≤ 1000000
def Th (hs as : List Int) : Prop := as.length = hs.length ∧ ∀ (i : Nat) (a h : Int), as[i]? = some a → hs[i]? = some h → 0 ≤ a ∧ a < h
theorem Ho.at {hs : List Int} (H : Ho hs) {i : Nat} {h : Int} (e : hs[i]? = some h) : 1 ≤ h ∧ h ≤ 1000000 := H.2 h (List.mem_of_getElem? e)
/-! ### turns -/
theorem dv {h a n : Nat} (hh : 1 ≤ h) : n * a % h = 0 ↔ h / Nat.gcd h a ∣ n := by
  have g0 : 0 < Nat.gcd h a := Nat.gcd_pos_of_pos_left _ hh
  obtain ⟨p, hp⟩ := Nat.gcd_dvd_left h a
  obtain ⟨q, hq⟩ := Nat.gcd_dvd_right h a
  generalize hg : Nat.gcd h a = g at *
  have e : h / g = p := by rw [hp, Nat.mul_div_cancel_left _ g0]
  have cop : Nat.Coprime p q := by
    have := Nat.gcd_mul_left g p q
    rw [← hp, ← hq, hg] at this
    exact Nat.eq_of_mul_eq_mul_left g0 (by rw [← this, Nat.mul_one])
  rw [e]
  constructor
  · intro h1
    obtain ⟨t, ht⟩ := Nat.dvd_of_mod_eq_zero h1
    have : p ∣ n * q := ⟨t, Nat.eq_of_mul_eq_mul_left g0 (by rw [← Nat.mul_assoc g p t, ← hp, ← ht, hq]; ac_rfl)⟩
    exact cop.dvd_of_dvd_mul_right this
  · rintro ⟨t, rfl⟩
    rw [hp, hq]
    exact Nat.mod_eq_zero_of_dvd ⟨t * q, by ac_rfl⟩
def nz (hs as : List Nat) (n : Nat) : Prop := ∀ i, i < hs.length → n * gn as i % gn hs i = 0
theorem thing_yes {X : Exn → En → Prop} {hs as : List Nat} (H : HoN hs) (A : ThN hs as) : Wp X (m_is_thing [.v (N hs), .v (N as)]) fun rv _ => rv = .v (.bool true) := by
  have := is_thing_ok (X := X) (hs := IN hs) (by rw [IN_len]; exact H.1) (N as) (by rw [NT]; exact K74.nf_ints _)
  rw [← NT, thg_N A] at this
  exact this
theorem need_ok {X : Exn → En → Prop} {hs as : List Nat} (H : HoN hs) (A : ThN hs as) : Wp X (m_need_things [.v (N hs), .v (.list [N as])]) fun rv _ => rv = .v .none := by
  refine po_fnK fun Y K hY _ hN => ?_
  unfold b_need_things
  simp
  refine po_forK (fun _ r => ∃ s, r = [.v (N hs), .v (.list [N as]), s] ∧ s.isIo = false) (f := fun d : D => d) [N as] _ ⟨_, rfl, rfl⟩ ?_ ?_
  · rintro done t rest r e ⟨s, rfl, q⟩
    have : t = N as := by
      have : t ∈ [N as] := by rw [e]; simp
      simpa using this
    subst this
    refine ⟨[.v (N hs), .v (.list [N as]), .v (N as)], by simp [q], fun K1 h1 _ _ _ => ?_⟩
    simp
    refine po_mono (thing_yes H A) ?_
    rintro _ _ rfl
    simp
    exact h1 _ ⟨_, rfl, rfl⟩
  · rintro r ⟨s, rfl, q⟩
    exact hN _ _ rfl rfl
def HoS (hs : List Nat) : Prop := hs.length ≤ 6 ∧ ∀ h ∈ hs, 1 ≤ h ∧ h ≤ 1000000
theorem HoS.n {hs : List Nat} (H : HoS hs) : HoN hs := ⟨H.1, fun h hh => ⟨(H.2 h hh).1, Nat.lt_of_le_of_lt (H.2 h hh).2 b20⟩⟩
theorem toNs : ∀ xs : List Int, (∀ x ∈ xs, 0 ≤ x) → ∃ ns : List Nat, xs = IN ns
  | [], _ => ⟨[], rfl⟩
  | x :: xs, h => by
    obtain ⟨ns, e⟩ := toNs xs fun y hy => h y (by simp [hy])
    refine ⟨x.toNat :: ns, ?_⟩
    have := h x (by simp)
    rw [e]
    simp [IN]
    omega
theorem IN_mem {ns : List Nat} {n : Nat} (h : n ∈ ns) : (n : Int) ∈ IN ns := List.mem_map.mpr ⟨n, h, rfl⟩
end K74.F
namespace K74
open PySem Pu L2
abbrev T (xs : List Int) : D := .tuple (xs.map .int)
def Ho (hs : List Int) : Prop := hs.length ≤ 6 ∧ ∀ h ∈ hs, 1 ≤ h ∧ h ≤ 1000000
def Th (hs as : List Int) : Prop := as.length = hs.length ∧ ∀ (i : Nat) (a h : Int), as[i]? = some a → hs[i]? = some h → 0 ≤ a ∧ a < h
theorem Ho.at {hs : List Int} (H : Ho hs) {i : Nat} {h : Int} (e : hs[i]? = some h) : 1 ≤ h ∧ h ≤ 1000000 := H.2 h (List.mem_of_getElem? e)
theorem at_len {hs : List Int} {i : Nat} (h : i < hs.length) : ∃ x, hs[i]? = some x := ⟨_, List.getElem?_eq_getElem h⟩
theorem lt_of_at {as : List Int} {i : Nat} {a : Int} (h : as[i]? = some a) : i < as.length := (List.getElem?_eq_some_iff.mp h).1
def mods (hs xs : List Int) : List Int := List.zipWith (fun x h => x % h) xs hs
theorem mods_len {hs xs : List Int} (h : xs.length = hs.length) : (mods hs xs).length = hs.length := by
  unfold mods
  rw [List.length_zipWith, h]
  omega
theorem mods_at {hs xs : List Int} (i : Nat) : (mods hs xs)[i]? = (xs[i]?).bind fun x => (hs[i]?).map fun h => x % h := by
  unfold mods
  rw [List.getElem?_zipWith]
  cases xs[i]? <;> cases hs[i]? <;> rfl
theorem mods_th {hs xs : List Int} (H : Ho hs) (h : xs.length = hs.length) : Th hs (mods hs xs) := ⟨mods_len h, fun i a k e1 e2 => by
  rw [mods_at, e2] at e1
  cases hx : xs[i]? with
  | none =>
    rw [hx] at e1
    cases e1
  | some x =>
    rw [hx] at e1
    cases e1
    have := H.at e2
    exact ⟨Int.emod_nonneg _ (by omega), Int.emod_lt_of_pos _ (by omega)⟩⟩
def pl (hs as bs : List Int) : List Int := mods hs (List.zipWith (fun a b => a + b) as bs)
def mi (hs as bs : List Int) : List Int := mods hs (List.zipWith (fun a b => a - b) as bs)
def no (hs : List Int) : List Int := hs.map fun _ => 0
theorem pl_th {hs as bs : List Int} (H : Ho hs) (A : Th hs as) (B : Th hs bs) : Th hs (pl hs as bs) := mods_th H (by rw [List.length_zipWith, A.1, B.1]; omega)
theorem mi_th {hs as bs : List Int} (H : Ho hs) (A : Th hs as) (B : Th hs bs) : Th hs (mi hs as bs) := mods_th H (by rw [List.length_zipWith, A.1, B.1]; omega)
theorem no_th {hs : List Int} (H : Ho hs) : Th hs (no hs) := ⟨by simp [no], fun i a h e1 e2 => by
  unfold no at e1
  rw [List.getElem?_map, e2] at e1
  have e1 : some (0 : Int) = some a := e1
  cases e1
  have := H.at e2
  omega⟩
theorem ext_th {hs as bs : List Int} (A : Th hs as) (B : Th hs bs) (h : ∀ (i : Nat) (k : Int), hs[i]? = some k → 1 ≤ k → as[i]? = bs[i]?) (H : Ho hs) : as = bs := by
  apply List.ext_getElem?
  intro i
  by_cases hi : i < hs.length
  · obtain ⟨k, e⟩ := at_len hi
    exact h i k e (H.at e).1
  · rw [List.getElem?_eq_none (by rw [A.1]; omega), List.getElem?_eq_none (by rw [B.1]; omega)]
theorem pl_at {hs as bs : List Int} {i : Nat} {k a b : Int} (e : hs[i]? = some k) (ea : as[i]? = some a) (eb : bs[i]? = some b) : (pl hs as bs)[i]? = some ((a + b) % k) := by
  unfold pl
  rw [mods_at, List.getElem?_zipWith, ea, eb, e]
  rfl
theorem mi_at {hs as bs : List Int} {i : Nat} {k a b : Int} (e : hs[i]? = some k) (ea : as[i]? = some a) (eb : bs[i]? = some b) : (mi hs as bs)[i]? = some ((a - b) % k) := by
  unfold mi
  rw [mods_at, List.getElem?_zipWith, ea, eb, e]
  rfl
theorem no_at {hs : List Int} {i : Nat} {k : Int} (e : hs[i]? = some k) : (no hs)[i]? = some 0 := by
  unfold no
  rw [List.getElem?_map, e]
  rfl
theorem Th.at {hs as : List Int} (A : Th hs as) {i : Nat} {k : Int} (e : hs[i]? = some k) : ∃ a, as[i]? = some a ∧ 0 ≤ a ∧ a < k := by
  obtain ⟨a, ea⟩ := at_len (hs := as) (i := i) (by rw [A.1]; exact lt_of_at e)
  exact ⟨a, ea, A.2 _ _ _ ea e⟩
section
variable {hs as bs cs : List Int} (H : Ho hs) (A : Th hs as) (B : Th hs bs) (C : Th hs cs)
include H A B
theorem q_comm : pl hs as bs = pl hs bs as := ext_th (pl_th H A B) (pl_th H B A) (fun i k e k1 => by
  obtain ⟨a, ea, a0, a1⟩ := A.at e
  obtain ⟨b, eb, b0, b1⟩ := B.at e
  rw [pl_at e ea eb, pl_at e eb ea, Int.add_comm]) H
include C in
theorem q_assoc : pl hs (pl hs as bs) cs = pl hs as (pl hs bs cs) := ext_th (pl_th H (pl_th H A B) C) (pl_th H A (pl_th H B C)) (fun i k e k1 => by
  obtain ⟨a, ea, a0, a1⟩ := A.at e
  obtain ⟨b, eb, b0, b1⟩ := B.at e
  obtain ⟨c, ec, c0, c1⟩ := C.at e
  rw [pl_at e (pl_at e ea eb) ec, pl_at e ea (pl_at e eb ec), Int.emod_add_emod, Int.add_emod_emod, Int.add_assoc]) H
theorem q_back : pl hs (mi hs as bs) bs = as := ext_th (pl_th H (mi_th H A B) B) A (fun i k e k1 => by
  obtain ⟨a, ea, a0, a1⟩ := A.at e
  obtain ⟨b, eb, b0, b1⟩ := B.at e
  rw [pl_at e (mi_at e ea eb) eb, Int.emod_add_emod, Int.sub_add_cancel, Int.emod_eq_of_lt a0 a1, ea]) H
omit B in
theorem q_zero : pl hs as (no hs) = as := ext_th (pl_th H A (no_th H)) A (fun i k e k1 => by
  obtain ⟨a, ea, a0, a1⟩ := A.at e
  rw [pl_at e ea (no_at e), Int.add_zero, Int.emod_eq_of_lt a0 a1, ea]) H
end
/-! ### all things -/
def ext (fs : List (List Int)) (h : Int) : List (List Int) := fs.flatMap fun a => (List.range h.toNat).map fun n : Nat => a ++ [(n : Int)]
def thgs (hs : List Int) : List (List Int) := hs.foldl ext [[]]
def thB : List Int → List Int → Prop
  | [], [] => True
  | h :: hs, a :: as => (0 ≤ a ∧ a < h) ∧ thB hs as
  | _, _ => False
theorem mem_ext {fs : List (List Int)} {h : Int} {x : List Int} : x ∈ ext fs h ↔ ∃ f ∈ fs, ∃ n : Int, 0 ≤ n ∧ n < h ∧ x = f ++ [n] := by
  unfold ext
  rw [List.mem_flatMap]
  constructor
  · rintro ⟨f, hf, hx⟩
    obtain ⟨n, hn, rfl⟩ := List.mem_map.mp hx
    have := List.mem_range.mp hn
    exact ⟨f, hf, n, by omega, by omega, rfl⟩
  · rintro ⟨f, hf, n, n0, n1, rfl⟩
    refine ⟨f, hf, List.mem_map.mpr ⟨n.toNat, List.mem_range.mpr (by omega), ?_⟩⟩
    rw [Int.toNat_of_nonneg n0]
theorem mem_fold : ∀ (hs : List Int) (fs : List (List Int)) (x : List Int), x ∈ hs.foldl ext fs ↔ ∃ f ∈ fs, ∃ a, thB hs a ∧ x = f ++ a
  | [], fs, x => by
    constructor
    · intro h
      exact ⟨x, h, [], trivial, by simp⟩
    · rintro ⟨f, hf, a, ha, rfl⟩
      cases a with
      | nil => simpa using hf
      | cons a as => exact ha.elim
  | h :: hs, fs, x => by
    rw [List.foldl_cons, mem_fold hs]
    constructor
    · rintro ⟨f, hf, a, ha, rfl⟩
      obtain ⟨g, hg, n, n0, n1, rfl⟩ := mem_ext.mp hf
      exact ⟨g, hg, n :: a, ⟨⟨n0, n1⟩, ha⟩, by simp⟩
    · rintro ⟨f, hf, a, ha, rfl⟩
      cases a with
      | nil => exact ha.elim
      | cons n as =>
        obtain ⟨⟨n0, n1⟩, ha⟩ := ha
        exact ⟨f ++ [n], mem_ext.mpr ⟨f, hf, n, n0, n1, rfl⟩, as, ha, by simp⟩
theorem thB_iff : ∀ (hs as : List Int), thB hs as ↔ Th hs as
  | [], [] => ⟨fun _ => ⟨rfl, by simp⟩, fun _ => trivial⟩
  | [], a :: as => ⟨fun h => h.elim, fun h => by have := h.1; simp at this⟩
  | h :: hs, [] => ⟨fun h => h.elim, fun h => by have := h.1; simp at this⟩
  | h :: hs, a :: as => by
    constructor
    · rintro ⟨h0, h1⟩
      have := (thB_iff hs as).mp h1
      refine ⟨by simp [this.1], fun i x k ex ek => ?_⟩
      cases i with
      | zero =>
        simp at ex ek
        subst ex ek
        exact h0
      | succ i =>
        simp at ex ek
        exact this.2 i x k ex ek
    · intro h1
      refine ⟨h1.2 0 a h (by simp) (by simp), (thB_iff hs as).mpr ⟨by have := h1.1; simpa using this, fun i x k ex ek => h1.2 (i + 1) x k (by simpa using ex) (by simpa using ek)⟩⟩
theorem mem_thgs {hs x : List Int} : x ∈ thgs hs ↔ Th hs x := by
  unfold thgs
  rw [mem_fold, ← thB_iff]
  constructor
  · rintro ⟨f, hf, a, ha, rfl⟩
    rw [List.mem_singleton.mp hf]
    exact ha
  · intro h
    exact ⟨[], by simp, x, h, rfl⟩
theorem len_ext (fs : List (List Int)) (h : Int) : (ext fs h).length = fs.length * h.toNat := by
  unfold ext
  induction fs with
  | nil => simp
  | cons f fs ih =>
    rw [List.flatMap_cons, List.length_append, ih, List.length_map, List.length_range, List.length_cons, Nat.succ_mul]
    omega
theorem ext_app (fs : List (List Int)) (f : List Int) (h : Int) : ext (fs ++ [f]) h = ext fs h ++ (List.range h.toNat).map fun n : Nat => f ++ [(n : Int)] := by
  unfold ext
  simp
def houses : List (List Int) := [[], [2], [3], [4], [2, 2], [6], [2, 3], [8], [2, 4], [2, 2, 2], [4, 2], [9], [3, 3], [12], [2, 6], [16], [4, 4], [2, 8], [2, 2, 4], [2, 2, 2, 2], [5], [7], [10], [15], [3, 5], [1, 2, 1], [11], [13], [14], [1], [8, 2], [3, 4]]
def Hs (hs : List Int) : Prop := hs.length ≤ 4 ∧ (∀ h ∈ hs, 1 ≤ h ∧ h ≤ 16) ∧ (thgs hs).length ≤ 16 ∧ (thgs hs).Nodup
instance (hs : List Int) : Decidable (Hs hs) := by unfold Hs; infer_instance
theorem houses_ok : ∀ hs ∈ houses, Hs hs := by decide +kernel
theorem Hs.ho {hs : List Int} (h : Hs hs) : Ho hs := ⟨by have := h.1; omega, fun x hx => by have := h.2.1 x hx; omega⟩
theorem fold_len (fs : List (List Int)) : ∀ (hs : List Int), (∀ h ∈ hs, 1 ≤ h ∧ h ≤ 16) → (hs.foldl ext fs).length ≤ fs.length * 16 ^ hs.length
  | [], _ => by simp
  | h :: hs, H => by
    rw [List.foldl_cons]
    have h1 := fold_len (ext fs h) hs fun x hx => H x (List.mem_cons_of_mem _ hx)
    have h2 := H h (List.mem_cons_self ..)
    rw [len_ext] at h1
    have h3 : fs.length * h.toNat ≤ fs.length * 16 := Nat.mul_le_mul_left _ (by omega)
    have h4 := Nat.mul_le_mul_right (16 ^ hs.length) h3
    rw [List.length_cons, Nat.pow_succ, Nat.mul_comm (16 ^ hs.length) 16, ← Nat.mul_assoc]
    omega
theorem perm_erase {α : Type} : ∀ (l : List α) (k : Nat) (y : α), l[k]? = some y → List.Perm (y :: l.eraseIdx k) l
  | [], _, _, h => by simp at h
  | x :: l, 0, y, h => by
    simp at h
    subst h
    exact List.Perm.refl _
  | x :: l, k + 1, y, h => by
    have := perm_erase l k y (by simpa using h)
    rw [List.eraseIdx_cons_succ]
    exact (List.Perm.swap ..).trans (List.Perm.cons x this)
/-! ### drawn -/
theorem pen_start {X : Exn → En → Prop} (ns : List Int) : Wp X (m__law_pen [.v (.list (ns.map .int))]) fun rv _ => ∃ cs c, rv = .o c ∧ PenB cs 0 c := by
  refine po_fn ?_
  unfold b__law_pen oDict prs
  simp [prs]
  rw [cutL_map, pen_new]
  exact ⟨_, 0, 0, rfl, by decide, by decide, by decide⟩
theorem house_ok {X : Exn → En → Prop} {cs : List Int} {b : Nat} {p : Ct} (hp : PenB cs b p) (hb : b < 900) : Wp X (m__law_house [.io p]) fun rv z => ∃ (hs : List Int) (c : Ct) (t : List Sl), rv = .v (T hs) ∧ Hs hs ∧ z = .io c :: t ∧ PenB cs (b + 1) c := by
  refine po_fnK fun Y K hY hK _ => ?_
  unfold b__law_house
  refine po_step fun K1 h1 _ _ _ => ?_
  simp
  refine h1 _ ?_
  refine po_step fun K2 h2 _ _ _ => ?_
  simp
  refine h2 _ ?_
  refine po_step fun K3 h3 _ _ _ => ?_
  simp
  refine h3 _ ?_
  simp
  refine po_mono (F.draw_ok hp (by omega) (by decide) (by decide)) ?_
  rintro _ _ ⟨k, c, t, rfl, k0, k1, rfl, hp⟩
  simp
  obtain ⟨d, e1, hs, rfl, hh⟩ := atI_all (P := fun d : D => ∃ hs : List Int, d = T hs ∧ Hs hs) (xs := houses.map fun a => T a) (n := k) k0 (by rw [List.length_map]; exact k1) (by
    intro d hd
    obtain ⟨hs, h1, rfl⟩ := List.mem_map.mp hd
    exact ⟨hs, rfl, houses_ok hs h1⟩)
  refine ⟨_, e1, ?_⟩
  exact hK _ _ _ rfl ⟨hs, c, _, rfl, hh, rfl, hp⟩
theorem things_ok {X : Exn → En → Prop} {hs : List Int} (H : Hs hs) : Wp X (m__law_things [.v (T hs)]) fun rv _ => rv = .o (.l ((thgs hs).map fun a => T a)) := by
  refine po_fnK fun Y K hY hK _ => ?_
  unfold b__law_things
  refine po_step fun K1 h1 _ _ _ => ?_
  simp
  refine h1 _ ?_
  refine po_step fun K2 h2 _ _ _ => ?_
  simp
  refine po_forK (fun done r => ∃ s2 s3 s4, r = [.v (T hs), .o (.l ((thgs done).map fun a => T a)), s2, s3, s4, .unk] ∧ s2.isIo = false ∧ s3.isIo = false ∧ s4.isIo = false) hs _ ⟨_, _, _, rfl, rfl, rfl, rfl⟩ ?_ ?_
  · rintro done h rest r e ⟨s2, s3, s4, rfl, q2, q3, q4⟩
    refine ⟨[.v (T hs), .o (.l ((thgs done).map fun a => T a)), .v (.int h), s3, s4, .unk], by simp [q2], fun K3 h3 _ _ _ => ?_⟩
    have hd : ∀ x ∈ done, 1 ≤ x ∧ x ≤ 16 := fun x hx => H.2.1 x (by rw [e]; exact List.mem_append_left _ hx)
    have hdl : done.length ≤ 3 := by
      have := H.1
      rw [e, List.length_append, List.length_cons] at this
      omega
    have hfl : (thgs done).length ≤ 4096 := by
      have h5 := fold_len [[]] done hd
      have h6 : 16 ^ done.length ≤ 16 ^ 3 := Nat.pow_le_pow_right (by decide) hdl
      unfold thgs
      simp at h5
      omega
    have hh := H.2.1 h (by rw [e]; simp)
    refine po_step fun K4 h4 _ _ _ => ?_
    simp [q3]
    refine h4 _ ?_
    refine po_step fun K5 h5 _ _ _ => ?_
    simp
    refine po_forK (fun dn r => ∃ s4, r = [.v (T hs), .v (.list ((thgs done).map fun a => T a)), .v (.int h), .o (.l ((ext dn h).map fun a => T a)), s4, .unk] ∧ s4.isIo = false) (thgs done) _ ⟨_, rfl, q4⟩ ?_ ?_
    · rintro dn f rs r e2 ⟨s4, rfl, q4⟩
      have hf : f.length = done.length := (mem_thgs.mp (show f ∈ thgs done by rw [e2]; simp)).1
      have hdn : dn.length ≤ 4096 := by
        rw [e2, List.length_append] at hfl
        omega
      refine ⟨[.v (T hs), .v (.list ((thgs done).map fun a => T a)), .v (.int h), .o (.l ((ext dn h).map fun a => T a)), .v (T f), .unk], by simp [q4], fun K6 h6 _ _ _ => ?_⟩
      simp
      refine ⟨by omega, ?_⟩
      rw [rng_map]
      refine po_compM (g := fun n : Nat => T (f ++ [(n : Int)])) (fun r => ∃ a, r = [.v (T hs), .v (.list ((thgs done).map fun a => T a)), .v (.int h), .o (.l ((ext dn h).map fun a => T a)), .v (T f), a]) (List.range h.toNat) [] _ ⟨_, rfl⟩ (by simp; omega) ?_ ?_
      · rintro n hn r ⟨a, rfl⟩
        refine ⟨[.v (T hs), .v (.list ((thgs done).map fun a => T a)), .v (.int h), .o (.l ((ext dn h).map fun a => T a)), .v (T f), .v (.int n)], by simp, ?_⟩
        simp
        omega
      · rintro r ⟨a, rfl⟩
        have h7 : (ext dn h).length + h.toNat ≤ 16777216 := by
          rw [len_ext]
          have : dn.length * h.toNat ≤ 4096 * 16 := Nat.mul_le_mul hdn (by omega)
          omega
        simp [h7]
        refine h6 _ ⟨.v (T f), ?_, rfl⟩
        rw [ext_app]
        simp
    · rintro r ⟨s4, rfl, q4⟩
      refine h5 _ ?_
      simp
      refine h3 _ ⟨.v (.int h), .unk, s4, ?_, rfl, rfl, q4⟩
      unfold thgs
      rw [List.foldl_append]
      rfl
  · rintro r ⟨s2, s3, s4, rfl, q2, q3, q4⟩
    refine h2 _ ?_
    simp
    exact hK _ _ _ rfl rfl
theorem shaped_TT (xs : List (List Int)) : SeqAt.shaped (.list (xs.map fun a => T a)) = true := by
  refine Bool.and_eq_true_iff.mpr ⟨?_, decide_eq_true ?_⟩
  · show PyData.canLayAll0 (xs.map fun a => T a) = true
    induction xs with
    | nil => rfl
    | cons x xs ih => exact Bool.and_eq_true_iff.mpr ⟨lay_ints x, ih⟩
  · have := depthAll_map (fun a => T a) 2 xs fun x _ => by
      have := depthAll_map PyData.int 1 x fun x _ => by simp [PyData.depth]
      simp only [PyData.depth]
      omega
    simp only [PyData.depth]
    omega
theorem ne_nil (xs : List (List Int)) : neD (.list (xs.map fun a => T a)) (.list []) = some (.bool (!decide (xs = []))) := by
  rw [neD_ll (shaped_TT xs) rfl]
  cases xs with
  | nil => rfl
  | cons x xs => rw [SeqAt.eqvAll_other_length (by simp)]; simp
theorem erase_map {α β : Type} (f : α → β) : ∀ (l : List α) (k : Nat), (l.map f).eraseIdx k = (l.eraseIdx k).map f
  | [], _ => by simp
  | x :: l, 0 => by simp
  | x :: l, k + 1 => by
    simp only [List.map_cons, List.eraseIdx_cons_succ]
    rw [erase_map f l k]
theorem mixed_ok {X : Exn → En → Prop} {cs : List Int} {b : Nat} {p : Ct} {hs : List Int} (hp : PenB cs b p) (hb : b < 900) (H : Hs hs) : Wp X (m__law_mixed_things [.io p, .v (T hs)]) fun rv z => ∃ (L : List (List Int)) (c : Ct) (t : List Sl), rv = .o (.l (L.map fun a => T a)) ∧ L.Perm (thgs hs) ∧ z = .io c :: t ∧ PenB cs (b + 16) c := by
  refine po_fnK fun Y K hY hK _ => ?_
  unfold b__law_mixed_things
  refine po_step fun K1 h1 _ _ _ => ?_
  simp
  refine po_mono (things_ok H) ?_
  rintro _ _ rfl
  simp
  refine h1 _ ?_
  refine po_step fun K2 h2 _ _ _ => ?_
  simp
  refine h2 _ ?_
  refine po_step fun K3 h3 _ _ _ => ?_
  refine po_while (fun n r => ∃ (lf fd : List (List Int)) (c : Ct), r = [.io c, .v (T hs), .o (.l (lf.map fun a => T a)), .o (.l (fd.map fun a => T a))] ∧ n = lf.length ∧ (fd ++ lf).Perm (thgs hs) ∧ PenB cs (b + fd.length) c) ?_ (thgs hs).length _ ⟨thgs hs, [], p, rfl, rfl, List.Perm.refl _, hp⟩
  rintro n r ⟨lf, fd, c, rfl, rfl, pm, hp⟩
  have hlen := pm.length_eq
  rw [List.length_append] at hlen
  have h16 := H.2.2.1
  simp [ne_nil]
  by_cases hl : lf = []
  · simp [hl]
    refine h3 _ ?_
    simp
    subst hl
    rw [List.append_nil] at pm
    simp at hlen
    exact hK _ _ _ rfl ⟨fd, c, _, rfl, pm, rfl, hp.le (by omega)⟩
  · have hl0 : 0 < lf.length := List.length_pos_iff.mpr hl
    simp [hl]
    refine po_mono (F.draw_ok hp (by omega) (by omega) (by omega)) ?_
    rintro _ _ ⟨w, c, t, rfl, w0, w1, rfl, hp⟩
    obtain ⟨k, rfl⟩ := Int.eq_ofNat_of_zero_le w0
    have hk : k < lf.length := by omega
    obtain ⟨y, ey⟩ : ∃ y, lf[k]? = some y := ⟨_, List.getElem?_eq_getElem hk⟩
    have ep := popD_n (lf.map fun a => T a) k (T y) (by omega) (by rw [List.getElem?_map, ey]; rfl)
    have ee : (lf.map fun a => T a).eraseIdx k = (lf.eraseIdx k).map fun a => T a := erase_map _ _ _
    simp [ep]
    have hsz : fd.length < 16777216 := by omega
    simp [hsz]
    refine ⟨lf.length - 1, by omega, lf.eraseIdx k, fd ++ [y], ⟨c, ⟨⟨rfl, by rw [ee], by simp⟩, ?_, ?_, ?_⟩⟩⟩
    · rw [List.length_eraseIdx, if_pos hk]
    · refine List.Perm.trans ?_ pm
      rw [List.append_assoc]
      exact List.Perm.append_left fd (perm_erase lf k y ey)
    · exact hp.le (by simp; omega)
theorem sum_ok {X : Exn → En → Prop} {hs as bs : List Int} (H : Ho hs) (A : Th hs as) (B : Th hs bs) : Wp X (m__law_sum [.v (T hs), .v (T as), .v (T bs)]) fun rv _ => rv = .v (T (pl hs as bs)) := by
  refine po_fnK fun Y K hY hK _ => ?_
  unfold b__law_sum
  have hl6 := H.1
  simp
  refine ⟨by omega, ?_⟩
  rw [rng_map]
  refine po_compM (g := fun i : Nat => PyData.int (((as[i]?).getD 0 + (bs[i]?).getD 0) % ((hs[i]?).getD 1))) (fun r => ∃ a, r = [.v (T hs), .v (T as), .v (T bs), a]) (List.range hs.length) [] _ ⟨_, rfl⟩ (by simp; omega) ?_ ?_
  · rintro i hi r ⟨a, rfl⟩
    have hi := List.mem_range.mp hi
    obtain ⟨x, e1⟩ := at_len (hs := as) (i := i) (by rw [A.1]; exact hi)
    obtain ⟨y, e2⟩ := at_len (hs := bs) (i := i) (by rw [B.1]; exact hi)
    obtain ⟨h, e3⟩ := at_len (hs := hs) (i := i) hi
    have hh := H.at e3
    have h0 : ¬ h = 0 := by omega
    refine ⟨[.v (T hs), .v (T as), .v (T bs), .v (.int i)], by simp, ?_⟩
    simp [e1, e2, e3, h0]
    exact Int.fmod_eq_emod_of_nonneg _ (by omega)
  · rintro r ⟨a, rfl⟩
    have e : ((List.range hs.length).map fun i : Nat => PyData.int (((as[i]?).getD 0 + (bs[i]?).getD 0) % ((hs[i]?).getD 1))) = (pl hs as bs).map .int := by
      apply List.ext_getElem?
      intro i
      rw [List.getElem?_map, List.getElem?_map]
      by_cases hi : i < hs.length
      · obtain ⟨x, e1⟩ := at_len (hs := as) (i := i) (by rw [A.1]; exact hi)
        obtain ⟨y, e2⟩ := at_len (hs := bs) (i := i) (by rw [B.1]; exact hi)
        obtain ⟨h, e3⟩ := at_len (hs := hs) (i := i) hi
        rw [pl_at e3 e1 e2]
        simp [List.getElem?_range hi, e1, e2, e3]
      · rw [List.getElem?_eq_none (by simp; omega), List.getElem?_eq_none (by rw [(pl_th H A B).1]; omega)]
        rfl
    simp [e]
    exact hK _ _ _ rfl rfl
structure LOk (hs : List Int) (L : List (List Int)) : Prop where
  nd : L.Nodup
  mem : ∀ x, x ∈ L ↔ Th hs x
  len : L.length ≤ 16
theorem lok {hs : List Int} {L : List (List Int)} (H : Hs hs) (p : L.Perm (thgs hs)) : LOk hs L := ⟨p.nodup_iff.mpr H.2.2.2, fun x => p.mem_iff.trans mem_thgs, by rw [p.length_eq]; exact H.2.2.1⟩
def tf (hs : List Int) (L : List (List Int)) (i j : Nat) : Nat := L.idxOf (pl hs (L.getD i []) (L.getD j []))
def tab (n : Nat) (f : Nat → Nat → Nat) : List D := (List.range n).map fun i => .list ((List.range n).map fun j => .int (f i j : Nat))
theorem map_rng {α β : Type} (g : α → β) (d : α) (L : List α) : L.map g = (List.range L.length).map fun i => g (L.getD i d) := by
  apply List.ext_getElem?
  intro i
  rw [List.getElem?_map, List.getElem?_map]
  by_cases h : i < L.length
  · rw [List.getElem?_eq_getElem h, List.getElem?_range h]
    simp [List.getD, List.getElem?_eq_getElem h]
  · rw [List.getElem?_eq_none (by omega), List.getElem?_eq_none (by simp; omega)]
    rfl
theorem tab_eq (hs : List Int) (L : List (List Int)) : (L.map fun a => PyData.list (L.map fun b => .int (L.idxOf (pl hs a b) : Nat))) = tab L.length (tf hs L) := by
  rw [map_rng _ [] L]
  unfold tab
  congr 1
  funext i
  rw [map_rng _ [] L]
  rfl
theorem idx_ok {L : List (List Int)} {x : List Int} (h : x ∈ L) : indexD (.list (L.map fun a => T a)) (T x) = some (.int (L.idxOf x : Nat)) := by
  rw [indexD_l _ _ ⟨shaped_t x, shaped_TT L⟩, List.findIdx?_map]
  have e : ((fun z => PyData.eqv z (T x)) ∘ fun a => T a) = fun a => a == x := by
    funext a
    show PyData.eqvAll (a.map .int) (x.map .int) = _
    rw [eqv_ints, Bool.eq_iff_iff]
    simp
  rw [e, List.findIdx?_eq_some_iff_findIdx_eq.mpr ⟨List.idxOf_lt_length_of_mem h, rfl⟩]
  rfl
theorem table_ok {X : Exn → En → Prop} {hs : List Int} {L : List (List Int)} (H : Ho hs) (O : LOk hs L) : Wp X (m__law_table [.v (T hs), .v (.list (L.map fun a => T a))]) fun rv _ => rv = .o (.l (tab L.length (tf hs L))) := by
  refine po_fnK fun Y K hY hK _ => ?_
  unfold b__law_table
  have hl := O.len
  simp
  refine po_compM (g := fun a => PyData.list (L.map fun b => .int (L.idxOf (pl hs a b) : Nat))) (fun r => ∃ a, r = [.v (T hs), .v (.list (L.map fun a => T a)), a, .unk]) L [] _ ⟨_, rfl⟩ (by simp; omega) ?_ ?_
  · rintro a ha r ⟨s, rfl⟩
    have A := (O.mem a).mp ha
    refine ⟨[.v (T hs), .v (.list (L.map fun a => T a)), .v (T a), .unk], by simp, ?_⟩
    simp
    refine po_compM (g := fun b => PyData.int (L.idxOf (pl hs a b) : Nat)) (fun r => ∃ s, r = [.v (T hs), .v (.list (L.map fun a => T a)), .v (T a), s]) L [] _ ⟨_, rfl⟩ (by simp; omega) ?_ ?_
    · rintro b hb r ⟨s, rfl⟩
      have B := (O.mem b).mp hb
      refine ⟨[.v (T hs), .v (.list (L.map fun a => T a)), .v (T a), .v (T b)], by simp, ?_⟩
      simp
      refine po_mono (sum_ok H A B) ?_
      rintro _ _ rfl
      simp [idx_ok ((O.mem _).mpr (pl_th H A B))]
    · rintro r ⟨s, rfl⟩
      simp
  · rintro r ⟨s, rfl⟩
    simp
    refine hK _ _ _ rfl ?_
    rw [tab_eq]
/-! ### a table let by -/
structure Grp (n : Nat) (f : Nat → Nat → Nat) (z : Nat) : Prop where
  n16 : n ≤ 16
  zn : z < n
  lt : ∀ i j, i < n → j < n → f i j < n
  comm : ∀ i j, i < n → j < n → f i j = f j i
  assoc : ∀ i j k, i < n → j < n → k < n → f (f i j) k = f i (f j k)
  zl : ∀ a, a < n → f z a = a
  inv : ∀ a, a < n → ∃ b, b < n ∧ f a b = z
section
variable {n : Nat} {f : Nat → Nat → Nat} {z : Nat}
theorem tab_at {i : Nat} (h : i < n) : (tab n f)[i]? = some (.list ((List.range n).map fun j => .int (f i j : Nat))) := by
  unfold tab
  rw [List.getElem?_map, List.getElem?_range h]
  rfl
theorem row_at (i : Nat) {j : Nat} (h : j < n) : ((List.range n).map fun j => PyData.int (f i j : Nat))[j]? = some (.int (f i j : Nat)) := by
  rw [List.getElem?_map, List.getElem?_range h]
  rfl
theorem tab_len : (tab n f).length = n := by simp [tab]
theorem whole_ok {X : Exn → En → Prop} (i : Int) : Wp X (m_is_whole [.v (.int i)]) fun rv _ => rv = .v (.bool true) := by
  refine po_fn ?_
  unfold b_is_whole
  simp
theorem square_ok {X : Exn → En → Prop} (G : Grp n f z) : Wp X (m_is_square [.v (.list (tab n f))]) fun rv _ => rv = .v (.bool true) := by
  refine po_fnK fun Y K hY hK _ => ?_
  unfold b_is_square
  have h16 := G.n16
  have hz := G.zn
  have e1 : (1 : Int) ≤ (n : Int) := by omega
  have e2 : (n : Int) ≤ 16 := by omega
  refine po_step fun K1 h1 _ _ _ => ?_
  simp [tab_len, e1, e2]
  refine h1 _ ?_
  refine po_step fun K2 h2 _ _ _ => ?_
  simp [tab_len]
  refine h2 _ ?_
  refine po_step fun K3 h3 _ _ _ => ?_
  simp
  unfold tab
  refine po_forK (fun _ r => ∃ s, r = [.v (.list (tab n f)), .v (.int n), s, .unk] ∧ s.isIo = false) (List.range n) _ ⟨_, rfl, rfl⟩ ?_ ?_
  · rintro done i rest r e ⟨s, rfl, q⟩
    have hi : i < n := List.mem_range.mp (by rw [e]; simp)
    refine ⟨[.v (.list (tab n f)), .v (.int n), .v (.list ((List.range n).map fun j => .int (f i j : Nat))), .unk], by simp [q], fun K4 h4 _ _ _ => ?_⟩
    refine po_step fun K5 h5 _ _ _ => ?_
    simp
    refine h5 _ ?_
    simp
    refine po_compM (g := fun _ => PyData.bool true) (fun r => ∃ s, r = [.v (.list (tab n f)), .v (.int n), .v (.list ((List.range n).map fun j => .int (f i j : Nat))), s]) (List.range n) [] _ ⟨_, rfl⟩ (by simp; omega) ?_ ?_
    · rintro j hj r ⟨s, rfl⟩
      have hj := List.mem_range.mp hj
      have hf := G.lt i j hi hj
      refine ⟨[.v (.list (tab n f)), .v (.int n), .v (.list ((List.range n).map fun j => .int (f i j : Nat))), .v (.int (f i j : Nat))], by simp, ?_⟩
      simp
      refine po_mono (whole_ok _) ?_
      rintro _ _ rfl
      have e3 : (0 : Int) ≤ (f i j : Nat) := by omega
      have e4 : ((f i j : Nat) : Int) < n := by omega
      simp [e3, e4, hf]
    · rintro r ⟨s, rfl⟩
      simp
      exact h4 _ ⟨_, rfl, rfl⟩
  · rintro r ⟨s, rfl, q⟩
    refine h3 _ ?_
    simp
    exact hK _ _ _ rfl rfl
theorem nought_ok {X : Exn → En → Prop} (G : Grp n f z) : Wp X (m_nought_number [.v (.list (tab n f))]) fun rv _ => rv = .v (.int z) := by
  refine po_fnK fun Y K hY hK _ => ?_
  unfold b_nought_number
  have h16 := G.n16
  have hz := G.zn
  refine po_step fun K1 h1 _ _ _ => ?_
  simp [tab_len]
  refine h1 _ ?_
  refine po_step fun K2 h2 r2 _ _ => ?_
  simp
  refine ⟨by omega, ?_⟩
  refine po_rngK (fun i r => i ≤ z ∧ ∃ s, r = [.v (.list (tab n f)), .v (.int n), s, .unk] ∧ s.isIo = false) n _ ⟨by omega, _, rfl, rfl⟩ ?_ ?_
  · rintro i r hi ⟨hiz, s, rfl, q⟩
    refine ⟨[.v (.list (tab n f)), .v (.int n), .v (.int i), .unk], by simp [q], fun K3 h3 r3 _ _ => ?_⟩
    simp
    refine ⟨by omega, ?_⟩
    rw [rng_map]
    refine po_compM (g := fun a : Nat => PyData.bool (decide (f i a = a) && decide (f a i = a))) (fun r => ∃ s, r = [.v (.list (tab n f)), .v (.int n), .v (.int i), s]) (List.range n) [] _ ⟨_, rfl⟩ (by simp; omega) ?_ ?_
    · rintro a ha r ⟨s, rfl⟩
      have ha := List.mem_range.mp ha
      refine ⟨[.v (.list (tab n f)), .v (.int n), .v (.int i), .v (.int a)], by simp, ?_⟩
      by_cases c1 : f i a = a
      · simp [tab_at hi, tab_at ha, row_at i ha, row_at a hi, c1]
        by_cases c2 : f a i = a
        · simp [c2]
        · simp [c2]
          omega
      · simp [tab_at hi, tab_at ha, row_at i ha, row_at a hi, c1]
        intro hq
        omega
    · rintro r ⟨s, rfl⟩
      have eb : boolsOf ((List.range n).map fun a => PyData.bool (decide (f i a = a) && decide (f a i = a))) = some ((List.range n).map fun a => decide (f i a = a) && decide (f a i = a)) := boolsOf_map (fun a : Nat => decide (f i a = a) && decide (f a i = a)) _
      by_cases hiz2 : i = z
      · have ea : ((List.range n).map fun a => decide (f i a = a) && decide (f a i = a)).all id = true := by
          simp
          intro a ha
          subst hiz2
          exact ⟨G.zl a ha, by rw [G.comm a i ha hi, G.zl a ha]⟩
        simp [eb, ea, -List.all_map]
        refine r3 _ _ (r2 _ _ ?_)
        exact hK _ _ _ rfl (by rw [hiz2])
      · have ea : ((List.range n).map fun a => decide (f i a = a) && decide (f a i = a)).all id = false := by
          rw [List.all_eq_false]
          refine ⟨decide (f i z = z) && decide (f z i = z), List.mem_map.mpr ⟨z, List.mem_range.mpr hz, rfl⟩, ?_⟩
          have : f z i = i := G.zl i hi
          simp [this]
          intro _
          exact hiz2
        simp [eb, ea, -List.all_map]
        exact h3 _ ⟨by omega, _, rfl, rfl⟩
  · rintro r ⟨hiz, -⟩
    omega
theorem pairs_ok {X : Exn → En → Prop} (G : Grp n f z) : Wp X (m_need_pairs [.v (.list (tab n f))]) fun rv _ => rv = .v .none := by
  refine po_fnK fun Y K hY hK hN => ?_
  unfold b_need_pairs
  have h16 := G.n16
  simp [tab_len]
  refine ⟨by omega, ?_⟩
  refine po_rngK (fun i r => ∃ s s', r = [.v (.list (tab n f)), s, s'] ∧ s.isIo = false ∧ s'.isIo = false) n _ ⟨_, _, rfl, rfl, rfl⟩ ?_ ?_
  · rintro i r hi ⟨s, s', rfl, q, q'⟩
    refine ⟨[.v (.list (tab n f)), .v (.int i), s'], by simp [q], fun K3 h3 r3 _ _ => ?_⟩
    simp [tab_len]
    refine ⟨by omega, ?_⟩
    refine po_rngK (fun j r => ∃ s', r = [.v (.list (tab n f)), .v (.int i), s'] ∧ s'.isIo = false) n _ ⟨_, rfl, q'⟩ ?_ ?_
    · rintro j r hj ⟨s', rfl, q'⟩
      refine ⟨[.v (.list (tab n f)), .v (.int i), .v (.int j)], by simp [q'], fun K4 h4 _ _ _ => ?_⟩
      simp [tab_at hi, tab_at hj, row_at i hj, row_at j hi, G.comm i j hi hj]
      exact h4 _ ⟨_, rfl, rfl⟩
    · rintro r ⟨s', rfl, q'⟩
      exact h3 _ ⟨_, _, rfl, rfl, q'⟩
  · rintro r ⟨s, s', rfl, -⟩
    exact hN _ _ rfl rfl
theorem triples_ok {X : Exn → En → Prop} (G : Grp n f z) : Wp X (m_need_triples [.v (.list (tab n f))]) fun rv _ => rv = .v .none := by
  refine po_fnK fun Y K hY hK hN => ?_
  unfold b_need_triples
  have h16 := G.n16
  simp [tab_len]
  refine ⟨by omega, ?_⟩
  refine po_rngK (fun i r => ∃ s s' s3 s4, r = [.v (.list (tab n f)), s, s', s3, s4] ∧ s.isIo = false ∧ s'.isIo = false ∧ s3.isIo = false ∧ s4.isIo = false) n _ ⟨_, _, _, _, rfl, rfl, rfl, rfl, rfl⟩ ?_ ?_
  · rintro i r hi ⟨s, s', s3, s4, rfl, q, q', q3, q4⟩
    refine ⟨[.v (.list (tab n f)), .v (.int i), s', s3, s4], by simp [q], fun K3 h3 r3 _ _ => ?_⟩
    simp [tab_len]
    refine ⟨by omega, ?_⟩
    refine po_rngK (fun j r => ∃ s' s3 s4, r = [.v (.list (tab n f)), .v (.int i), s', s3, s4] ∧ s'.isIo = false ∧ s3.isIo = false ∧ s4.isIo = false) n _ ⟨_, _, _, rfl, q', q3, q4⟩ ?_ ?_
    · rintro j r hj ⟨s', s3, s4, rfl, q', q3, q4⟩
      refine ⟨[.v (.list (tab n f)), .v (.int i), .v (.int j), s3, s4], by simp [q'], fun K4 h4 _ _ _ => ?_⟩
      simp [tab_at hj]
      refine po_forK (fun _ r => ∃ s3 s4, r = [.v (.list (tab n f)), .v (.int i), .v (.int j), s3, s4] ∧ s3.isIo = false ∧ s4.isIo = false) ((List.range n).zipIdx 0) _ ⟨_, _, rfl, q3, q4⟩ ?_ ?_
      · rintro done ⟨k, k'⟩ rest r e ⟨s3, s4, rfl, q3, q4⟩
        have hk : k' = k ∧ k < n := by
          have := List.mem_zipIdx (show (k, k') ∈ (List.range n).zipIdx 0 by rw [e]; simp)
          simp at this
          omega
        obtain ⟨rfl, hk⟩ := hk
        refine ⟨[.v (.list (tab n f)), .v (.int i), .v (.int j), .v (.int k'), .v (.int (f j k' : Nat))], by simp [q3, q4], fun K5 h5 _ _ _ => ?_⟩
        have hij := G.lt i j hi hj
        have hjk := G.lt j k' hj hk
        simp [tab_at hi, row_at i hj, tab_at hij, row_at (f i j) hk, row_at i hjk, G.assoc i j k' hi hj hk]
        exact h5 _ ⟨_, _, rfl, rfl, rfl⟩
      · rintro r ⟨s3, s4, rfl, q3, q4⟩
        exact h4 _ ⟨_, _, _, rfl, rfl, q3, q4⟩
    · rintro r ⟨s', s3, s4, rfl, q', q3, q4⟩
      exact h3 _ ⟨_, _, _, _, rfl, rfl, q', q3, q4⟩
  · rintro r ⟨s, s', s3, s4, rfl, -⟩
    exact hN _ _ rfl rfl
theorem lets_ok {X : Exn → En → Prop} (G : Grp n f z) : Wp X (m_lets_table [.v (.list (tab n f))]) fun rv _ => rv = .v (.bool true) := by
  refine po_fnK fun Y K hY hK _ => ?_
  unfold b_lets_table
  have h16 := G.n16
  have hz := G.zn
  refine po_step fun K1 h1 _ _ _ => ?_
  simp
  refine po_mono (square_ok G) ?_
  rintro _ _ rfl
  simp
  refine h1 _ ?_
  refine po_step fun K2 h2 _ _ _ => ?_
  simp
  refine po_mono (nought_ok G) ?_
  rintro _ _ rfl
  simp
  refine h2 _ ?_
  refine po_step fun K3 h3 _ _ _ => ?_
  have ei : isD (.int (z : Nat)) .none = some (.bool false) := rfl
  simp [ei]
  refine h3 _ ?_
  refine po_step fun K4 h4 _ _ _ => ?_
  simp
  refine po_mono (pairs_ok G) ?_
  rintro _ _ rfl
  refine h4 _ ?_
  refine po_step fun K5 h5 _ _ _ => ?_
  simp
  refine po_mono (triples_ok G) ?_
  rintro _ _ rfl
  refine h5 _ ?_
  refine po_step fun K6 h6 _ _ _ => ?_
  have ee : enOf [.list (tab n f)] = some (((List.range n).zipIdx 0).map fun p => .tuple [.int (p.2 : Nat), .list ((List.range n).map fun j => .int (f p.1 j : Nat))]) := enOf_l (fun i => PyData.list ((List.range n).map fun j => .int (f i j : Nat))) (List.range n)
  simp [ee]
  refine po_forK (fun _ r => ∃ s3 s4, r = [.v (.list (tab n f)), .v (.int z), s3, s4] ∧ s3.isIo = false ∧ s4.isIo = false) ((List.range n).zipIdx 0) _ ⟨_, _, rfl, rfl, rfl⟩ ?_ ?_
  · rintro done ⟨k, k'⟩ rest r e ⟨s3, s4, rfl, q3, q4⟩
    have hk : k' = k ∧ k < n := by
      have := List.mem_zipIdx (show (k, k') ∈ (List.range n).zipIdx 0 by rw [e]; simp)
      simp at this
      omega
    obtain ⟨rfl, hk⟩ := hk
    refine ⟨[.v (.list (tab n f)), .v (.int z), .v (.int k'), .v (.list ((List.range n).map fun j => .int (f k' j : Nat)))], by simp [q3, q4], fun K7 h7 _ _ _ => ?_⟩
    have er : ((List.range n).map fun j => PyData.int (f k' j : Nat)) = ((List.range n).map fun j => ((f k' j : Nat) : Int)).map .int := by simp
    have en : ninD (.int (z : Nat)) (.list ((List.range n).map fun j => PyData.int (f k' j : Nat))) = some (.bool false) := by
      rw [ninD_l _ _ ⟨rfl, by rw [er]; exact shaped_l _⟩]
      obtain ⟨b, hb, eb⟩ := G.inv k' hk
      have : (((List.range n).map fun j => PyData.int (f k' j : Nat)).any fun y => PyData.eqv y (.int (z : Nat))) = true := by
        rw [List.any_eq_true]
        refine ⟨.int (f k' b : Nat), List.mem_map.mpr ⟨b, List.mem_range.mpr hb, rfl⟩, ?_⟩
        rw [eb]
        show ((z : Int) == (z : Int)) = true
        simp
      rw [this]
      rfl
    simp [en]
    exact h7 _ ⟨_, _, rfl, rfl, rfl⟩
  · rintro r ⟨s3, s4, rfl, -⟩
    refine h6 _ ?_
    simp
    exact hK _ _ _ rfl rfl
end
theorem grp {hs : List Int} {L : List (List Int)} (H : Ho hs) (O : LOk hs L) : Grp L.length (tf hs L) (L.idxOf (no hs)) := by
  have at_ : ∀ i, i < L.length → Th hs (L.getD i []) := fun i hi => (O.mem _).mp (by
    rw [List.getD, List.getElem?_eq_getElem hi]
    exact List.getElem_mem _)
  have back : ∀ x, Th hs x → L.getD (L.idxOf x) [] = x := fun x hx => by
    have h := List.idxOf_lt_length_of_mem ((O.mem x).mpr hx)
    rw [List.getD, List.getElem?_eq_getElem h]
    exact List.getElem_idxOf h
  have idx : ∀ i, i < L.length → L.idxOf (L.getD i []) = i := fun i hi => by
    rw [List.getD, List.getElem?_eq_getElem hi]
    exact O.nd.idxOf_getElem i hi
  have lt : ∀ x, Th hs x → L.idxOf x < L.length := fun x hx => List.idxOf_lt_length_of_mem ((O.mem x).mpr hx)
  exact {
    n16 := O.len
    zn := lt _ (no_th H)
    lt := fun i j hi hj => lt _ (pl_th H (at_ i hi) (at_ j hj))
    comm := fun i j hi hj => by
      unfold tf
      rw [q_comm H (at_ i hi) (at_ j hj)]
    assoc := fun i j k hi hj hk => by
      unfold tf
      rw [back _ (pl_th H (at_ i hi) (at_ j hj)), back _ (pl_th H (at_ j hj) (at_ k hk)), q_assoc H (at_ i hi) (at_ j hj) (at_ k hk)]
    zl := fun a ha => by
      unfold tf
      rw [back _ (no_th H), q_comm H (no_th H) (at_ a ha), q_zero H (at_ a ha), idx a ha]
    inv := fun a ha => by
      refine ⟨L.idxOf (mi hs (no hs) (L.getD a [])), lt _ (mi_th H (no_th H) (at_ a ha)), ?_⟩
      unfold tf
      rw [back _ (mi_th H (no_th H) (at_ a ha)), q_comm H (at_ a ha) (mi_th H (no_th H) (at_ a ha)), q_back H (no_th H) (at_ a ha)] }
end K74
namespace K74
open PySem Pu L2
section
variable {n : Nat} {f : Nat → Nat → Nat} {z : Nat}
/-- the sums of a table -/
noncomputable def gab (G : Grp n f z) : Gn.Ab (Fin n) where
  f := fun a b => ⟨f a b, G.lt a b a.2 b.2⟩
  z := ⟨z, G.zn⟩
  n := fun a => ⟨Classical.choose (G.inv a a.2), (Classical.choose_spec (G.inv a a.2)).1⟩
  zl := fun a => Fin.ext (G.zl a a.2)
  cm := fun a b => Fin.ext (G.comm a b a.2 b.2)
  as := fun a b c => Fin.ext (G.assoc a b c a.2 b.2 c.2)
  nl := fun a => Fin.ext (by
    show f (Classical.choose (G.inv a a.2)) a = z
    have := Classical.choose_spec (G.inv a a.2)
    rw [G.comm _ _ this.1 a.2]
    exact this.2)
theorem allF (n : Nat) : ∀ a : Fin n, a ∈ List.finRange n := fun a => List.mem_finRange a
def kvD (kv : List (Fin n × List Nat)) : List (Nat × D) := kv.map fun q => (q.1.val, F.N q.2)
theorem kvD_nd {kv : List (Fin n × List Nat)} (h : (kv.map (·.1)).Nodup) : ((kvD kv).map (·.1)).Nodup := by
  unfold kvD
  rw [List.map_map]
  have e : (kv.map ((fun q : Nat × D => q.1) ∘ fun q : Fin n × List Nat => (q.1.val, F.N q.2))) = (kv.map (·.1)).map Fin.val := by
    rw [List.map_map]
    rfl
  rw [e]
  exact List.Pairwise.map _ (fun a b h e => h (Fin.ext e)) h
theorem kvD_in {kv : List (Fin n × List Nat)} {a : Fin n} {x : List Nat} (h : (a, x) ∈ kv) : (a.val, F.N x) ∈ kvD kv := List.mem_map.mpr ⟨_, h, rfl⟩
theorem kvD_not {kv : List (Fin n × List Nat)} {a : Fin n} (h : ¬ Gn.keys kv a) : ∀ d, (a.val, d) ∉ kvD kv := fun d hd => by
  obtain ⟨q, hq, e⟩ := List.mem_map.mp hd
  injection e with e1 e2
  exact h ⟨q.2, by rw [← Fin.ext e1]; exact hq⟩
theorem kvD_ne {kv : List (Fin n × List Nat)} (h : kv ≠ []) : kvD kv ≠ [] := fun e => h (List.map_eq_nil_iff.mp e)
theorem kvD_len (kv : List (Fin n × List Nat)) : (kvD kv).length = kv.length := List.length_map _
theorem s_val (G : Grp n f z) (a : Fin n) (k : Nat) : ((gab G).s (k + 1) a).val = f ((gab G).s k a).val a.val := rfl
theorem often_ok {X : Exn → En → Prop} (G : Grp n f z) (a : Fin n) (m : Nat) (hm : m ≤ 100) : Wp X (m_so_often [.v (.list (tab n f)), .v (.int (m : Nat)), .v (.int (a.val : Nat))]) fun rv _ => rv = .v (.int (((gab G).s m a).val : Nat)) := by
  refine po_fnK fun Y K hY hK _ => ?_
  unfold b_so_often
  refine po_step fun K1 h1 _ _ _ => ?_
  simp [-po_comp]
  refine po_mono (nought_ok G) ?_
  rintro rv z2 rfl
  simp [-po_comp]
  refine h1 _ ?_
  refine po_step fun K2 h2 r2 _ _ => ?_
  simp [-po_comp]
  refine ⟨by omega, ?_⟩
  refine po_rng (fun i r => i ≤ m ∧ ∃ s, r = [.v (.list (tab n f)), .v (.int (m : Nat)), .v (.int (a.val : Nat)), .v (.int (((gab G).s i a).val : Nat)), s] ∧ s.isIo = false) m _ ⟨by omega, _, rfl, rfl⟩ ?_ ?_
  · rintro i r hi ⟨hle, s, rfl, hs⟩
    refine ⟨[.v (.list (tab n f)), .v (.int (m : Nat)), .v (.int (a.val : Nat)), .v (.int (((gab G).s i a).val : Nat)), .v (.int (0 + (i : Nat)))], by simp [-po_comp, hs], ?_⟩
    simp [-po_comp, tab_at ((gab G).s i a).2, row_at ((gab G).s i a).val a.2, s_val]
    omega
  · rintro r ⟨hle, s, rfl, hs⟩
    refine h2 _ ?_
    simp [-po_comp]
    exact hK _ _ _ rfl rfl
theorem outer_ok {X : Exn → En → Prop} (G : Grp n f z) {kv : List (Fin n × List Nat)} (nd : (kv.map (·.1)).Nodup) (sb : Gn.Sb (gab G) (Gn.keys kv)) (a : Fin n) {M : Nat} (hM : Gn.Ot (gab G) (Gn.keys kv) a M) :
    Wp X (m_outer_turn [.v (.list (tab n f)), .v (fdt (kvD kv)), .v (.int (a.val : Nat))]) fun rv _ => rv = .v (.int (M : Nat)) := by
  have ne : kv ≠ [] := fun e => by
    obtain ⟨x, hx⟩ := sb.z
    rw [e] at hx
    cases hx
  refine po_fnK fun Y K hY hK _ => ?_
  unfold b_outer_turn
  refine po_step fun K1 h1 _ _ _ => ?_
  simp [-po_comp]
  refine h1 _ ?_
  refine po_step fun K2 h2 _ _ _ => ?_
  simp [-po_comp]
  refine h2 _ ?_
  refine po_step fun K3 h3 _ _ _ => ?_
  have q1 := (gab G).s_one a
  refine po_while (fun c r => ∃ m, c = M - m ∧ 1 ≤ m ∧ m ≤ M ∧ r = [.v (.list (tab n f)), .v (fdt (kvD kv)), .v (.int (a.val : Nat)), .v (.int (((gab G).s m a).val : Nat)), .v (.int (m : Nat))]) ?_ (M - 1) _ ⟨1, rfl, Nat.le_refl _, hM.p, by rw [q1]; rfl⟩
  rintro c r ⟨m, rfl, m1, m2, rfl⟩
  by_cases hk : Gn.keys kv ((gab G).s m a)
  · obtain ⟨x, hx⟩ := hk
    have e := (in_fd_y (kvD_nd nd) (kvD_in hx)).2
    have em : m = M := by
      rcases Nat.lt_or_ge m M with h | h
      · exact absurd ⟨x, hx⟩ (hM.l m m1 h)
      · omega
    subst em
    simp [-po_comp, e]
    refine h3 _ ?_
    simp [-po_comp]
    exact hK _ _ _ rfl rfl
  · have e := (in_fd_n (kvD_ne ne) (kvD_not hk)).2
    have hlt : m < M := by
      rcases Nat.lt_or_ge m M with h | h
      · exact h
      · have : m = M := by omega
        subst this
        exact absurd hM.i hk
    simp [-po_comp, e, po_seq, tab_at ((gab G).s m a).2, row_at ((gab G).s m a).val a.2]
    refine ⟨M - (m + 1), by omega, m + 1, rfl, by omega, hlt, ?_⟩
    simp [-po_comp, s_val]
end
end K74
namespace K74.F
open PySem Pu L2
/-! ### primes, how often they divide -/
def prm (p : Nat) : Prop := 2 ≤ p ∧ ∀ d, d ∣ p → d = 1 ∨ d = p
theorem prm_co {p a : Nat} (hp : prm p) (h : ¬ p ∣ a) : Nat.Coprime p a := by
  have h1 := hp.2 _ (Nat.gcd_dvd_left p a)
  rcases h1 with h1 | h1
  · exact h1
  · exact absurd (h1 ▸ Nat.gcd_dvd_right p a) h
theorem prm_mul {p a b : Nat} (hp : prm p) (h : p ∣ a * b) : p ∣ a ∨ p ∣ b := by
  by_cases ha : p ∣ a
  · exact .inl ha
  · exact .inr ((prm_co hp ha).dvd_of_dvd_mul_left h)
theorem prm_ex : ∀ n : Nat, 2 ≤ n → ∃ p, prm p ∧ p ∣ n := by
  intro n
  induction n using Nat.strongRecOn with
  | ind n ih =>
    intro h
    by_cases hp : prm n
    · exact ⟨n, hp, Nat.dvd_refl _⟩
    · have : ∃ d, d ∣ n ∧ d ≠ 1 ∧ d ≠ n := by
        refine Classical.byContradiction fun z => hp ⟨h, fun d hd => ?_⟩
        refine Classical.byContradiction fun y => z ⟨d, hd, fun e => y (.inl e), fun e => y (.inr e)⟩
      obtain ⟨d, hd, d1, d2⟩ := this
      have hd0 : d ≠ 0 := by
        intro e
        subst e
        have := Nat.eq_zero_of_zero_dvd hd
        omega
      have hle := Nat.le_of_dvd (by omega) hd
      obtain ⟨p, h1, h2⟩ := ih d (by omega) (by omega)
      exact ⟨p, h1, Nat.dvd_trans h2 hd⟩
def vpF (p : Nat) : Nat → Nat → Nat
  | 0, _ => 0
  | f + 1, n => if 2 ≤ p ∧ 1 ≤ n ∧ n % p = 0 then vpF p f (n / p) + 1 else 0
def vp (p n : Nat) : Nat := vpF p n n
theorem vpF_eq (p : Nat) : ∀ (f g n : Nat), n ≤ f → n ≤ g → vpF p f n = vpF p g n := by
  intro f
  induction f with
  | zero =>
    intro g n h1 h2
    have : n = 0 := by omega
    subst this
    cases g with
    | zero => rfl
    | succ g => simp [vpF]
  | succ f ih =>
    intro g n h1 h2
    cases g with
    | zero =>
      have : n = 0 := by omega
      subst this
      simp [vpF]
    | succ g =>
      unfold vpF
      by_cases h : 2 ≤ p ∧ 1 ≤ n ∧ n % p = 0
      · rw [if_pos h, if_pos h]
        have : n / p < n := Nat.div_lt_self (by omega) (by omega)
        rw [ih g (n / p) (by omega) (by omega)]
      · rw [if_neg h, if_neg h]
theorem vp_mulp {p n : Nat} (hp : 2 ≤ p) (hn : 1 ≤ n) : vp p (p * n) = vp p n + 1 := by
  unfold vp
  have h2 : n < p * n := by
    have : 2 * n ≤ p * n := Nat.mul_le_mul_right _ hp
    omega
  obtain ⟨f, hf⟩ : ∃ f, p * n = f + 1 := ⟨p * n - 1, by omega⟩
  rw [hf]
  conv => lhs; unfold vpF
  rw [← hf, if_pos ⟨hp, by omega, Nat.mul_mod_right p n⟩, Nat.mul_div_cancel_left _ (by omega)]
  rw [vpF_eq p f n n (by omega) (Nat.le_refl _)]
theorem vp_no {p n : Nat} (h : ¬ p ∣ n) : vp p n = 0 := by
  unfold vp
  cases n with
  | zero => rfl
  | succ n =>
    unfold vpF
    rw [if_neg fun z => h (Nat.dvd_of_mod_eq_zero z.2.2)]
theorem vp_pow {p : Nat} (hp : 2 ≤ p) {n : Nat} (hn : 1 ≤ n) (k : Nat) : vp p (p ^ k * n) = k + vp p n := by
  induction k with
  | zero => simp
  | succ k ih =>
    have : 1 ≤ p ^ k * n := Nat.mul_pos (Nat.pow_pos (by omega)) hn
    rw [Nat.pow_succ, Nat.mul_comm (p ^ k), Nat.mul_assoc, vp_mulp hp this, ih]
    omega
/-- n is p so often times what p does not divide -/
theorem vp_ex {p n : Nat} (hp : 2 ≤ p) (hn : 1 ≤ n) : ∃ m, n = p ^ vp p n * m ∧ ¬ p ∣ m := by
  induction n using Nat.strongRecOn with
  | ind n ih =>
    by_cases h : p ∣ n
    · obtain ⟨q, rfl⟩ := h
      have hq : 1 ≤ q := by
        rcases Nat.eq_zero_or_pos q with z | z
        · subst z; simp at hn
        · exact z
      have hlt : q < p * q := by
        have : 2 * q ≤ p * q := Nat.mul_le_mul_right _ hp
        omega
      obtain ⟨m, e, hm⟩ := ih q hlt hq
      refine ⟨m, ?_, hm⟩
      rw [vp_mulp hp hq, Nat.pow_succ, Nat.mul_comm (p ^ _), Nat.mul_assoc, ← e]
    · exact ⟨n, by rw [vp_no h]; simp, h⟩
theorem vp_uni {p n k m : Nat} (hp : 2 ≤ p) (hn : 1 ≤ n) (e : n = p ^ k * m) (hm : ¬ p ∣ m) : vp p n = k := by
  have hm1 : 1 ≤ m := by
    rcases Nat.eq_zero_or_pos m with z | z
    · subst z; rw [Nat.mul_zero] at e; omega
    · exact z
  rw [e, vp_pow hp hm1, vp_no hm, Nat.add_zero]
theorem vp_mul {p a b : Nat} (hp : prm p) (ha : 1 ≤ a) (hb : 1 ≤ b) : vp p (a * b) = vp p a + vp p b := by
  obtain ⟨m, e1, h1⟩ := vp_ex hp.1 ha
  obtain ⟨n, e2, h2⟩ := vp_ex hp.1 hb
  refine vp_uni (m := m * n) hp.1 (Nat.mul_pos ha hb) ?_ ?_
  · rw [Nat.pow_add]
    conv => lhs; rw [e1, e2]
    simp only [Nat.mul_assoc, Nat.mul_left_comm, Nat.mul_comm]
  · intro z
    rcases prm_mul hp z with z | z
    · exact h1 z
    · exact h2 z
theorem vp_pos {p n : Nat} (hp : 2 ≤ p) (hn : 1 ≤ n) : 0 < vp p n ↔ p ∣ n := by
  constructor
  · intro h
    refine Classical.byContradiction fun z => ?_
    rw [vp_no z] at h
    omega
  · rintro ⟨q, rfl⟩
    have hq : 1 ≤ q := by
      rcases Nat.eq_zero_or_pos q with z | z
      · subst z; simp at hn
      · exact z
    rw [vp_mulp hp hq]
    omega
/-- numbers by how often primes divide them -/
theorem vp_le_dvd : ∀ (a b : Nat), 1 ≤ a → 1 ≤ b → (∀ p, prm p → vp p a ≤ vp p b) → a ∣ b := by
  intro a
  induction a using Nat.strongRecOn with
  | ind a ih =>
    intro b ha hb h
    rcases Nat.lt_or_ge a 2 with h2 | h2
    · have : a = 1 := by omega
      subst this
      exact Nat.one_dvd _
    · obtain ⟨p, hp, a', rfl⟩ := prm_ex a h2
      have ha' : 1 ≤ a' := by
        rcases Nat.eq_zero_or_pos a' with z | z
        · subst z; simp at ha
        · exact z
      have hpb : p ∣ b := by
        have := h p hp
        rw [vp_mulp hp.1 ha'] at this
        exact (vp_pos hp.1 hb).mp (by omega)
      obtain ⟨b', rfl⟩ := hpb
      have hb' : 1 ≤ b' := by
        rcases Nat.eq_zero_or_pos b' with z | z
        · subst z; simp at hb
        · exact z
      have hlt : a' < p * a' := by
        have := hp.1
        have : 2 * a' ≤ p * a' := Nat.mul_le_mul_right _ hp.1
        omega
      refine Nat.mul_dvd_mul_left p (ih a' hlt b' ha' hb' fun q hq => ?_)
      have := h q hq
      rw [vp_mul hq (by have := hp.1; omega) ha', vp_mul hq (by have := hp.1; omega) hb'] at this
      omega
end K74.F
namespace K74
open PySem Pu L2
/-- a power of a prime that goes into M more often than into N -/
theorem part {M N : Nat} (hM : 1 ≤ M) (hN : 1 ≤ N) (h : ¬ M ∣ N) : ∃ p j k N0 M0, j < k ∧ 2 ≤ p ∧ N = p ^ j * N0 ∧ M = p ^ k * M0 ∧ Nat.Coprime p N0 := by
  have : ∃ p, F.prm p ∧ F.vp p N < F.vp p M := by
    apply Classical.byContradiction
    intro c
    exact h (F.vp_le_dvd M N hM hN fun p hp => Nat.le_of_not_lt fun hlt => c ⟨p, hp, hlt⟩)
  obtain ⟨p, hp, hlt⟩ := this
  obtain ⟨N0, e1, d1⟩ := F.vp_ex hp.1 hN
  obtain ⟨M0, e2, _⟩ := F.vp_ex hp.1 hM
  exact ⟨p, F.vp p N, F.vp p M, N0, M0, hlt, hp.1, e1, e2, F.prm_co hp d1⟩
theorem intsOf_map : ∀ xs : List Int, intsOf (xs.map .int) = some xs
  | [] => rfl
  | x :: xs => by
    show (intsOf (xs.map .int)).map (x :: ·) = _
    rw [intsOf_map xs]
    rfl
theorem fmax : ∀ (xs : List Int) (x : Int), xs.foldl (fun a y => max a y) x ∈ x :: xs ∧ ∀ y ∈ x :: xs, y ≤ xs.foldl (fun a y => max a y) x
  | [], x => ⟨by simp, fun y hy => by simp [-po_comp] at hy; rw [hy]; exact Int.le_refl _⟩
  | z :: xs, x => by
    rw [List.foldl_cons]
    obtain ⟨h1, h2⟩ := fmax xs (max x z)
    have hm := h2 (max x z) (List.mem_cons_self ..)
    constructor
    · rcases List.mem_cons.mp h1 with q | q
      · rw [q]
        rcases Int.le_total x z with w | w
        · rw [Int.max_eq_right w]; simp [-po_comp]
        · rw [Int.max_eq_left w]; simp [-po_comp]
      · simp [-po_comp, q]
    · intro y hy
      rcases List.mem_cons.mp hy with q | q
      · omega
      · rcases List.mem_cons.mp q with q | q
        · omega
        · exact h2 y (by simp [-po_comp, q])
theorem max_l {h : List Nat} (hne : h ≠ []) : ∃ m ∈ h, maxL (.list (h.map fun k : Nat => .int k)) = some (.int (m : Nat)) ∧ ∀ n ∈ h, n ≤ m := by
  cases h with
  | nil => exact absurd rfl hne
  | cons x xs =>
    obtain ⟨h1, h2⟩ := fmax (F.IN xs) (x : Int)
    have e : maxL (.list ((x :: xs).map fun k : Nat => .int k)) = some (.int ((F.IN xs).foldl (fun a y => max a y) (x : Int))) := by
      have e2 : ((x :: xs).map fun k : Nat => PyData.int k) = (((x : Int) :: F.IN xs).map PyData.int) := by simp [-po_comp, F.IN]
      rw [e2]
      show (intsOf (((x : Int) :: F.IN xs).map .int)).bind _ = _
      rw [intsOf_map]
      rfl
    have h1 : (F.IN xs).foldl (fun a y => max a y) (x : Int) ∈ F.IN (x :: xs) := h1
    obtain ⟨m, hm, em⟩ := List.mem_map.mp h1
    refine ⟨m, hm, by rw [e, ← em], fun n hn => ?_⟩
    have := h2 (n : Int) (by
      show (n : Int) ∈ F.IN (x :: xs)
      exact List.mem_map.mpr ⟨n, hn, rfl⟩)
    omega
theorem idx_n {L : List Nat} {x : Nat} (h : x ∈ L) : indexD (.list (L.map fun k : Nat => .int k)) (.int (x : Nat)) = some (.int (L.idxOf x : Nat)) := by
  have e0 : (L.map fun k : Nat => PyData.int k) = (F.IN L).map PyData.int := by simp [-po_comp, F.IN]
  rw [e0, indexD_l _ _ ⟨rfl, shaped_l _⟩, ← e0, List.findIdx?_map]
  have e : ((fun z => PyData.eqv z (PyData.int (x : Nat))) ∘ fun a : Nat => PyData.int a) = fun a => a == x := by
    funext a
    show decide ((a : Int) = (x : Int)) = _
    rw [Bool.eq_iff_iff]
    simp [-po_comp]
    omega
  rw [e, List.findIdx?_eq_some_iff_findIdx_eq.mpr ⟨List.idxOf_lt_length_of_mem h, rfl⟩]
  rfl
section
variable {n : Nat} {f : Nat → Nat → Nat} {z : Nat}
/-- what a maker is -/
structure Mk (G : Grp n f z) (R : List Nat) (kv : List (Fin n × List Nat)) (g : Fin n) (N : Nat) : Prop where
  two : 2 ≤ N
  le : N ≤ n
  o : Gn.Ot (gab G) (Gn.keys kv) g N
  z : (gab G).s N g = (gab G).z
  ex : ∀ a, Gn.keys kv ((gab G).s N a)
  dv : ∀ r ∈ R, N ∣ r
theorem maker_ok {X : Exn → En → Prop} (G : Grp n f z) {R : List Nat} {kv : List (Fin n × List Nat)} (H : Gn.Nm (gab G) R kv) (hne : ∃ a, ¬ Gn.keys kv a) :
    Wp X (m_maker_of [.v (.list (tab n f)), .v (fdt (kvD kv))]) fun rv _ => ∃ g N, rv = .v (.tuple [.int ((g : Fin n).val : Nat), .int (N : Nat)]) ∧ Mk G R kv g N := by
  have sb := H.sb
  have h16 := G.n16
  have hz := G.zn
  have ne : kv ≠ [] := fun e => by
    obtain ⟨x, hx⟩ := sb.z
    rw [e] at hx
    cases hx
  -- the outer turns
  have ex : ∀ a : Fin n, ∃ m, m ≤ n ∧ Gn.Ot (gab G) (Gn.keys kv) a m := fun a => by
    have := Gn.ot_ex (allF n) sb a
    simpa using this
  let ot : Nat → Nat := fun a => if h : a < n then Classical.choose (ex ⟨a, h⟩) else 0
  have hot : ∀ a : Fin n, ot a.val ≤ n ∧ Gn.Ot (gab G) (Gn.keys kv) a (ot a.val) := fun a => by
    show (if h : a.val < n then _ else 0) ≤ n ∧ Gn.Ot _ _ a (if h : a.val < n then _ else 0)
    rw [dif_pos a.2]
    exact Classical.choose_spec (ex a)
  let L : List Nat := (List.range n).map ot
  have hL : L ≠ [] := by
    intro e
    have := congrArg List.length e
    simp [-po_comp, L] at this
    omega
  obtain ⟨N, hN, eN, mN⟩ := max_l hL
  have hi := List.idxOf_lt_length_of_mem hN
  have hi' : L.idxOf N < n := by simpa [L] using hi
  let a : Fin n := ⟨L.idxOf N, hi'⟩
  have ea : ot a.val = N := by
    have := List.getElem_idxOf hi
    rw [List.getElem_map, List.getElem_range] at this
    exact this
  have oa : Gn.Ot (gab G) (Gn.keys kv) a N := ea ▸ (hot a).2
  have leN : N ≤ n := ea ▸ (hot a).1
  have mx : ∀ b M, Gn.Ot (gab G) (Gn.keys kv) b M → M ≤ N := fun b M hb => by
    have e := hb.uni sb (hot b).2
    rw [e]
    exact mN _ (List.mem_map.mpr ⟨b.val, List.mem_range.mpr b.2, rfl⟩)
  have dvd : ∀ b M, Gn.Ot (gab G) (Gn.keys kv) b M → M ∣ N := fun b M hb => Gn.ot_max sb (allF n) oa mx hb (part hb.p oa.p)
  have exN : ∀ b, Gn.keys kv ((gab G).s N b) := fun b => ((hot b).2.dvd sb N).mpr (dvd b _ (hot b).2)
  have two : 2 ≤ N := by
    obtain ⟨b, hb⟩ := hne
    have h1 := (hot b).2
    have h2 := mx b _ h1
    rcases Nat.lt_or_ge (ot b.val) 2 with h | h
    · have e : ot b.val = 1 := by have := h1.p; omega
      have := h1.i
      rw [e, (gab G).s_one] at this
      exact absurd this hb
    · omega
  have dr : ∀ r ∈ R, N ∣ r := by
    have h1 := H.dv
    have h2 := H.ex
    intro r hr
    cases R with
    | nil => cases hr
    | cons r0 R =>
      have hd : N ∣ r0 := (oa.dvd sb r0).mp (h2 r0 rfl a)
      rcases List.mem_cons.mp hr with rfl | hr
      · exact hd
      · exact Nat.dvd_trans hd ((List.pairwise_cons.mp h1).1 r hr)
  have res : ∀ b : Fin n, Gn.keys kv b → (gab G).s N b = (gab G).s N a → Mk G R kv ((gab G).f a ((gab G).n b)) N := fun b hb e => by
    obtain ⟨g1, g2⟩ := H.maker oa hb e
    exact ⟨two, leN, g1, g2, exN, dr⟩
  refine po_fnK fun Y K hY hK _ => ?_
  unfold b_maker_of
  refine po_step fun K1 h1 _ _ _ => ?_
  simp [-po_comp, tab_len, po_comp]
  refine ⟨by omega, ?_⟩
  rw [rng_map]
  refine po_compM (g := fun a : Nat => PyData.int (ot a : Nat)) (fun r => ∃ s, r = [.v (.list (tab n f)), .v (fdt (kvD kv)), .unk, .unk, s, .unk, .unk, .unk]) (List.range n) [] _ ⟨_, rfl⟩ (by simp [-po_comp]; omega) ?_ ?_
  · rintro b hb r ⟨s, rfl⟩
    have hb := List.mem_range.mp hb
    refine ⟨[.v (.list (tab n f)), .v (fdt (kvD kv)), .unk, .unk, .v (.int b), .unk, .unk, .unk], by simp, ?_⟩
    simp [-po_comp]
    refine po_mono (outer_ok G H.nd sb ⟨b, hb⟩ (hot ⟨b, hb⟩).2) ?_
    rintro rv z2 rfl
    simp [-po_comp]
  · rintro r ⟨s, rfl⟩
    simp [-po_comp]
    refine h1 _ ?_
    have eL : ((List.range n).map fun a => PyData.int (ot a : Nat)) = L.map fun k : Nat => .int k := by simp [-po_comp, L]
    rw [eL]
    refine po_step fun K2 h2 _ _ _ => ?_
    simp [-po_comp, eN]
    refine h2 _ ?_
    refine po_step fun K3 h3 _ _ _ => ?_
    simp [-po_comp, idx_n hN]
    refine h3 _ ?_
    refine po_step fun K4 h4 _ _ _ => ?_
    simp [-po_comp]
    refine po_mono (often_ok G a N (by omega)) ?_
    rintro rv z2 rfl
    simp [-po_comp]
    refine h4 _ ?_
    refine po_step fun K5 h5 _ _ _ => ?_
    simp [-po_comp]
    refine po_mono (nought_ok G) ?_
    rintro rv z2 rfl
    simp [-po_comp]
    refine h5 _ ?_
    refine po_step fun K6 h6 r6 _ _ => ?_
    simp [-po_comp, keys_fd (kvD_ne ne)]
    have ek : ((kvD kv).map fun q => PyData.int (q.1 : Nat)) = kv.map fun q => PyData.int (q.1.val : Nat) := by
      unfold kvD
      rw [List.map_map]
      rfl
    rw [ek]
    refine po_forK (fun done r => (∀ p ∈ done, (gab G).s N p.1 ≠ (gab G).s N a) ∧ ∃ s, r = [.v (.list (tab n f)), .v (fdt (kvD kv)), .v (.list (L.map fun k : Nat => .int k)), .v (.int (N : Nat)), .v (.int (a.val : Nat)), .v (.int (((gab G).s N a).val : Nat)), .v (.int (z : Nat)), s] ∧ s.isIo = false) kv _ ⟨by simp, _, rfl, rfl⟩ ?_ ?_
    · rintro done p rest r hp ⟨hd, s, rfl, hs⟩
      have hpin : p ∈ kv := by rw [hp]; simp [-po_comp]
      refine ⟨[.v (.list (tab n f)), .v (fdt (kvD kv)), .v (.list (L.map fun k : Nat => .int k)), .v (.int (N : Nat)), .v (.int (a.val : Nat)), .v (.int (((gab G).s N a).val : Nat)), .v (.int (z : Nat)), .v (.int (p.1.val : Nat))], by simp [-po_comp, hs], fun K7 h7 r7 _ _ => ?_⟩
      simp [-po_comp]
      refine po_mono (often_ok G p.1 N (by omega)) ?_
      rintro rv z2 rfl
      by_cases e : (gab G).s N p.1 = (gab G).s N a
      · have hb : Gn.keys kv p.1 := ⟨p.2, hpin⟩
        have Q := res p.1 hb e
        have hc := Classical.choose_spec (G.inv p.1 p.1.2)
        let c : Nat := ((gab G).n p.1).val
        have hcn : c < n := ((gab G).n p.1).2
        have hfc : f p.1.val c = z := by
          have := congrArg Fin.val ((gab G).nr p.1)
          exact this
        have hmem : z ∈ (List.range n).map fun j => f p.1.val j := List.mem_map.mpr ⟨c, List.mem_range.mpr hcn, hfc⟩
        have hix : ((List.range n).map fun j => f p.1.val j).idxOf z = c := by
          have l1 := List.idxOf_lt_length_of_mem hmem
          have g1 := List.getElem_idxOf l1
          rw [List.length_map, List.length_range] at l1
          rw [List.getElem_map, List.getElem_range] at g1
          have : (gab G).f p.1 ⟨_, l1⟩ = (gab G).f p.1 ⟨c, hcn⟩ := Fin.ext (g1.trans hfc.symm)
          have := (gab G).lc this
          exact congrArg Fin.val this
        have ei := idx_n hmem
        rw [List.map_map] at ei
        have ei2 : indexD (.list ((List.range n).map fun j => PyData.int (f p.1.val j : Nat))) (.int (z : Nat)) = some (.int (c : Nat)) := by
          rw [← hix]
          exact ei
        simp [-po_comp, e, tab_at p.1.2, tab_at a.2, ei2, row_at a.val hcn]
        refine r7 _ _ (r6 _ _ ?_)
        refine hK _ _ _ rfl ⟨_, N, ?_, Q⟩
        rfl
      · have e' : ¬ (((gab G).s N p.1).val : Int) = (((gab G).s N a).val : Int) := fun q => e (Fin.ext (by omega))
        simp [-po_comp, e']
        refine h7 _ ⟨fun q hq => ?_, _, rfl, rfl⟩
        rcases List.mem_append.mp hq with hq | hq
        · exact hd q hq
        · rw [List.mem_singleton.mp hq]
          exact e
    · rintro r ⟨hd, s, rfl, hs⟩
      exfalso
      obtain ⟨b, ⟨x, hx⟩, e⟩ := H.pu N dr a (exN a)
      exact hd _ hx e
end
end K74
namespace K74.F
open PySem Pu L2
def pr (hs : List Nat) : Nat := hs.foldl (fun l h => l * h) 1
theorem pr_app1 (hs : List Nat) (h : Nat) : pr (hs ++ [h]) = pr hs * h := by
  unfold pr
  rw [List.foldl_append]
  rfl
theorem pr_app (xs ys : List Nat) : pr (xs ++ ys) = pr xs * pr ys := by
  refine rev_ind (P := fun ys => pr (xs ++ ys) = pr xs * pr ys) ?_ ?_ ys
  · simp [pr]
  · intro ys y ih
    rw [← List.append_assoc, pr_app1, ih, pr_app1, Nat.mul_assoc]
theorem pr_cons (x : Nat) (xs : List Nat) : pr (x :: xs) = x * pr xs := by
  have := pr_app [x] xs
  rw [List.singleton_append] at this
  rw [this]
  simp [pr]
theorem pr_pos {hs : List Nat} : (∀ h ∈ hs, 1 ≤ h) → 0 < pr hs := by
  refine rev_ind (P := fun hs => (∀ h ∈ hs, 1 ≤ h) → 0 < pr hs) ?_ ?_ hs
  · intro _; decide
  · intro hs h ih hh
    rw [pr_app1]
    exact Nat.mul_pos (ih fun x hx => hh x (List.mem_append_left _ hx)) (hh h (by simp))
theorem pr_le {B : Nat} {hs : List Nat} : (∀ h ∈ hs, h ≤ B) → pr hs ≤ B ^ hs.length := by
  refine rev_ind (P := fun hs => (∀ h ∈ hs, h ≤ B) → pr hs ≤ B ^ hs.length) ?_ ?_ hs
  · intro _; simp [pr]
  · intro hs h ih hh
    rw [pr_app1, List.length_append, List.length_singleton, Nat.pow_succ]
    exact Nat.mul_le_mul (ih fun x hx => hh x (List.mem_append_left _ hx)) (hh h (by simp))
theorem HoS.pr {hs : List Nat} (H : HoS hs) : 0 < pr hs ∧ pr hs ≤ 1000000 ^ 6 := ⟨pr_pos fun h hh => (H.2 h hh).1, Nat.le_trans (pr_le (B := 1000000) fun h hh => (H.2 h hh).2) (Nat.pow_le_pow_right (by decide) H.1)⟩
theorem HoS.pre {hs rest : List Nat} (H : HoS (hs ++ rest)) : HoS hs := ⟨by have := H.1; rw [List.length_append] at this; omega, fun h hh => H.2 h (List.mem_append_left _ hh)⟩
theorem big : 1000000 ^ 6 < 2 ^ 1900 := by decide +kernel
theorem size_ok {X : Exn → En → Prop} {hs : List Nat} (H : HoS hs) : Wp X (m_size [.v (N hs)]) fun rv _ => rv = .v (.int (pr hs : Nat)) := by
  refine po_fnK fun Y K hY hK _ => ?_
  unfold b_size
  refine po_step fun K1 h1 _ _ _ => ?_
  simp
  refine h1 _ ?_
  refine po_step fun K2 h2 _ _ _ => ?_
  simp
  refine po_forK (fun done r => ∃ s, r = [.v (N hs), .v (.int (pr done : Nat)), s] ∧ s.isIo = false) hs _ ⟨_, rfl, rfl⟩ ?_ ?_
  · rintro done h rest r e ⟨s, rfl, q⟩
    have hh := H.2 h (by rw [e]; simp)
    have hd := (HoS.pre (rest := h :: rest) (by rw [← e]; exact H)).pr
    have hb := big
    refine ⟨[.v (N hs), .v (.int (pr done : Nat)), .v (.int h)], by simp [q], fun K3 h3 _ _ _ => ?_⟩
    have m1 : mulOk (pr done : Int) (h : Int) := mulN (by omega) (by omega)
    simp [m1]
    exact h3 _ ⟨.v (.int h), by rw [pr_app1]; simp, rfl⟩
  · rintro r ⟨s, rfl, q⟩
    refine h2 _ ?_
    simp
    exact hK _ _ _ rfl rfl
def tr : List Nat → List (List Nat)
  | [] => [[]]
  | h :: hs => (List.range h).flatMap fun k => (tr hs).map fun b => k :: b
def tl (acc : List (List Nat)) : List Nat → List (List Nat)
  | [] => acc
  | h :: hs => tl (acc.flatMap fun a => (List.range h).map fun k => a ++ [k]) hs
theorem flatMap_flatMap {α β γ : Type} (f : α → List β) (g : β → List γ) : ∀ xs : List α, (xs.flatMap f).flatMap g = xs.flatMap fun x => (f x).flatMap g
  | [] => rfl
  | x :: xs => by
    rw [List.flatMap_cons, List.flatMap_append, List.flatMap_cons, flatMap_flatMap f g xs]
theorem flatMap_map' {α β γ : Type} (f : α → β) (g : β → List γ) : ∀ xs : List α, (xs.map f).flatMap g = xs.flatMap fun x => g (f x)
  | [] => rfl
  | x :: xs => by rw [List.map_cons, List.flatMap_cons, List.flatMap_cons, flatMap_map' f g xs]
theorem map_flatMap' {α β γ : Type} (f : α → List β) (g : β → γ) : ∀ xs : List α, (xs.flatMap f).map g = xs.flatMap fun x => (f x).map g
  | [] => rfl
  | x :: xs => by rw [List.flatMap_cons, List.map_append, List.flatMap_cons, map_flatMap' f g xs]
theorem tl_tr : ∀ (hs : List Nat) (acc : List (List Nat)), tl acc hs = acc.flatMap fun a => (tr hs).map fun b => a ++ b
  | [], acc => by
    show acc = acc.flatMap fun a => [a ++ []]
    induction acc with
    | nil => rfl
    | cons a as ih =>
      rw [List.flatMap_cons, ← ih]
      simp
  | h :: hs, acc => by
    show tl (acc.flatMap fun a => (List.range h).map fun k => a ++ [k]) hs = _
    rw [tl_tr hs, flatMap_flatMap]
    congr 1
    funext a
    rw [flatMap_map']
    show _ = ((List.range h).flatMap fun k => (tr hs).map fun b => k :: b).map fun b => a ++ b
    rw [map_flatMap']
    congr 1
    funext k
    rw [List.map_map]
    congr 1
    funext b
    simp
theorem tl_eq (hs : List Nat) : tl [[]] hs = tr hs := by
  rw [tl_tr]
  simp
theorem tl_snoc : ∀ (hs : List Nat) (h : Nat) (acc : List (List Nat)), tl acc (hs ++ [h]) = (tl acc hs).flatMap fun a => (List.range h).map fun k => a ++ [k]
  | [], h, acc => rfl
  | x :: hs, h, acc => tl_snoc hs h _
theorem fm_len {α β : Type} (f : α → List β) (m : Nat) : ∀ xs : List α, (∀ x ∈ xs, (f x).length = m) → (xs.flatMap f).length = xs.length * m
  | [], _ => by simp
  | x :: xs, h => by
    rw [List.flatMap_cons, List.length_append, h x (by simp), fm_len f m xs fun y hy => h y (by simp [hy]), List.length_cons, Nat.add_mul]
    omega
theorem tl_len (hs : List Nat) : (tl [[]] hs).length = pr hs := by
  refine rev_ind (P := fun hs => (tl [[]] hs).length = pr hs) rfl ?_ hs
  intro hs h ih
  rw [tl_snoc, fm_len _ h, ih, pr_app1]
  intro x _
  simp
theorem tr_len (hs : List Nat) : (tr hs).length = pr hs := by rw [← tl_eq, tl_len]
end K74.F
namespace K74
open PySem Pu L2
/-! ### names of a table, plain -/
theorem thr_len : ∀ {R x : List Nat}, Gn.Thr R x → x.length = R.length
  | [], [], _ => rfl
  | r :: R, x :: X, h => by simp [thr_len h.2]
  | [], _ :: _, h => h.elim
  | _ :: _, [], h => h.elim
theorem thr_tr : ∀ {R x : List Nat}, x ∈ F.tr R ↔ Gn.Thr R x
  | [], x => by
    cases x with
    | nil => simp [F.tr, Gn.Thr]
    | cons k x => simp [F.tr, Gn.Thr]
  | r :: R, x => by
    have e : F.tr (r :: R) = (List.range r).flatMap fun k => (F.tr R).map fun a => k :: a := rfl
    rw [e, List.mem_flatMap]
    cases x with
    | nil => simp [Gn.Thr]
    | cons k X =>
      constructor
      · rintro ⟨m, hm, h⟩
        obtain ⟨b, hb, e⟩ := List.mem_map.mp h
        injection e with e1 e2
        subst e1 e2
        exact ⟨List.mem_range.mp hm, thr_tr.mp hb⟩
      · rintro ⟨h1, h2⟩
        exact ⟨k, List.mem_range.mpr h1, List.mem_map.mpr ⟨X, thr_tr.mpr h2, rfl⟩⟩
theorem tr_nd : ∀ R : List Nat, (F.tr R).Nodup
  | [] => by simp [F.tr]
  | r :: R => by
    have e : F.tr (r :: R) = (List.range r).flatMap fun k => (F.tr R).map fun a => k :: a := rfl
    rw [e]
    refine Gn.pw_flat _ _ (fun k _ => ?_) ?_
    · exact List.Pairwise.map _ (fun a b h e => h (by injection e)) (tr_nd R)
    · refine List.Pairwise.imp ?_ (List.nodup_range (n := r))
      intro a b h u hu v hv e
      obtain ⟨u', _, rfl⟩ := List.mem_map.mp hu
      obtain ⟨v', _, rfl⟩ := List.mem_map.mp hv
      injection e with e1 _
      exact h e1
theorem dbl {x r : Nat} (h : x < r) (e : (x + x) % r = x) : x = 0 := by
  rcases Nat.lt_or_ge (x + x) r with q | q
  · rw [Nat.mod_eq_of_lt q] at e
    omega
  · rw [Nat.mod_eq_sub_mod q, Nat.mod_eq_of_lt (by omega)] at e
    omega
theorem ads_zero : ∀ {R x : List Nat}, Gn.Thr R x → Gn.ads R x x = x → x = R.map fun _ => 0
  | [], [], _, _ => rfl
  | r :: R, x :: X, h, e => by
    unfold Gn.ads at e
    injection e with e1 e2
    rw [List.map_cons, dbl h.1 e1, ← ads_zero h.2 e2]
  | [], _ :: _, h, _ => h.elim
  | _ :: _, [], h, _ => h.elim
def mls : List Nat → Nat → List Nat → List Nat
  | r :: R, m, x :: X => m * x % r :: mls R m X
  | _, _, _ => []
theorem mls_0 : ∀ {R x : List Nat}, Gn.Thr R x → mls R 0 x = R.map fun _ => 0
  | [], [], _ => rfl
  | r :: R, x :: X, h => by
    unfold mls
    rw [mls_0 h.2, Nat.zero_mul, Nat.zero_mod, List.map_cons]
  | [], _ :: _, h => h.elim
  | _ :: _, [], h => h.elim
theorem mls_succ (m : Nat) : ∀ {R x : List Nat}, Gn.Thr R x → Gn.ads R (mls R m x) x = mls R (m + 1) x
  | [], [], _ => rfl
  | r :: R, x :: X, h => by
    unfold mls Gn.ads
    rw [mls_succ m h.2, Nat.mod_add_mod, Nat.add_mul, Nat.one_mul]
  | [], _ :: _, h => h.elim
  | _ :: _, [], h => h.elim
theorem nd_inj {β γ : Type} (f : β → γ) : ∀ {l : List β}, (l.map f).Nodup → ∀ {a b : β}, a ∈ l → b ∈ l → f a = f b → a = b
  | x :: l, h, a, b, ha, hb, e => by
    rw [List.map_cons, List.nodup_cons] at h
    rcases List.mem_cons.mp ha with p | p <;> rcases List.mem_cons.mp hb with q | q
    · rw [p, q]
    · exact absurd (List.mem_map.mpr ⟨b, q, by rw [← e, p]⟩) h.1
    · exact absurd (List.mem_map.mpr ⟨a, p, by rw [e, q]⟩) h.1
    · exact nd_inj f h.2 p q e
section
variable {n : Nat} {f : Nat → Nat → Nat} {z : Nat}
structure Nmd (G : Grp n f z) (R : List Nat) (nm : Fin n → List Nat) : Prop where
  th : ∀ x, Gn.Thr R x ↔ ∃ a, nm a = x
  inj : ∀ a b, nm a = nm b → a = b
  ad : ∀ a b, nm ((gab G).f a b) = Gn.ads R (nm a) (nm b)
variable {G : Grp n f z} {R : List Nat} {nm : Fin n → List Nat}
theorem Nmd.t (H : Nmd G R nm) (a : Fin n) : Gn.Thr R (nm a) := (H.th _).mpr ⟨a, rfl⟩
theorem Nmd.zero (H : Nmd G R nm) : nm (gab G).z = R.map fun _ => 0 := by
  have h := H.ad (gab G).z (gab G).z
  rw [(gab G).zl] at h
  exact ads_zero (H.t _) h.symm
theorem Nmd.s (H : Nmd G R nm) (a : Fin n) : ∀ m, nm ((gab G).s m a) = mls R m (nm a)
  | 0 => by
    rw [mls_0 (H.t a)]
    exact H.zero
  | m + 1 => by
    have : (gab G).s (m + 1) a = (gab G).f ((gab G).s m a) a := rfl
    rw [this, H.ad, H.s a m, mls_succ m (H.t a)]
theorem Nmd.perm (H : Nmd G R nm) : ((List.finRange n).map nm).Perm (F.tr R) := by
  refine (List.perm_ext_iff_of_nodup ?_ (tr_nd R)).mpr fun x => ?_
  · rw [List.nodup_iff_pairwise_ne, List.pairwise_map]
    exact List.Pairwise.imp (fun h e => h (H.inj _ _ e)) (List.nodup_finRange n)
  · rw [thr_tr, H.th, List.mem_map]
    exact ⟨fun ⟨a, _, e⟩ => ⟨a, e⟩, fun ⟨a, e⟩ => ⟨a, List.mem_finRange a, e⟩⟩
theorem Nmd.len (H : Nmd G R nm) : F.pr R = n := by
  have := H.perm.length_eq
  rw [F.tr_len] at this
  simpa using this.symm
theorem pr_two : ∀ {R : List Nat}, (∀ r ∈ R, 2 ≤ r) → 2 ^ R.length ≤ F.pr R
  | [], _ => by decide
  | r :: R, h => by
    rw [F.pr_cons, List.length_cons, Nat.pow_succ, Nat.mul_comm]
    exact Nat.mul_le_mul (h r (by simp)) (pr_two fun x hx => h x (by simp [hx]))
theorem pr_mem : ∀ {R : List Nat} {r : Nat}, (∀ r ∈ R, 1 ≤ r) → r ∈ R → r ≤ F.pr R
  | x :: R, r, h, hr => by
    rw [F.pr_cons]
    have h1 := h x (by simp)
    have h2 := F.pr_pos fun y hy => h y (List.mem_cons_of_mem _ hy)
    rcases List.mem_cons.mp hr with e | e
    · rw [e]
      exact Nat.le_mul_of_pos_right _ h2
    · have := pr_mem (fun y hy => h y (List.mem_cons_of_mem _ hy)) e
      exact Nat.le_trans this (Nat.le_mul_of_pos_left _ h1)
theorem Nmd.few (H : Nmd G R nm) (h2 : ∀ r ∈ R, 2 ≤ r) : R.length ≤ 4 ∧ ∀ r ∈ R, r ≤ 16 := by
  have h := pr_two h2
  rw [H.len] at h
  have hn := G.n16
  constructor
  · apply Classical.byContradiction
    intro c
    have : 2 ^ 5 ≤ 2 ^ R.length := Nat.pow_le_pow_right (by decide) (by omega)
    omega
  · intro r hr
    have := pr_mem (fun r hr => by have := h2 r hr; omega) hr
    rw [H.len] at this
    omega
/-- a full table of names -/
theorem nmd_of {kv : List (Fin n × List Nat)} (H : Gn.Nm (gab G) R kv) (hl : kv.length = n) : ∃ nm : Fin n → List Nat, Nmd G R nm ∧ ∀ a, (a, nm a) ∈ kv := by
  have all : ∀ a : Fin n, ∃ x, (a, x) ∈ kv := fun a => by
    apply Classical.byContradiction
    intro c
    have nd : (a :: kv.map (·.1)).Nodup := List.nodup_cons.mpr ⟨fun h => by
      obtain ⟨q, hq, e⟩ := List.mem_map.mp h
      exact c ⟨q.2, by rw [← e]; exact hq⟩, H.nd⟩
    have := St.nodup_sub _ (List.finRange n) nd fun x _ => List.mem_finRange x
    simp at this
    omega
  refine ⟨fun a => Classical.choose (all a), ⟨fun x => ?_, fun a b e => ?_, fun a b => ?_⟩, fun a => Classical.choose_spec (all a)⟩
  · rw [← H.th]
    exact ⟨fun ⟨a, h⟩ => ⟨a, H.fst_eq (Classical.choose_spec (all a)) h⟩, fun ⟨a, e⟩ => ⟨a, by rw [← e]; exact Classical.choose_spec (all a)⟩⟩
  · have h1 := Classical.choose_spec (all a)
    have h2 := Classical.choose_spec (all b)
    have := nd_inj (·.2) H.nd2 h1 h2 e
    exact congrArg Prod.fst this
  · exact H.fst_eq (Classical.choose_spec (all _)) (H.ad _ _ _ _ (Classical.choose_spec (all a)) (Classical.choose_spec (all b)))
end
/-! ### a house's own names -/
theorem thB_thr : ∀ {ks : List Nat} {y : List Int}, thB (F.IN ks) y ↔ ∃ x, y = F.IN x ∧ Gn.Thr ks x
  | [], [] => ⟨fun _ => ⟨[], rfl, trivial⟩, fun _ => trivial⟩
  | [], a :: as => ⟨fun h => h.elim, fun ⟨x, e, h⟩ => by
    cases x with
    | nil => cases e
    | cons => exact h.elim⟩
  | k :: ks, [] => ⟨fun h => h.elim, fun ⟨x, e, h⟩ => by
    cases x with
    | nil => exact h.elim
    | cons => cases e⟩
  | k :: ks, a :: as => by
    have ih := thB_thr (ks := ks) (y := as)
    constructor
    · rintro ⟨⟨h1, h2⟩, h3⟩
      obtain ⟨x, e, h⟩ := ih.mp h3
      refine ⟨a.toNat :: x, ?_, ?_, h⟩
      · rw [e]
        show _ = ((a.toNat : Nat) : Int) :: F.IN x
        rw [Int.toNat_of_nonneg h1]
      · have h2 : a < (k : Int) := h2
        show a.toNat < k
        omega
    · rintro ⟨x, e, h⟩
      cases x with
      | nil => exact h.elim
      | cons x X =>
        injection e with e1 e2
        refine ⟨?_, ih.mpr ⟨X, e2, h.2⟩⟩
        have h1 : x < k := h.1
        have e1 : a = (x : Int) := e1
        show 0 ≤ a ∧ a < (k : Int)
        omega
theorem th_thr {ks : List Nat} {y : List Int} : Th (F.IN ks) y ↔ ∃ x, y = F.IN x ∧ Gn.Thr ks x := (thB_iff _ _).symm.trans thB_thr
theorem pl_IN : ∀ {ks x y : List Nat}, Gn.Thr ks x → Gn.Thr ks y → pl (F.IN ks) (F.IN x) (F.IN y) = F.IN (Gn.ads ks x y)
  | [], [], [], _, _ => rfl
  | k :: ks, x :: X, y :: Y, h1, h2 => by
    have ih := pl_IN h1.2 h2.2
    unfold Gn.ads
    show ((x : Int) + (y : Int)) % (k : Int) :: pl (F.IN ks) (F.IN X) (F.IN Y) = (((x + y) % k : Nat) : Int) :: F.IN (Gn.ads ks X Y)
    rw [ih]
    congr 1
  | [], _ :: _, _, h, _ => h.elim
  | _ :: _, [], _, h, _ => h.elim
  | [], [], _ :: _, _, h => h.elim
  | _ :: _, _ :: _, [], _, h => h.elim
theorem IN_inj : ∀ {x y : List Nat}, F.IN x = F.IN y → x = y
  | [], [], _ => rfl
  | x :: X, y :: Y, e => by
    injection e with e1 e2
    rw [IN_inj e2, Int.ofNat.inj e1]
  | [], _ :: _, e => by cases e
  | _ :: _, [], e => by cases e
/-- the things of a house name the numbers of its table -/
theorem nmd_house {ks : List Nat} {L : List (List Int)} (H : Ho (F.IN ks)) (O : LOk (F.IN ks) L) : ∃ nm : Fin L.length → List Nat, Nmd (grp H O) ks nm ∧ ∀ a, L[a.val]? = some (F.IN (nm a)) := by
  have ex : ∀ a : Fin L.length, ∃ x, L[a.val] = F.IN x ∧ Gn.Thr ks x := fun a => th_thr.mp ((O.mem _).mp (List.getElem_mem a.2))
  have sp : ∀ a : Fin L.length, L[a.val] = F.IN (Classical.choose (ex a)) := fun a => (Classical.choose_spec (ex a)).1
  have st : ∀ a : Fin L.length, Gn.Thr ks (Classical.choose (ex a)) := fun a => (Classical.choose_spec (ex a)).2
  have gd : ∀ a : Fin L.length, L.getD a.val [] = F.IN (Classical.choose (ex a)) := fun a => by
    rw [← sp a, List.getD, List.getElem?_eq_getElem a.2]
    rfl
  refine ⟨fun a => Classical.choose (ex a), ⟨fun x => ⟨fun h => ?_, fun ⟨a, e⟩ => e ▸ st a⟩, fun a b e => ?_, fun a b => ?_⟩, fun a => by rw [List.getElem?_eq_getElem a.2, sp a]⟩
  · have hm := (O.mem (F.IN x)).mpr (th_thr.mpr ⟨x, rfl, h⟩)
    obtain ⟨i, hi, e⟩ := List.getElem_of_mem hm
    refine ⟨⟨i, hi⟩, ?_⟩
    have := sp ⟨i, hi⟩
    exact IN_inj (this.symm.trans e)
  · have e2 : L[a.val] = L[b.val] := by rw [sp a, sp b]; exact congrArg F.IN e
    exact Fin.ext ((List.getElem_inj O.nd).mp e2)
  · apply IN_inj
    have hm := (O.mem _).mpr (th_thr.mpr ⟨Gn.ads ks (Classical.choose (ex a)) (Classical.choose (ex b)), rfl, by
      have q := th_thr.mp ((pl_IN (st a) (st b)) ▸ pl_th H (th_thr.mpr ⟨_, rfl, st a⟩) (th_thr.mpr ⟨_, rfl, st b⟩))
      obtain ⟨x, e, h⟩ := q
      rw [IN_inj e]
      exact h⟩)
    rw [← sp]
    have : ((gab (grp H O)).f a b).val = tf (F.IN ks) L a.val b.val := rfl
    simp only [this]
    unfold tf
    simp only [gd a, gd b, pl_IN (st a) (st b)]
    exact List.getElem_idxOf _
end K74
namespace K74
open PySem Pu L2
section
variable {n : Nat} {f : Nat → Nat → Nat} {z : Nat}
def nmD (nm : Fin n → List Nat) (i : Nat) : List Nat := if h : i < n then nm ⟨i, h⟩ else []
theorem nmD_at (nm : Fin n → List Nat) (a : Fin n) : nmD nm a.val = nm a := by
  unfold nmD
  rw [dif_pos a.2]
noncomputable def entry (G : Grp n f z) (g : Fin n) (p : Fin n × List Nat) (o : Nat) : Fin n × List Nat := ((gab G).f p.1 ((gab G).s o g), o :: p.2)
theorem grow_app (G : Grp n f z) (g : Fin n) (N : Nat) (xs ys : List (Fin n × List Nat)) : Gn.grow (gab G) g N (xs ++ ys) = Gn.grow (gab G) g N xs ++ Gn.grow (gab G) g N ys := by
  unfold Gn.grow
  rw [List.flatMap_append]
theorem grow_cons (G : Grp n f z) (g : Fin n) (N : Nat) (p : Fin n × List Nat) (ys : List (Fin n × List Nat)) : Gn.grow (gab G) g N (p :: ys) = (List.range N).map (entry G g p) ++ Gn.grow (gab G) g N ys := by
  unfold Gn.grow
  rw [List.flatMap_cons]
  rfl
/-- a new number each time -/
theorem grow_new (G : Grp n f z) {g : Fin n} {N : Nat} {kv done rest : List (Fin n × List Nat)} {p : Fin n × List Nat} (nd : ((Gn.grow (gab G) g N kv).map (·.1)).Nodup) (e : kv = done ++ p :: rest) {i : Nat} (hi : i < N) :
    ¬ Gn.keys (Gn.grow (gab G) g N done ++ (List.range i).map (entry G g p)) (entry G g p i).1 := by
  rw [e, grow_app, grow_cons, List.map_append, List.map_append, ← List.append_assoc] at nd
  have nd := (List.nodup_append.mp nd).1
  have sub : ((Gn.grow (gab G) g N done ++ (List.range (i + 1)).map (entry G g p)).map (·.1)).Sublist ((Gn.grow (gab G) g N done).map (·.1) ++ ((List.range N).map (entry G g p)).map (·.1)) := by
    rw [List.map_append]
    exact List.Sublist.append (List.Sublist.refl _) (((List.range_sublist.mpr (by omega)).map _).map _)
  have nd := sub.nodup nd
  rw [List.range_succ, List.map_append, List.map_append, List.map_append, ← List.append_assoc, ← List.map_append] at nd
  have h := (List.nodup_append.mp nd).2.2
  rintro ⟨x, hx⟩
  exact h _ (List.mem_map.mpr ⟨_, hx, rfl⟩) _ (by simp [-po_comp]) rfl
theorem entry_0 (G : Grp n f z) (g : Fin n) (p : Fin n × List Nat) : (entry G g p 0).1 = p.1 := (gab G).zr _
theorem entry_s (G : Grp n f z) (g : Fin n) (p : Fin n × List Nat) (o : Nat) : ((entry G g p (o + 1)).1).val = f ((entry G g p o).1).val g.val := by
  have : (entry G g p (o + 1)).1 = (gab G).f (entry G g p o).1 g := by
    show (gab G).f p.1 ((gab G).f ((gab G).s o g) g) = (gab G).f ((gab G).f p.1 ((gab G).s o g)) g
    rw [(gab G).as]
  rw [this]
  rfl
theorem nm_le {G : Grp n f z} {R : List Nat} {kv : List (Fin n × List Nat)} (H : Gn.Nm (gab G) R kv) : kv.length ≤ n := by
  have := St.nodup_sub _ (List.finRange n) H.nd fun x _ => List.mem_finRange x
  simpa using this
theorem nm_ne {G : Grp n f z} {R : List Nat} {kv : List (Fin n × List Nat)} (H : Gn.Nm (gab G) R kv) : kv ≠ [] := fun e => by
  have := H.z
  rw [e] at this
  cases this
theorem nm_more {G : Grp n f z} {R : List Nat} {kv : List (Fin n × List Nat)} (H : Gn.Nm (gab G) R kv) (h : kv.length < n) : ∃ a, ¬ Gn.keys kv a := by
  apply Classical.byContradiction
  intro c
  have := St.nodup_sub (List.finRange n) (kv.map (·.1)) (List.nodup_finRange n) fun x _ => by
    apply Classical.byContradiction
    intro d
    exact c ⟨x, fun ⟨y, hy⟩ => d (List.mem_map.mpr ⟨_, hy, rfl⟩)⟩
  simp [-po_comp] at this
  omega
theorem kvD_items (kv : List (Fin n × List Nat)) : ((kvD kv).map fun q => PyData.tuple [.int (q.1 : Nat), q.2]) = kv.map fun p => .tuple [.int (p.1.val : Nat), F.N p.2] := by
  unfold kvD
  rw [List.map_map]
  rfl
theorem grow_sub (G : Grp n f z) {g : Fin n} {N : Nat} {kv done rest : List (Fin n × List Nat)} {p : Fin n × List Nat} (e : kv = done ++ p :: rest) {i : Nat} (hi : i ≤ N) : (Gn.grow (gab G) g N done ++ (List.range i).map (entry G g p)).length ≤ (Gn.grow (gab G) g N kv).length := by
  rw [e, grow_app, grow_cons]
  simp [-po_comp]
  omega
theorem nm_len {G : Grp n f z} {R : List Nat} {kv : List (Fin n × List Nat)} (H : Gn.Nm (gab G) R kv) : kv.length = F.pr R := by
  rw [← F.tr_len]
  have : (kv.map (·.2)).Perm (F.tr R) := (List.perm_ext_iff_of_nodup H.nd2 (tr_nd R)).mpr fun x => by
    rw [thr_tr, ← H.th, List.mem_map]
    exact ⟨fun ⟨q, hq, e⟩ => ⟨q.1, by rw [← e]; exact hq⟩, fun ⟨a, h⟩ => ⟨_, h, rfl⟩⟩
  have := this.length_eq
  simpa using this
theorem nm_few {G : Grp n f z} {R : List Nat} {kv : List (Fin n × List Nat)} (H : Gn.Nm (gab G) R kv) : R.length ≤ 4 := by
  have h := pr_two H.r2
  rw [← nm_len H] at h
  have := nm_le H
  have hn := G.n16
  apply Classical.byContradiction
  intro c
  have : 2 ^ 5 ≤ 2 ^ R.length := Nat.pow_le_pow_right (by decide) (by omega)
  omega
theorem names_ok {X : Exn → En → Prop} (G : Grp n f z) : Wp X (m_names_of [.v (.list (tab n f))]) fun rv _ => ∃ R nm, rv = .v (.tuple [F.N R, .list ((List.range n).map fun i => F.N (nmD nm i))]) ∧ Nmd G R nm ∧ (∀ r ∈ R, 2 ≤ r) ∧ R.Pairwise (· ∣ ·) := by
  have h16 := G.n16
  have hz := G.zn
  refine po_fnK fun Y K hY hK _ => ?_
  unfold b_names_of
  refine po_step fun K1 h1 _ _ _ => ?_
  simp [-po_comp]
  refine po_mono (lets_ok G) ?_
  rintro _ _ rfl
  refine h1 _ ?_
  refine po_step fun K2 h2 _ _ _ => ?_
  simp [-po_comp, frzD_ap, oDict, prs]
  refine po_mono (nought_ok G) ?_
  rintro _ _ rfl
  have e0 : dctOf (pK [] (Sum.inl (z : Int)) (PyData.tuple [])) = some (fdt (kvD [((⟨z, hz⟩ : Fin n), [])])) := rfl
  simp [-po_comp, e0]
  refine h2 _ ?_
  refine po_step fun K3 h3 _ _ _ => ?_
  simp [-po_comp]
  refine h3 _ ?_
  refine po_step fun K4 h4 _ _ _ => ?_
  refine po_while (fun c r => ∃ (R : List Nat) (kv : List (Fin n × List Nat)) (s3 s4 s5 s6 s7 s8 s9 : Sl), c = n - kv.length ∧ Gn.Nm (gab G) R kv ∧ r = [.v (.list (tab n f)), .v (fdt (kvD kv)), .v (F.N R), s3, s4, s5, s6, s7, s8, s9] ∧ s3.isIo = false ∧ s4.isIo = false ∧ s5.isIo = false ∧ s6.isIo = false ∧ s7.isIo = false ∧ s8.isIo = false ∧ s9.isIo = false ∧ s6.own = none) ?_ (n - 1) _ ⟨[], [((gab G).z, [])], _, _, _, _, _, _, _, rfl, Gn.nm_0, rfl, rfl, rfl, rfl, rfl, rfl, rfl, rfl, rfl⟩
  rintro c r ⟨R, kv, s3, s4, s5, s6, s7, s8, s9, rfl, H, rfl, q3, q4, q5, q6, q7, q8, q9, w6⟩
  have hle := nm_le H
  have ne : kvD kv ≠ [] := kvD_ne (nm_ne H)
  by_cases hlt : kv.length < n
  · have hx : ∃ a, ¬ Gn.keys kv a := nm_more H hlt
    simp [-po_comp, len_fd ne, kvD_len, tab_len, hlt]
    refine po_step fun K5 h5 _ _ _ => ?_
    simp [-po_comp]
    refine po_mono (maker_ok G H hx) ?_
    rintro _ _ ⟨g, N, rfl, M⟩
    have two := M.two
    have leN := M.le
    have H2 := H.step M.two M.o M.z M.ex M.dv
    simp [-po_comp, q3, q4]
    refine h5 _ ?_
    refine po_step fun K6 h6 _ _ _ => ?_
    simp [-po_comp, q5]
    refine h6 _ ?_
    refine po_step fun K7 h7 _ _ _ => ?_
    simp [-po_comp, items_fd ne]
    rw [kvD_items]
    refine po_forK (fun done r => ∃ (s6 s7 s8 s9 : Sl), r = [.v (.list (tab n f)), .v (fdt (kvD kv)), .v (F.N R), .v (.int (g.val : Nat)), .v (.int (N : Nat)), .o (.d (odt (kvD (Gn.grow (gab G) g N done)))), s6, s7, s8, s9] ∧ s6.isIo = false ∧ s7.isIo = false ∧ s8.isIo = false ∧ s9.isIo = false ∧ s6.own = none) kv _ ⟨_, _, _, _, rfl, q6, q7, q8, q9, w6⟩ ?_ ?_
    · rintro done p rest r e ⟨s6, s7, s8, s9, rfl, q6, q7, q8, q9, w6⟩
      refine ⟨[.v (.list (tab n f)), .v (fdt (kvD kv)), .v (F.N R), .v (.int (g.val : Nat)), .v (.int (N : Nat)), .o (.d (odt (kvD (Gn.grow (gab G) g N done)))), .v (.int (p.1.val : Nat)), .v (F.N p.2), s8, s9], by simp [-po_comp, q6, q7], fun K8 h8 _ _ _ => ?_⟩
      refine po_step fun K9 h9 _ _ _ => ?_
      simp [-po_comp, q8]
      refine h9 _ ?_
      simp [-po_comp]
      refine ⟨by omega, ?_⟩
      refine po_rngK (fun i r => ∃ s9 : Sl, r = [.v (.list (tab n f)), .v (fdt (kvD kv)), .v (F.N R), .v (.int (g.val : Nat)), .v (.int (N : Nat)), .o (.d (odt (kvD (Gn.grow (gab G) g N done ++ (List.range i).map (entry G g p))))), .v (.int (p.1.val : Nat)), .v (F.N p.2), .v (.int ((entry G g p i).1.val : Nat)), s9] ∧ s9.isIo = false) N _ ⟨s9, by simp [-po_comp, entry_0], q9⟩ ?_ ?_
      · rintro i r hi ⟨s9, rfl, q9⟩
        refine ⟨[.v (.list (tab n f)), .v (fdt (kvD kv)), .v (F.N R), .v (.int (g.val : Nat)), .v (.int (N : Nat)), .o (.d (odt (kvD (Gn.grow (gab G) g N done ++ (List.range i).map (entry G g p))))), .v (.int (p.1.val : Nat)), .v (F.N p.2), .v (.int ((entry G g p i).1.val : Nat)), .v (.int (i : Nat))], by simp [-po_comp, q9], fun K10 h10 _ _ _ => ?_⟩
        have nw := kvD_not (grow_new G H2.nd e hi)
        refine po_step fun K11 h11 _ _ _ => ?_
        simp [-po_comp]
        have hl1 : p.2.length ≤ 4 := by
          have : p ∈ kv := by rw [e]; simp [-po_comp]
          rw [thr_len ((H.th p.2).mp ⟨p.1, this⟩)]
          exact nm_few H
        have hl2 : (odt (kvD (Gn.grow (gab G) g N done ++ (List.range i).map (entry G g p)))).length ≤ 16 := by
          have a1 := grow_sub G (g := g) (N := N) e (i := i) (by omega)
          have a2 := nm_le H2
          unfold odt
          rw [List.length_map, kvD_len]
          omega
        refine ⟨by omega, by omega, ?_⟩
        rw [pK_odt nw]
        refine h11 _ ?_
        simp [-po_comp, tab_at (entry G g p i).1.2, row_at (entry G g p i).1.val g.2]
        refine h10 _ ⟨.v (.int (i : Nat)), ?_, rfl⟩
        rw [entry_s]
        have ek : kvD (Gn.grow (gab G) g N done ++ (List.range i).map (entry G g p)) ++ [((entry G g p i).1.val, PyData.tuple (PyData.int (i : Nat) :: p.2.map fun n : Nat => PyData.int (n : Nat)))] = kvD (Gn.grow (gab G) g N done ++ (List.range (i + 1)).map (entry G g p)) := by
          rw [List.range_succ, List.map_append, ← List.append_assoc]
          unfold kvD
          rw [List.map_append (l₁ := Gn.grow (gab G) g N done ++ (List.range i).map (entry G g p))]
          rfl
        rw [ek]
      · rintro r ⟨s9, rfl, q9⟩
        refine h8 _ ⟨.v (.int (p.1.val : Nat)), .v (F.N p.2), .v (.int ((entry G g p N).1.val : Nat)), s9, ?_, rfl, rfl, rfl, q9, rfl⟩
        have ek : Gn.grow (gab G) g N (done ++ [p]) = Gn.grow (gab G) g N done ++ (List.range N).map (entry G g p) := by
          rw [grow_app, grow_cons]
          simp [-po_comp, Gn.grow]
        rw [ek]
    · rintro r ⟨s6, s7, s8, s9, rfl, q6, q7, q8, q9, w6⟩
      refine h7 _ ?_
      refine po_step fun K8 h8 _ _ _ => ?_
      have ne2 : kvD (Gn.grow (gab G) g N kv) ≠ [] := kvD_ne (nm_ne H2)
      simp [-po_comp, frzD_ap, dctOf_odt ne2]
      refine h8 _ ?_
      simp [-po_comp]
      have hf := nm_few H
      have l1 := nm_len H
      have l2 := nm_len H2
      rw [F.pr_cons] at l2
      have l3 : 0 < F.pr R := F.pr_pos fun r hr => by have := H.r2 r hr; omega
      have l4 : 2 * F.pr R ≤ N * F.pr R := Nat.mul_le_mul_right _ two
      have l5 := nm_le H2
      exact ⟨by omega, n - (Gn.grow (gab G) g N kv).length, by omega, N :: R, Gn.grow (gab G) g N kv, rfl, H2, .v (.int (g.val : Nat)), .v (.int (N : Nat)), .unk, s6, s7, s8, s9, ⟨rfl, rfl, rfl, rfl, rfl, rfl, rfl, rfl, rfl⟩, rfl, rfl, rfl, q6, q7, q8, q9, w6⟩
  · simp [-po_comp, len_fd ne, kvD_len, tab_len, hlt]
    refine h4 _ ?_
    have hl : kv.length = n := by omega
    obtain ⟨nm, Q, hnm⟩ := nmd_of H hl
    simp [-po_comp, po_comp, tab_len]
    refine ⟨by omega, w6, ?_⟩
    rw [rng_map]
    refine po_compM (g := fun i : Nat => F.N (nmD nm i)) (fun r => ∃ s, r = [.v (.list (tab n f)), .v (fdt (kvD kv)), .v (F.N R), s3, s4, s5, s, s7, s8, s9]) (List.range n) [] _ ⟨_, rfl⟩ (by simp [-po_comp]; omega) ?_ ?_
    · rintro i hi r ⟨s, rfl⟩
      have hi := List.mem_range.mp hi
      refine ⟨[.v (.list (tab n f)), .v (fdt (kvD kv)), .v (F.N R), s3, s4, s5, .v (.int (i : Nat)), s7, s8, s9], by simp, ?_⟩
      have := ix_fd (kvD_nd H.nd) (kvD_in (hnm ⟨i, hi⟩))
      rw [← nmD_at nm ⟨i, hi⟩] at this
      simp [-po_comp, this]
    · rintro r ⟨s, rfl⟩
      simp [-po_comp]
      refine hK _ _ _ rfl ⟨R, nm, rfl, Q, H.r2, H.dv⟩
end
end K74
namespace K74.F.Y
open PySem Pu L2
abbrev T (xs : List Int) : D := .tuple (xs.map .int)
def BB : Nat := 2 ^ 1900
def Ho (hs : List Int) : Prop := hs.length ≤ 6 ∧ ∀ h ∈ hs, 1 ≤ h ∧ h.natAbs < BB
def Th (hs as : List Int) : Prop := as.length = hs.length ∧ ∀ (i : Nat) (a h : Int), as[i]? = some a → hs[i]? = some h → 0 ≤ a ∧ a < h
theorem Ho.at {hs : List Int} (H : Ho hs) {i : Nat} {h : Int} (e : hs[i]? = some h) : 1 ≤ h ∧ h.natAbs < BB := H.2 h (List.mem_of_getElem? e)
theorem zip_at {as : List Int} {p : Int × Nat} (h : p ∈ as.zipIdx 0) : as[p.2]? = some p.1 := by
  have := List.mem_zipIdx h
  simp at this
  rw [List.getElem?_eq_getElem (by omega), this.2]
theorem at_len {hs : List Int} {i : Nat} (h : i < hs.length) : ∃ x, hs[i]? = some x := ⟨_, List.getElem?_eq_getElem h⟩
theorem lt_of_at {as : List Int} {i : Nat} {a : Int} (h : as[i]? = some a) : i < as.length := (List.getElem?_eq_some_iff.mp h).1
def mods (hs xs : List Int) : List Int := List.zipWith (fun x h => x % h) xs hs
theorem mods_at {hs xs : List Int} (i : Nat) : (mods hs xs)[i]? = (xs[i]?).bind fun x => (hs[i]?).map fun h => x % h := by
  unfold mods
  rw [List.getElem?_zipWith]
  cases xs[i]? <;> cases hs[i]? <;> rfl
theorem by_rounds_ok {X : Exn → En → Prop} {hs xs : List Int} (H : Ho hs) (hl : xs.length = hs.length) : Wp X (m_by_rounds [.v (T hs), .v (.list (xs.map .int))]) fun rv _ => rv = .v (T (mods hs xs)) := by
  refine po_fnK fun Y K hY hK _ => ?_
  unfold b_by_rounds
  simp
  refine po_compM (g := fun p : Int × Nat => PyData.int (p.1 % ((hs[p.2]?).getD 1))) (fun r => ∃ a b, r = [.v (T hs), .v (.list (xs.map .int)), a, b]) (xs.zipIdx 0) [] _ ⟨_, _, rfl⟩ (by have := H.1; simp [hl]; omega) ?_ ?_
  · rintro p hp r ⟨a, b, rfl⟩
    have e1 := zip_at hp
    obtain ⟨h, e2⟩ := at_len (hs := hs) (i := p.2) (by rw [← hl]; exact lt_of_at e1)
    have hh := H.at e2
    have h0 : ¬ h = 0 := by omega
    refine ⟨[.v (T hs), .v (.list (xs.map .int)), .v (.int p.2), .v (.int p.1)], by simp, ?_⟩
    simp [e2, h0]
    exact Int.fmod_eq_emod_of_nonneg _ (by omega)
  · rintro r ⟨a, b, rfl⟩
    simp
    refine hK _ _ _ rfl ?_
    have e : (xs.zipIdx.map fun p : Int × Nat => PyData.int (p.1 % ((hs[p.2]?).getD 1))) = (mods hs xs).map .int := by
      apply List.ext_getElem?
      intro i
      rw [List.getElem?_map, List.getElem?_map, mods_at, List.getElem?_zipIdx]
      cases hx : xs[i]? with
      | none => rfl
      | some x =>
        obtain ⟨h, e2⟩ := at_len (hs := hs) (i := i) (by rw [← hl]; exact lt_of_at hx)
        simp [e2]
    rw [e]
def wh : D → Bool
  | .int _ => true
  | _ => false
def okA (hs : List Int) (ds : List D) (i : Nat) : Bool := match ds[i]? with
  | some (.int a) => (match hs[i]? with
    | some h => decide (0 ≤ a) && decide (a < h)
    | none => false)
  | _ => false
def thg (hs : List Int) : D → Bool
  | .tuple ds => decide (ds.length = hs.length) && (List.range hs.length).all (okA hs ds)
  | _ => false
theorem whole_ok {X : Exn → En → Prop} (d : D) (nd : K74.noF d = true) : Wp X (m_is_whole [.v d]) fun rv _ => rv = .v (.bool (wh d)) := by
  refine po_fn ?_
  unfold b_is_whole
  cases d with
  | dict kvs => simp [wh, K74.nf_dict nd]
  | _ => simp [wh]
theorem all_zip (ds : List D) (f : Nat → Bool) : (ds.zipIdx.map fun p => f p.2).all id = (List.range ds.length).all f := by
  have : (ds.zipIdx.map fun p => f p.2) = (List.range ds.length).map f := by
    apply List.ext_getElem?
    intro i
    rw [List.getElem?_map, List.getElem?_map, List.getElem?_zipIdx]
    by_cases h : i < ds.length
    · rw [List.getElem?_eq_getElem h, List.getElem?_range h]
      simp
    · rw [List.getElem?_eq_none (by omega), List.getElem?_eq_none (by simp; omega)]
      rfl
  rw [this, List.all_map]
  rfl
theorem is_thing_ok {X : Exn → En → Prop} {hs : List Int} (H : hs.length ≤ 6) (d : D) (nd : K74.noF d = true) : Wp X (m_is_thing [.v (T hs), .v d]) fun rv _ => rv = .v (.bool (thg hs d)) := by
  refine po_fnK fun Y K hY hK _ => ?_
  unfold b_is_thing
  refine po_step fun K1 h1 r1 _ _ => ?_
  cases d with
  | tuple ds =>
    by_cases hl : ds.length = hs.length
    · simp [hl]
      refine h1 _ ?_
      have e : enOf [.tuple ds] = some ((ds.zipIdx 0).map fun p => .tuple [.int (p.2 : Nat), p.1]) := by
        have := enOf_t (fun d : D => d) ds
        simpa using this
      simp [e]
      refine po_compM (g := fun p : D × Nat => PyData.bool (okA hs ds p.2)) (fun r => ∃ a b, r = [.v (T hs), .v (.tuple ds), a, b]) (ds.zipIdx 0) [] _ ⟨_, _, rfl⟩ (by simp; omega) ?_ ?_
      · rintro ⟨x, i⟩ hp r ⟨a, b, rfl⟩
        have e1 : ds[i]? = some x := by
          have := List.mem_zipIdx hp
          simp at this
          rw [List.getElem?_eq_getElem this.1]
          exact congrArg some this.2.symm
        obtain ⟨h, e2⟩ := at_len (hs := hs) (i := i) (by rw [← hl]; exact (List.getElem?_eq_some_iff.mp e1).1)
        refine ⟨[.v (T hs), .v (.tuple ds), .v (.int i), .v x], by simp, ?_⟩
        simp
        refine po_mono (whole_ok x (K74.nf_mem nd (List.mem_of_getElem? e1))) ?_
        rintro _ _ rfl
        cases x with
        | int a =>
          by_cases h0 : 0 ≤ a
          · simp [wh, okA, e1, e2, h0]
          · simp [wh, okA, e1, e2, h0]
        | _ => simp [wh, okA, e1]
      · rintro r ⟨a, b, rfl⟩
        have e3 := all_zip ds (okA hs ds)
        have e4 : boolsOf (ds.zipIdx.map fun p => PyData.bool (okA hs ds p.2)) = some (ds.zipIdx.map fun p => okA hs ds p.2) := boolsOf_map (fun p : D × Nat => okA hs ds p.2) _
        simp [e4]
        refine hK _ _ _ rfl ?_
        rw [hl] at e3
        rw [List.all_map] at e3
        simp [thg, hl]
        first | exact e3 | (simpa using e3)
    · have hl2 : ¬ ((ds.length : Int) = (hs.length : Int)) := by omega
      simp [hl2]
      refine r1 _ _ ?_
      exact hK _ _ _ rfl (by simp [thg, hl])
  | dict kvs =>
    simp [K74.nf_dict nd]
    exact r1 _ _ (hK _ _ _ rfl rfl)
  | _ =>
    simp
    exact r1 _ _ (hK _ _ _ rfl rfl)
theorem thg_T {hs as : List Int} (h : Th hs as) : thg hs (T as) = true := by
  unfold thg
  simp [h.1]
  intro i hi
  obtain ⟨a, ea⟩ := at_len (hs := as) (i := i) (by rw [h.1]; exact hi)
  obtain ⟨k, ek⟩ := at_len hi
  have := h.2 _ _ _ ea ek
  simp [okA, ea, ek, this]
def Hq (hs : List Int) : Prop := hs.length ≤ 6 ∧ ∀ h ∈ hs, 1 ≤ h ∧ h ≤ 10 ^ 38
theorem small_BB {x : Int} (h0 : -(10 ^ 40) ≤ x) (h1 : x ≤ 10 ^ 40) : x.natAbs < BB := by
  have h2 : x.natAbs ≤ 10 ^ 40 := by omega
  refine Nat.lt_of_le_of_lt h2 ?_
  unfold BB
  decide +kernel
theorem Hq.ho {hs : List Int} (h : Hq hs) : Ho hs := ⟨h.1, fun x hx => ⟨(h.2 x hx).1, small_BB (by have := (h.2 x hx).1; omega) (by have := (h.2 x hx).2; omega)⟩⟩
def Im (h : Int) (ps as : List Int) : Prop := as.length = ps.length ∧ ∀ (i : Nat) (a k : Int), as[i]? = some a → ps[i]? = some k → (0 ≤ a ∧ a < k) ∧ (h * a) % k = 0
/-! ### leading -/
def gi (xs : List Int) (i : Nat) : Int := xs.getD i 0
theorem gi_at {xs : List Int} {i : Nat} (h : i < xs.length) : xs[i]? = some (gi xs i) := by
  unfold gi
  rw [List.getD_eq_getElem?_getD, List.getElem?_eq_getElem h]
  rfl
def gr (rs : List (List Int)) (i : Nat) : List Int := rs.getD i []
structure Wy (os ps : List Int) (ims : List (List Int)) : Prop where
  o : Hq os
  p : Hq ps
  l : ims.length = os.length
  im : ∀ i, i < os.length → Im (gi os i) ps (gr ims i)
theorem Wy.num {os ps : List Int} {ims : List (List Int)} (W : Wy os ps ims) {i j : Nat} (hi : i < os.length) (hj : j < ps.length) : 0 ≤ gi (gr ims i) j ∧ gi (gr ims i) j ≤ 10 ^ 40 ∧ (gr ims i)[j]? = some (gi (gr ims i) j) := by
  have I := W.im i hi
  have e := gi_at (xs := gr ims i) (i := j) (by rw [I.1]; exact hj)
  have := (I.2 j _ _ e (gi_at hj)).1
  have := W.p.2 _ (List.mem_of_getElem? (gi_at hj))
  exact ⟨by omega, by omega, e⟩
@[simp] theorem sumD_g {γ : Type} (f : γ → Int) (xs : List γ) : sumD (.list (xs.map fun x => .int (f x))) = some (.int (xs.map f).sum) := by
  have e := intsOf_mp (xs.map f)
  rw [List.map_map] at e
  show (intsOf (xs.map fun x => .int (f x))).map (fun ns : List Int => PyData.int ns.sum) = _
  have e2 : intsOf (xs.map fun x => .int (f x)) = some (xs.map f) := e
  rw [e2]
  rfl
@[simp] theorem intD_b (b : Bool) : intD (.bool b) = some (.int (if b then 1 else 0)) := rfl
@[simp] theorem sumAD_g {γ : Type} (f : γ → Int) (xs : List γ) : sumAD (.list (xs.map fun x => .int (f x))) = some (.int (xs.map f).sum) := sumD_g f xs
theorem Wy.zero {os ps : List Int} {ims : List (List Int)} (W : Wy os ps ims) {i j : Nat} (hi : i < os.length) (hj : j < ps.length) : (gi os i * gi (gr ims i) j) % gi ps j = 0 := by
  have I := W.im i hi
  have e := gi_at (xs := gr ims i) (i := j) (by rw [I.1]; exact hj)
  exact (I.2 j _ _ e (gi_at hj)).2
/-! staying -/
theorem need_ok {X : Exn → En → Prop} {hs : List Int} (H : Ho hs) (ts : List (List Int)) (ht : ∀ t ∈ ts, Th hs t) : Wp X (m_need_things [.v (T hs), .v (.list (ts.map T))]) fun rv _ => rv = .v .none := by
  refine po_fnK fun Y K hY _ hN => ?_
  unfold b_need_things
  simp
  refine po_forK (fun _ r => ∃ s, r = [.v (T hs), .v (.list (ts.map T)), s] ∧ s.isIo = false) ts _ ⟨_, rfl, rfl⟩ ?_ ?_
  · rintro done t rest r e ⟨s, rfl, q⟩
    refine ⟨[.v (T hs), .v (.list (ts.map T)), .v (T t)], by simp [q], fun K1 h1 _ _ _ => ?_⟩
    simp
    refine po_mono (is_thing_ok H.1 (T t) (K74.nf_ints t)) ?_
    rintro _ _ rfl
    simp [thg_T (ht t (by rw [e]; simp))]
    exact h1 _ ⟨_, rfl, rfl⟩
  · rintro r ⟨s, rfl, q⟩
    exact hN _ _ rfl rfl
theorem plus_ok {X : Exn → En → Prop} {hs as bs : List Int} (H : Ho hs) (A : Th hs as) (B : Th hs bs) : Wp X (m_plus [.v (T hs), .v (T as), .v (T bs)]) fun rv _ => rv = .v (T (mods hs (List.zipWith (fun a b => a + b) as bs))) := by
  refine po_fnK fun Y K hY hK _ => ?_
  unfold b_plus
  refine po_step fun K1 h1 _ _ _ => ?_
  simp
  refine po_mono (need_ok H [as, bs] (by
    intro t ht
    simp at ht
    rcases ht with rfl | rfl
    · exact A
    · exact B)) ?_
  rintro _ _ rfl
  refine h1 _ ?_
  have hl6 := H.1
  simp
  refine ⟨by omega, ?_⟩
  rw [rng_map]
  refine po_compM (g := fun i : Nat => PyData.int ((as[i]?).getD 0 + (bs[i]?).getD 0)) (fun r => ∃ a, r = [.v (T hs), .v (T as), .v (T bs), a]) (List.range hs.length) [] _ ⟨_, rfl⟩ (by simp; omega) ?_ ?_
  · rintro i hi r ⟨a, rfl⟩
    have hi := List.mem_range.mp hi
    obtain ⟨x, e1⟩ := at_len (hs := as) (i := i) (by rw [A.1]; exact hi)
    obtain ⟨y, e2⟩ := at_len (hs := bs) (i := i) (by rw [B.1]; exact hi)
    refine ⟨[.v (T hs), .v (T as), .v (T bs), .v (.int i)], by simp, ?_⟩
    simp [e1, e2]
  · rintro r ⟨a, rfl⟩
    have e : ((List.range hs.length).map fun i : Nat => PyData.int ((as[i]?).getD 0 + (bs[i]?).getD 0)) = (List.zipWith (fun a b => a + b) as bs).map .int := by
      apply List.ext_getElem?
      intro i
      rw [List.getElem?_map, List.getElem?_map, List.getElem?_zipWith]
      by_cases hi : i < hs.length
      · obtain ⟨x, e1⟩ := at_len (hs := as) (i := i) (by rw [A.1]; exact hi)
        obtain ⟨y, e2⟩ := at_len (hs := bs) (i := i) (by rw [B.1]; exact hi)
        simp [List.getElem?_range hi, e1, e2]
      · have e1 : as[i]? = none := List.getElem?_eq_none (by rw [A.1]; omega)
        rw [List.getElem?_eq_none (by simp; omega), e1]
        rfl
    simp [e, -List.map_zipWith]
    refine po_mono (by_rounds_ok (xs := List.zipWith (fun a b => a + b) as bs) H (by have h1 := A.1; have h2 := B.1; rw [List.length_zipWith]; omega)) ?_
    rintro _ _ rfl
    exact hK _ _ _ rfl rfl
end K74.F.Y
namespace K74
open PySem Pu L2
section
variable {n : Nat} {f : Nat → Nat → Nat} {z : Nat} {G : Grp n f z} {R : List Nat} {nm : Fin n → List Nat}
theorem tups_N : ∀ xs : List (List Nat), tupsI (xs.map fun x => F.N x) = some (xs.map fun x => F.IN x)
  | [] => rfl
  | x :: xs => by
    have h1 : tupsI.ixIntsD (x.map fun n : Nat => PyData.int (n : Int)) = some (F.IN x) := by
      have e : (x.map fun n : Nat => PyData.int (n : Int)) = (F.IN x).map .int := by simp [-po_comp, F.IN]
      rw [e]
      exact ixIntsD_of _
    have h2 := tups_N xs
    rw [List.map_cons]
    unfold tupsI
    rw [h1, h2]
    rfl
theorem neN (x y : List Nat) : neD (F.N x) (F.N y) = some (.bool (!decide (x = y))) := by
  rw [F.NT, F.NT]
  show neD (.tuple ((F.IN x).map .int)) (.tuple ((F.IN y).map .int)) = _
  rw [neD_T]
  congr 2
  rw [Bool.eq_iff_iff]
  simp [-po_comp]
  exact ⟨fun h e => h (by rw [e]), fun h e => h (IN_inj e)⟩
theorem plusN_ok {X : Exn → En → Prop} {R x y : List Nat} (hs : F.HoS R) (hx : Gn.Thr R x) (hy : Gn.Thr R y) : Wp X (m_plus [.v (F.N R), .v (F.N x), .v (F.N y)]) fun rv _ => rv = .v (F.N (Gn.ads R x y)) := by
  have H : F.Y.Ho (F.IN R) := ⟨by simpa using hs.1, fun h hh => by
    obtain ⟨k, hk, rfl⟩ := List.mem_map.mp hh
    have := hs.2 k hk
    refine ⟨by omega, ?_⟩
    have h1 : (1000000 : Nat) < F.Y.BB := by decide +kernel
    show (k : Int).natAbs < F.Y.BB
    omega⟩
  have A : F.Y.Th (F.IN R) (F.IN x) := th_thr.mpr ⟨x, rfl, hx⟩
  have B : F.Y.Th (F.IN R) (F.IN y) := th_thr.mpr ⟨y, rfl, hy⟩
  have := F.Y.plus_ok (X := X) H A B
  rw [F.NT, F.NT, F.NT, F.NT]
  refine po_mono this ?_
  rintro _ _ rfl
  have e : F.Y.mods (F.IN R) (List.zipWith (fun a b => a + b) (F.IN x) (F.IN y)) = F.IN (Gn.ads R x y) := pl_IN hx hy
  rw [e]
end
end K74
namespace K74
open PySem Pu L2
/-! ### is it a form, of whatever thing -/
theorem N_inj {x y : List Nat} (h : F.N x = F.N y) : x = y := by
  rw [F.NT, F.NT] at h
  have h := PyData.tuple.inj h
  have inj : ∀ {a b : List Int}, a.map PyData.int = b.map PyData.int → a = b := by
    intro a
    induction a with
    | nil =>
      intro b h
      cases b with
      | nil => rfl
      | cons b bs => cases h
    | cons a as ih =>
      intro b h
      cases b with
      | nil => cases h
      | cons b bs =>
        obtain ⟨h1, h2⟩ := List.cons.inj h
        rw [PyData.int.inj h1, ih h2]
  exact IN_inj (inj h)
def on1 : D → Bool
  | .int i => decide (1 ≤ i)
  | _ => false
def houB : D → Bool
  | .tuple ds => decide (ds.length ≤ 6) && ds.all on1
  | _ => false
theorem house_gen {X : Exn → En → Prop} (d : D) (nd : noF d = true) : Wp X (m_is_house [.v d]) fun rv _ => rv = .v (.bool (houB d)) := by
  refine po_fnK fun Y K hY hK _ => ?_
  unfold b_is_house
  refine po_step fun K1 h1 r1 _ _ => ?_
  cases d with
  | tuple ds =>
    by_cases hl : ds.length ≤ 6
    · have hl2 : ¬ ((6 : Int) < (ds.length : Int)) := by omega
      simp [-po_comp, hl2]
      refine h1 _ ?_
      simp
      refine po_compMD (g := fun d => .bool (on1 d)) (fun r => ∃ a, r = [.v (.tuple ds), a]) ds _ ⟨_, rfl⟩ (by omega) ?_ ?_
      · rintro x hx r ⟨a, rfl⟩
        refine ⟨[.v (.tuple ds), .v x], by simp, ?_⟩
        simp [-po_comp]
        refine po_mono (F.Y.whole_ok x (nf_mem nd hx)) ?_
        rintro _ _ rfl
        cases x <;> simp [-po_comp, F.Y.wh, on1]
      · rintro r ⟨a, rfl⟩
        simp [-po_comp]
        refine hK _ _ _ rfl ?_
        simp [-po_comp, houB, hl]
    · have hl2 : (6 : Int) < (ds.length : Int) := by omega
      simp [-po_comp, hl2]
      refine r1 _ _ ?_
      exact hK _ _ _ rfl (by simp [-po_comp, houB, hl])
  | dict kvs =>
    simp [-po_comp, nf_dict nd]
    exact r1 _ _ (hK _ _ _ rfl rfl)
  | _ =>
    simp [-po_comp]
    exact r1 _ _ (hK _ _ _ rfl rfl)
theorem hou_nat {d : D} (h : houB d = true) : ∃ R : List Nat, d = F.N R ∧ R.length ≤ 6 ∧ ∀ r ∈ R, 1 ≤ r := by
  cases d with
  | tuple ds =>
    simp [-po_comp, houB] at h
    obtain ⟨hl, ha⟩ := h
    have key : ∀ ds : List D, (∀ x ∈ ds, on1 x = true) → ∃ R : List Nat, ds = R.map (fun n : Nat => PyData.int (n : Int)) ∧ ∀ r ∈ R, 1 ≤ r := by
      intro ds
      induction ds with
      | nil => exact fun _ => ⟨[], rfl, by simp⟩
      | cons d ds ih =>
        intro ha
        obtain ⟨R, e, hx⟩ := ih fun z hz => ha z (List.mem_cons_of_mem _ hz)
        have h1 := ha d (List.mem_cons_self ..)
        cases d with
        | int i =>
          have hi : 1 ≤ i := by simpa [on1] using h1
          refine ⟨i.toNat :: R, by rw [List.map_cons, e, Int.toNat_of_nonneg (by omega)], ?_⟩
          intro x hm
          rcases List.mem_cons.mp hm with rfl | hm
          · omega
          · exact hx x hm
        | _ => simp [-po_comp, on1] at h1
    obtain ⟨R, rfl, hx⟩ := key ds ha
    exact ⟨R, rfl, by simpa using hl, hx⟩
  | _ => cases h
def Fo (R : List Nat) : Prop := R.length ≤ 6 ∧ (∀ r ∈ R, 2 ≤ r) ∧ R.Pairwise (· ∣ ·)
theorem fo_of {R : List Nat} (hl : R.length ≤ 6) (h1 : ∀ i, i < R.length → ∃ x, R[i]? = some x ∧ 2 ≤ x) (h2 : ∀ i x y, i + 1 < R.length → R[i]? = some x → R[i + 1]? = some y → x ∣ y) : Fo R := by
  refine ⟨hl, fun r hr => ?_, ?_⟩
  · obtain ⟨i, hi, rfl⟩ := List.getElem_of_mem hr
    obtain ⟨x, e, h⟩ := h1 i hi
    rw [List.getElem?_eq_getElem hi] at e
    rw [Option.some.inj e]
    exact h
  · rw [List.pairwise_iff_getElem]
    intro i j hi hj hij
    induction j with
    | zero => omega
    | succ j ih =>
      have hd := h2 j R[j] R[j + 1] hj (List.getElem?_eq_getElem (by omega)) (List.getElem?_eq_getElem hj)
      by_cases e : i = j
      · subst e
        exact hd
      · exact Nat.dvd_trans (ih (by omega) (by omega)) hd
theorem fo_step {R : List Nat} (h : Fo R) {k x : Nat} (e : R[k]? = some x) : 2 ≤ x ∧ ∀ y, 0 < k → R[k - 1]? = some y → y ∣ x := by
  obtain ⟨hl, h2, hd⟩ := h
  refine ⟨h2 x (List.mem_of_getElem? e), fun y hk ey => ?_⟩
  obtain ⟨h1, e1⟩ := List.getElem?_eq_some_iff.mp e
  obtain ⟨h3, e3⟩ := List.getElem?_eq_some_iff.mp ey
  rw [← e1, ← e3]
  exact List.pairwise_iff_getElem.mp hd (k - 1) k h3 h1 (by omega)
open Classical in
theorem form_gen {X : Exn → En → Prop} (d : D) (nd : noF d = true) : Wp X (m_is_form [.v d]) fun rv _ => rv = .v (.bool (decide (∃ R, d = F.N R ∧ Fo R))) := by
  refine po_fnK fun Y K hY hK _ => ?_
  unfold b_is_form
  refine po_step fun K1 h1 r1 _ _ => ?_
  simp [-po_comp]
  refine po_mono (house_gen d nd) ?_
  rintro _ _ rfl
  cases hh : houB d with
  | false =>
    simp [-po_comp]
    refine r1 _ _ (hK _ _ _ rfl ?_)
    rw [decide_eq_false]
    rintro ⟨R, rfl, hl, h2, _⟩
    have : houB (F.N R) = true := by
      simp [-po_comp, houB, hl]
      intro r hr
      have := h2 r hr
      simp [-po_comp, on1]
      omega
    rw [this] at hh
    cases hh
  | true =>
    obtain ⟨R, rfl, hl, hp⟩ := hou_nat hh
    have eq : (∃ R', F.N R = F.N R' ∧ Fo R') ↔ Fo R := ⟨fun ⟨R', e, h⟩ => by rw [N_inj e]; exact h, fun h => ⟨R, rfl, h⟩⟩
    simp only [eq] at hK
    simp [-po_comp]
    refine h1 _ ?_
    refine po_step fun K2 h2' r2 _ _ => ?_
    have ee : enOf [F.N R] = some ((R.zipIdx 0).map fun p => .tuple [.int (p.2 : Nat), .int (p.1 : Nat)]) := enOf_t (fun k : Nat => PyData.int (k : Nat)) R
    simp [-po_comp, ee]
    refine po_forK (fun done r => ((∀ i, i < done.length → ∃ x, R[i]? = some x ∧ 2 ≤ x) ∧ ∀ i x y, i + 1 < done.length → R[i]? = some x → R[i + 1]? = some y → x ∣ y) ∧ ∃ s3 s4, r = [.v (F.N R), s3, s4] ∧ s3.isIo = false ∧ s4.isIo = false) (R.zipIdx 0) _ ⟨⟨fun i h => absurd h (by simp [-po_comp]), fun i x y h => absurd h (by simp [-po_comp])⟩, _, _, rfl, rfl, rfl⟩ ?_ ?_
    · rintro done ⟨x, k⟩ rest r e ⟨⟨i1, i2⟩, s3, s4, rfl, q3, q4⟩
      obtain ⟨hk, hx, hlt⟩ := F.zip_idx e
      simp [-po_comp] at hk hx
      subst hk
      refine ⟨[.v (F.N R), .v (.int (done.length : Nat)), .v (.int (x : Nat))], by simp [-po_comp, q3, q4], fun K3 h3 r3 _ _ => ?_⟩
      have bad : ¬ Fo R → K3 (.rt (.v (.bool false))) [.v (F.N R), .v (.int (done.length : Nat)), .v (.int (x : Nat))] := fun hn => r3 _ _ (r2 _ _ (hK _ _ _ rfl (by rw [decide_eq_false hn])))
      have good : 2 ≤ x → (∀ y, 0 < done.length → R[done.length - 1]? = some y → y ∣ x) → K3 .nx [.v (F.N R), .v (.int (done.length : Nat)), .v (.int (x : Nat))] := fun g1 g2 => by
        refine h3 _ ⟨⟨fun i hi => ?_, fun i a b hi ea eb => ?_⟩, _, _, rfl, rfl, rfl⟩
        · simp [-po_comp] at hi
          by_cases c : i = done.length
          · exact ⟨x, by rw [c]; exact hx, g1⟩
          · exact i1 i (by omega)
        · simp [-po_comp] at hi
          by_cases c : i + 1 = done.length
          · rw [c, hx] at eb
            cases eb
            exact g2 a (by omega) (by rw [← c]; exact ea)
          · exact i2 i a b (by omega) ea eb
      by_cases c2 : x < 2
      · have e1 : (x : Int) < 2 := by omega
        simp [-po_comp, e1]
        exact bad fun h => by have := (fo_step h hx).1; omega
      · have e1 : ¬ (x : Int) < 2 := by omega
        by_cases h0 : done.length = 0
        · simp [-po_comp, e1, h0]
          have := good (by omega) fun y hy => by omega
          simp [-po_comp, h0] at this
          exact this
        · have e2 : (0 : Int) < (done.length : Nat) := by omega
          have e2' : 0 < done.length := by omega
          have hp' : done.length - 1 < R.length := by omega
          have e4 : ((done.length : Nat) : Int) - 1 = ((done.length - 1 : Nat) : Int) := by omega
          have e5 : R[done.length - 1]? = some R[done.length - 1] := List.getElem?_eq_getElem hp'
          have e6 : 1 ≤ R[done.length - 1] := hp _ (List.getElem_mem _)
          have e9 : ¬ R[done.length - 1] = 0 := by omega
          have em : (x : Int).fmod ((R[done.length - 1] : Nat) : Int) = ((x % R[done.length - 1] : Nat) : Int) := by
            rw [Int.fmod_eq_emod_of_nonneg _ (by omega)]
            rfl
          by_cases hdv : R[done.length - 1] ∣ x
          · have e7 : ((x % R[done.length - 1] : Nat) : Int) = 0 := by
              have := Nat.mod_eq_zero_of_dvd hdv
              omega
            simp [-po_comp, e1, e2, e2', e4, e5, em, e7, e9, h0]
            exact good (by omega) fun y _ ey => by
              rw [e5] at ey
              rw [← Option.some.inj ey]
              exact hdv
          · have e7 : ¬ ((x % R[done.length - 1] : Nat) : Int) = 0 := fun z => hdv (Nat.dvd_of_mod_eq_zero (by omega))
            have e7' : ¬ (x : Int) % ((R[done.length - 1] : Nat) : Int) = 0 := e7
            simp [-po_comp, e1, e2, e2', e4, e5, em, e9, h0]
            rw [if_neg e7']
            exact bad fun h => hdv ((fo_step h hx).2 _ (by omega) e5)
    · rintro r ⟨⟨i1, i2⟩, s3, s4, rfl, -⟩
      refine h2' _ ?_
      simp [-po_comp] at i1 i2
      simp [-po_comp]
      refine hK _ _ _ rfl ?_
      rw [decide_eq_true (fo_of hl i1 i2)]
end K74
namespace K74.F.Y
open PySem Pu L2
def nsOf (xs : List D) : List Int := xs.map fun d => match d with
  | .int i => i
  | _ => 0
theorem thg_ints {hs : List Int} {d : D} (h : thg hs d = true) : ∃ as, d = T as ∧ Th hs as := by
  cases d with
  | tuple ds =>
    simp [-po_comp, thg] at h
    obtain ⟨hl, ha⟩ := h
    refine ⟨nsOf ds, ?_, ?_, ?_⟩
    · have : ds = (nsOf ds).map .int := by
        apply List.ext_getElem?
        intro i
        unfold nsOf
        rw [List.map_map, List.getElem?_map]
        by_cases hi : i < hs.length
        · have := ha i hi
          unfold okA at this
          cases e : ds[i]? with
          | none => rfl
          | some x =>
            rw [e] at this
            cases x with
            | int a => rfl
            | _ => simp [-po_comp] at this
        · rw [List.getElem?_eq_none (by omega)]
          rfl
      exact congrArg PyData.tuple this
    · simp [-po_comp, nsOf, hl]
    · intro i a k ea ek
      have hi := lt_of_at ek
      have := ha i hi
      unfold okA at this
      unfold nsOf at ea
      rw [List.getElem?_map] at ea
      cases e : ds[i]? with
      | none =>
        rw [e] at ea
        cases ea
      | some x =>
        rw [e] at ea this
        cases x with
        | int b =>
          cases ea
          rw [ek] at this
          simpa using this
        | _ => simp [-po_comp] at this
  | _ => cases h
end K74.F.Y
namespace K74
open PySem Pu L2
theorem isi_bl (b : Bool) : isiD "list" (.bool b) = some (.bool false) := by kernel_rfl
/-! ### names looked at, of whatever thing: the program's walk -/
abbrev NL (zs : List (List Nat)) : D := .list (zs.map fun x => F.N x)
def Good (n : Nat) (f : Nat → Nat → Nat) (d : D) : Prop := ∃ (R : List Nat) (zs : List (List Nat)), d = .tuple [F.N R, NL zs] ∧ Fo R ∧ F.pr R = n ∧ zs.length = n ∧ (∀ x ∈ zs, Gn.Thr R x) ∧ zs.Nodup ∧ ∀ i j, i < n → j < n → zs.getD (f i j) [] = Gn.ads R (zs.getD i []) (zs.getD j [])
/-- numbers of a bounded size -/
def Bd (d : D) : Prop := ∀ ds N, d = .tuple [.tuple ds, N] → ∀ i : Int, .int i ∈ ds → i ≤ 1000
theorem NL_inj : ∀ {xs ys : List (List Nat)}, xs.map (fun x => F.N x) = ys.map (fun x => F.N x) → xs = ys
  | [], [], _ => rfl
  | [], _ :: _, h => by cases h
  | _ :: _, [], h => by cases h
  | x :: xs, y :: ys, h => by
    obtain ⟨h1, h2⟩ := List.cons.inj h
    rw [N_inj h1, NL_inj h2]
theorem cntU_nd' : ∀ {xs : List (List Int)}, cntU xs = xs.length → xs.Nodup
  | [], _ => List.nodup_nil
  | x :: xs, h => by
    unfold cntU at h
    split at h
    · have := cntU_le xs
      simp [-po_comp] at h
      omega
    · next hx => exact List.nodup_cons.mpr ⟨hx, cntU_nd' (by simpa using h)⟩
theorem ints_nd {zs : List (List Nat)} : (zs.map fun x => F.IN x).Nodup ↔ zs.Nodup := by
  rw [List.nodup_iff_pairwise_ne, List.pairwise_map, List.nodup_iff_pairwise_ne]
  exact ⟨fun h => h.imp fun z e => z (by rw [e]), fun h => h.imp fun z e => z (IN_inj e)⟩
theorem lset_zs {zs : List (List Nat)} (h : zs.length < 64) : lsetTD (NL zs) = some (.int (cntU (zs.map fun x => F.IN x) : Nat)) := by
  show (match tupsI (zs.map fun x => F.N x) with
    | some ts => if ts.length < 64 then some (PyData.int (cntU ts : Nat)) else none
    | none => none) = _
  rw [tups_N]
  show (if _ then some (PyData.int (cntU (zs.map fun x => F.IN x) : Nat)) else none) = _
  rw [if_pos (by simpa using h)]
theorem thing_iff {R : List Nat} {y : D} : F.Y.thg (F.IN R) y = true ↔ ∃ x, y = F.N x ∧ Gn.Thr R x := by
  constructor
  · intro h
    obtain ⟨as, e, A⟩ := F.Y.thg_ints h
    obtain ⟨x, e2, hx⟩ := th_thr.mp (show Th (F.IN R) as from A)
    refine ⟨x, ?_, hx⟩
    rw [e, e2, F.NT]
  · rintro ⟨x, rfl, hx⟩
    rw [F.NT]
    exact F.Y.thg_T (th_thr.mpr ⟨x, rfl, hx⟩)
theorem thing_gen {X : Exn → En → Prop} {R : List Nat} (hl : R.length ≤ 6) (y : D) (nd : noF y = true) : Wp X (m_is_thing [.v (F.N R), .v y]) fun rv _ => rv = .v (.bool (F.Y.thg (F.IN R) y)) := by
  have := F.Y.is_thing_ok (X := X) (hs := F.IN R) (by simpa using hl) y nd
  rw [F.NT]
  exact this
theorem names_all {R : List Nat} : ∀ {ys : List D}, (∀ y ∈ ys, F.Y.thg (F.IN R) y = true) → ∃ zs : List (List Nat), ys = zs.map (fun x => F.N x) ∧ ∀ x ∈ zs, Gn.Thr R x
  | [], _ => ⟨[], rfl, by simp⟩
  | y :: ys, h => by
    obtain ⟨zs, rfl, hz⟩ := names_all (ys := ys) fun z hz => h z (List.mem_cons_of_mem _ hz)
    obtain ⟨x, rfl, hx⟩ := thing_iff.mp (h y (by simp [-po_comp]))
    refine ⟨x :: zs, rfl, fun z hz' => ?_⟩
    rcases List.mem_cons.mp hz' with rfl | hz'
    · exact hx
    · exact hz z hz'
theorem good_in {n : Nat} {f : Nat → Nat → Nat} {R : List Nat} {N : D} (h : Good n f (.tuple [F.N R, N])) : ∃ zs, N = NL zs ∧ Fo R ∧ F.pr R = n ∧ zs.length = n ∧ (∀ x ∈ zs, Gn.Thr R x) ∧ zs.Nodup ∧ ∀ i j, i < n → j < n → zs.getD (f i j) [] = Gn.ads R (zs.getD i []) (zs.getD j []) := by
  obtain ⟨R', zs, e, h⟩ := h
  have e := PyData.tuple.inj e
  have e1 := N_inj (List.cons.inj e).1
  have e2 := (List.cons.inj (List.cons.inj e).2).1
  subst e1
  exact ⟨zs, e2, h⟩
theorem good_zs {n : Nat} {f : Nat → Nat → Nat} {R : List Nat} {zs : List (List Nat)} (h : Good n f (.tuple [F.N R, NL zs])) : Fo R ∧ F.pr R = n ∧ zs.length = n ∧ (∀ x ∈ zs, Gn.Thr R x) ∧ zs.Nodup ∧ ∀ i j, i < n → j < n → zs.getD (f i j) [] = Gn.ads R (zs.getD i []) (zs.getD j []) := by
  obtain ⟨zs', e, h⟩ := good_in h
  have := NL_inj (PyData.list.inj e)
  subst this
  exact h
theorem zs_row {zs : List (List Nat)} {i : Nat} (h : i < zs.length) : (zs.map fun x => F.N x)[i]? = some (F.N (zs.getD i [])) := by
  rw [List.getElem?_map, List.getElem?_eq_getElem h, List.getD, List.getElem?_eq_getElem h]
  rfl
open Classical in
theorem lets_gen {X : Exn → En → Prop} {n : Nat} {f : Nat → Nat → Nat} {z : Nat} (G : Grp n f z) (d : D) (nd : noF d = true) (B : Bd d) : Wp X (m_lets_names [.v (.list (tab n f)), .v d]) fun rv _ => rv = .v (.bool (decide (Good n f d))) := by
  have h16 := G.n16
  refine po_fnK fun Y K hY hK _ => ?_
  unfold b_lets_names
  refine po_step fun K1 h1 r1 _ _ => ?_
  have no : ∀ {r : En} {zz}, backA [.v (.list (tab n f)), .v d] r = some zz → ¬ Good n f d → K (.rt (.v (.bool false))) r := fun {r zz} hb hn => hK _ _ _ hb (by rw [decide_eq_false hn])
  have notup : (∀ ds, d ≠ .tuple ds) → ¬ Good n f d := fun h ⟨R, zs, e, _⟩ => h _ e
  cases d with
  | dict kvs =>
    simp [-po_comp, nf_dict nd]
    exact r1 _ _ (no rfl (notup fun _ e => by cases e))
  | tuple ds =>
    by_cases hl : ds.length = 2
    · obtain ⟨A, N, rfl⟩ : ∃ A N, ds = [A, N] := by
        match ds, hl with
        | [A, N], _ => exact ⟨A, N, rfl⟩
      simp [-po_comp]
      refine h1 _ ?_
      refine po_step fun K2 h2 _ _ _ => ?_
      simp [-po_comp]
      refine h2 _ ?_
      refine po_step fun K3 h3 r3 _ _ => ?_
      simp [-po_comp]
      refine po_mono (form_gen A (nf_mem nd (by simp [-po_comp]))) ?_
      rintro _ _ rfl
      by_cases hF : ∃ R, A = F.N R ∧ Fo R
      · rw [decide_eq_true hF]
        obtain ⟨R, rfl, hR⟩ := hF
        simp [-po_comp]
        have hs : F.HoS R := ⟨hR.1, fun r hr => ⟨by have := hR.2.1 r hr; omega, by
          have := B (R.map fun k : Nat => PyData.int (k : Nat)) N rfl (r : Int) (List.mem_map.mpr ⟨r, hr, rfl⟩)
          omega⟩⟩
        refine po_mono (F.size_ok hs) ?_
        rintro _ _ rfl
        by_cases hp : F.pr R = n
        · simp [-po_comp, tab_len, hp]
          refine h3 _ ?_
          refine po_step fun K4 h4 r4 _ _ => ?_
          cases N with
          | dict kvs =>
            simp [-po_comp, nf_dict (nf_mem nd (by simp : PyData.dict kvs ∈ [F.N R, PyData.dict kvs]))]
            exact r4 _ _ (no rfl fun h => by obtain ⟨zs, e, _⟩ := good_in h; cases e)
          | list ys =>
            by_cases hy : ys.length = n
            · simp [-po_comp, tab_len, hy]
              refine h4 _ ?_
              refine po_step fun K5 h5 r5 _ _ => ?_
              simp
              refine po_compMD (g := fun y => .bool (F.Y.thg (F.IN R) y)) (fun r => ∃ s, r = [.v (.list (tab n f)), .v (.tuple [F.N R, .list ys]), .v (F.N R), .v (.list ys), .unk, .unk, .unk, .unk, s]) ys _ ⟨_, rfl⟩ (by omega) ?_ ?_
              · rintro y hym r ⟨s, rfl⟩
                refine ⟨[.v (.list (tab n f)), .v (.tuple [F.N R, .list ys]), .v (F.N R), .v (.list ys), .unk, .unk, .unk, .unk, .v y], by simp, ?_⟩
                simp [-po_comp]
                refine po_mono (thing_gen hR.1 y (nf_lmem (nf_mem nd (by simp [-po_comp])) hym)) ?_
                rintro _ _ rfl
                simp [-po_comp]
              · rintro r ⟨s, rfl⟩
                have e2 : boolsOf (ys.map fun y => PyData.bool (F.Y.thg (F.IN R) y)) = some (ys.map fun y => F.Y.thg (F.IN R) y) := boolsOf_map (fun y => F.Y.thg (F.IN R) y) _
                by_cases ha : ∀ y ∈ ys, F.Y.thg (F.IN R) y = true
                · obtain ⟨zs, rfl, hz⟩ := names_all ha
                  have e3 : ((zs.map fun x => F.N x).map fun y => F.Y.thg (F.IN R) y).all id = true := by
                    rw [List.all_map, List.all_eq_true]
                    exact ha
                  have hzl : zs.length = n := by simpa using hy
                  have e1 := lset_zs (zs := zs) (by omega)
                  have e3' : ((zs.map fun x => F.N x).all fun y => F.Y.thg (F.IN R) y) = true := List.all_eq_true.mpr ha
                  by_cases hnd : zs.Nodup
                  · have e4 : cntU (zs.map fun x => F.IN x) = n := by rw [cntU_nd (ints_nd.mpr hnd), List.length_map, hzl]
                    rw [e4] at e1
                    simp [-po_comp, e2, e3, e3', e1, hzl, -List.map_map]
                    refine h5 _ ?_
                    clear e2 e3 e3'
                    refine po_step fun K6 h6 r6 _ _ => ?_
                    have ee : enOf [.list (tab n f)] = some (((List.range n).zipIdx 0).map fun p => .tuple [.int (p.2 : Nat), .list ((List.range n).map fun j => .int (f p.1 j : Nat))]) := enOf_l (fun i => PyData.list ((List.range n).map fun j => .int (f i j : Nat))) (List.range n)
                    simp [-po_comp, ee]
                    refine po_forK (fun done r => (∀ i j, i < done.length → j < n → zs.getD (f i j) [] = Gn.ads R (zs.getD i []) (zs.getD j [])) ∧ ∃ s4 s5 s6 s7, r = [.v (.list (tab n f)), .v (.tuple [F.N R, NL zs]), .v (F.N R), .v (NL zs), s4, s5, s6, s7, .unk] ∧ s4.isIo = false ∧ s5.isIo = false ∧ s6.isIo = false ∧ s7.isIo = false) ((List.range n).zipIdx 0) _ ⟨fun i j h => absurd h (by simp [-po_comp]), _, _, _, _, rfl, rfl, rfl, rfl, rfl⟩ ?_ ?_
                    · rintro done ⟨k, k'⟩ rest r e ⟨hd, s4, s5, s6, s7, rfl, q4, q5, q6, q7⟩
                      have hk : k' = k ∧ k < n ∧ k = done.length := by
                        have := List.mem_zipIdx (show (k, k') ∈ (List.range n).zipIdx 0 by rw [e]; simp [-po_comp])
                        have h3 := F.zip_idx e
                        simp [-po_comp] at this h3
                        omega
                      obtain ⟨rfl, hk, hkd⟩ := hk
                      refine ⟨[.v (.list (tab n f)), .v (.tuple [F.N R, NL zs]), .v (F.N R), .v (NL zs), .v (.int (k' : Nat)), .v (.list ((List.range n).map fun j => .int (f k' j : Nat))), s6, s7, .unk], by simp [-po_comp, q4, q5], fun K7 h7 r7 _ _ => ?_⟩
                      have e2 : enOf [.list ((List.range n).map fun j => PyData.int (f k' j : Nat))] = some (((List.range n).zipIdx 0).map fun p => .tuple [.int (p.2 : Nat), .int (f k' p.1 : Nat)]) := enOf_l (fun j => PyData.int (f k' j : Nat)) (List.range n)
                      simp [-po_comp, e2]
                      refine po_forK (fun dn r => (∀ j, j < dn.length → zs.getD (f k' j) [] = Gn.ads R (zs.getD k' []) (zs.getD j [])) ∧ ∃ s6 s7, r = [.v (.list (tab n f)), .v (.tuple [F.N R, NL zs]), .v (F.N R), .v (NL zs), .v (.int (k' : Nat)), .v (.list ((List.range n).map fun j => .int (f k' j : Nat))), s6, s7, .unk] ∧ s6.isIo = false ∧ s7.isIo = false) ((List.range n).zipIdx 0) _ ⟨fun j h => absurd h (by simp [-po_comp]), _, _, rfl, q6, q7⟩ ?_ ?_
                      · rintro dn ⟨j, j'⟩ rest r e ⟨hd2, s6, s7, rfl, q6, q7⟩
                        have hj : j' = j ∧ j < n ∧ j = dn.length := by
                          have := List.mem_zipIdx (show (j, j') ∈ (List.range n).zipIdx 0 by rw [e]; simp [-po_comp])
                          have h3 := F.zip_idx e
                          simp [-po_comp] at this h3
                          omega
                        obtain ⟨rfl, hj, hjd⟩ := hj
                        refine ⟨[.v (.list (tab n f)), .v (.tuple [F.N R, NL zs]), .v (F.N R), .v (NL zs), .v (.int (k' : Nat)), .v (.list ((List.range n).map fun j => .int (f k' j : Nat))), .v (.int (j' : Nat)), .v (.int (f k' j' : Nat)), .unk], by simp [-po_comp, q6, q7], fun K8 h8 r8 _ _ => ?_⟩
                        have hl3 := G.lt k' j' hk hj
                        have i1 := zs_row (zs := zs) (i := k') (by omega)
                        have i2 := zs_row (zs := zs) (i := j') (by omega)
                        have i3 := zs_row (zs := zs) (i := f k' j') (by omega)
                        have t1 : Gn.Thr R (zs.getD k' []) := hz _ (by rw [List.getD, List.getElem?_eq_getElem (show k' < zs.length by omega)]; exact List.getElem_mem _)
                        have t2 : Gn.Thr R (zs.getD j' []) := hz _ (by rw [List.getD, List.getElem?_eq_getElem (show j' < zs.length by omega)]; exact List.getElem_mem _)
                        obtain ⟨x1, hx1⟩ : ∃ x, x = zs.getD k' [] := ⟨_, rfl⟩
                        obtain ⟨x2, hx2⟩ : ∃ x, x = zs.getD j' [] := ⟨_, rfl⟩
                        obtain ⟨x3, hx3⟩ : ∃ x, x = zs.getD (f k' j') [] := ⟨_, rfl⟩
                        rw [← hx1] at i1 t1
                        rw [← hx2] at i2 t2
                        rw [← hx3] at i3
                        simp [-po_comp, i1, i2, -List.getElem?_map]
                        refine po_mono (plusN_ok hs t1 t2) ?_
                        rintro _ _ rfl
                        by_cases hq : Gn.ads R x1 x2 = x3
                        · simp [-po_comp, i3, neN, hq, -List.getElem?_map]
                          refine h8 _ ⟨fun i hi => ?_, _, _, rfl, rfl, rfl⟩
                          simp [-po_comp] at hi
                          by_cases c : i = dn.length
                          · subst c
                            rw [← hjd, ← hx1, ← hx2, ← hx3, hq]
                          · exact hd2 i (by omega)
                        · simp [-po_comp, i3, neN, hq, -List.getElem?_map]
                          refine r8 _ _ (r7 _ _ (r6 _ _ (no rfl fun h => hq ?_)))
                          have := (good_zs h).2.2.2.2.2 k' j' hk hj
                          rw [← hx1, ← hx2, ← hx3] at this
                          exact this.symm
                      · rintro r ⟨hd2, s6, s7, rfl, q6, q7⟩
                        refine h7 _ ⟨fun i j hi hj => ?_, _, _, _, _, rfl, rfl, rfl, q6, q7⟩
                        simp [-po_comp] at hi hd2
                        by_cases c : i = done.length
                        · subst c
                          rw [← hkd]
                          exact hd2 j hj
                        · exact hd i j (by omega) hj
                    · rintro r ⟨hd, s4, s5, s6, s7, rfl, -⟩
                      refine h6 _ ?_
                      simp [-po_comp] at hd
                      simp [-po_comp]
                      refine hK _ _ _ rfl ?_
                      rw [decide_eq_true]
                      exact ⟨R, zs, rfl, hR, hp, hzl, hz, hnd, hd⟩
                  · have e4 : ¬ cntU (zs.map fun x => F.IN x) = n := fun h => hnd (ints_nd.mp (cntU_nd' (by rw [h, List.length_map, hzl])))
                    have e4' : ¬ ((cntU (zs.map fun x => F.IN x) : Nat) : Int) = (n : Int) := by omega
                    simp [-po_comp, e2, e3, e3', e1, hzl, e4, e4', -List.map_map]
                    exact r5 _ _ (no rfl fun h => hnd (good_zs h).2.2.2.2.1)
                · have e3 : (ys.map fun y => F.Y.thg (F.IN R) y).all id = false := by
                    rw [List.all_map]
                    refine Bool.eq_false_iff.mpr fun h => ha (List.all_eq_true.mp h)
                  simp [-po_comp, e2, e3, -List.all_map, -List.map_map]
                  exact r5 _ _ (no rfl fun h => by
                    obtain ⟨zs, e, _, _, _, h4, _⟩ := good_in h
                    refine ha fun y hym => ?_
                    rw [PyData.list.inj e] at hym
                    obtain ⟨x, hx, rfl⟩ := List.mem_map.mp hym
                    exact thing_iff.mpr ⟨x, rfl, h4 x hx⟩)
            · have hy' : ¬ (ys.length : Int) = (n : Int) := by omega
              simp [-po_comp, tab_len, hy']
              exact r4 _ _ (no rfl fun h => by
                obtain ⟨zs, e, _, _, h3, _⟩ := good_in h
                rw [PyData.list.inj e, List.length_map] at hy
                exact hy h3)
          | _ =>
            simp [-po_comp, isi_bl]
            exact r4 _ _ (no rfl fun h => by obtain ⟨zs, e, _⟩ := good_in h; cases e)
        · have hp' : ¬ ((F.pr R : Nat) : Int) = (n : Int) := by omega
          simp [-po_comp, tab_len, hp, hp']
          exact r3 _ _ (no rfl fun h => hp (good_in h).choose_spec.2.2.1)
      · rw [decide_eq_false hF]
        simp [-po_comp]
        refine r3 _ _ (no rfl ?_)
        rintro ⟨R, zs, e, h, _⟩
        exact hF ⟨R, (List.cons.inj (PyData.tuple.inj e)).1, h⟩
    · have hl2 : ¬ (ds.length : Int) = 2 := by omega
      simp [-po_comp, hl2]
      refine r1 _ _ (no rfl ?_)
      rintro ⟨R, zs, e, _⟩
      rw [PyData.tuple.inj e] at hl
      exact hl rfl
  | _ =>
    simp [-po_comp]
    exact r1 _ _ (no rfl (notup fun _ e => by cases e))
end K74
namespace K74
open PySem Pu L2
/-! ### texts as they rise -/
def okS (x : Str) : Prop := PyData.strOk x = true
theorem okS_app {a b : Str} (ha : okS a) (hb : okS b) : okS (a ++ b) := by
  unfold okS PyData.strOk at *
  show (a.cps ++ b.cps).all _ = true
  rw [Array.all_append, ha, hb]
  rfl
theorem okS_join : ∀ ts : List Str, (∀ t ∈ ts, okS t) → okS (Str.join ", " ts)
  | [], _ => by
    show PyData.strOk (Str.join ", " []) = true
    decide +kernel
  | [x], h => h x (by simp [-po_comp])
  | x :: y :: r, h => by
    show okS (x ++ ", " ++ Str.join ", " (y :: r))
    refine okS_app (okS_app (h x (by simp [-po_comp])) ?_) (okS_join (y :: r) fun t ht => h t (by simp [-po_comp, ht]))
    show PyData.strOk _ = true
    decide +kernel
theorem shownAll_map : ∀ ds : List D, PyData.shownAll ds = ds.map PyData.shown
  | [] => rfl
  | d :: ds => congrArg (d.shown :: ·) (shownAll_map ds)
theorem sort_str {S1 S2 : List Str} (p : S1.Perm S2) : (S1.mergeSort fun a b => decide (a.cps.toList ≤ b.cps.toList)) = S2.mergeSort fun a b => decide (a.cps.toList ≤ b.cps.toList) := by
  have so : ∀ S : List Str, (S.mergeSort fun a b => decide (a.cps.toList ≤ b.cps.toList)).Pairwise fun a b => a.cps.toList ≤ b.cps.toList := fun S => by
    refine (List.pairwise_mergeSort (fun a b c h1 h2 => ?_) (fun a b => ?_) S).imp fun h => of_decide_eq_true h
    · exact decide_eq_true (List.le_trans (of_decide_eq_true h1) (of_decide_eq_true h2))
    · rcases List.le_total a.cps.toList b.cps.toList with h | h
      · simp [-po_comp, h]
      · simp [-po_comp, h]
  refine List.Perm.eq_of_pairwise (le := fun a b : Str => a.cps.toList ≤ b.cps.toList) (fun a b _ _ h1 h2 => PySem.W.str_of_cps (List.le_antisymm h1 h2)) (so S1) (so S2) ?_
  exact (List.mergeSort_perm S1 _).trans (p.trans (List.mergeSort_perm S2 _).symm)
noncomputable def srt (S : List Str) : List Str := S.mergeSort fun a b => decide (a.cps.toList ≤ b.cps.toList)
theorem sortAL_str {S : List Str} (hs : ∀ x ∈ S, okS x) : ∃ ys : List Str, sortAL [.list (S.map PyData.str)] = some (ys.map PyData.str) ∧ ys = srt S := by
  classical
  refine ⟨srt S, ?_, rfl⟩
  show cI ((S.map PyData.str).length ≤ 1) (some (S.map PyData.str)) (cI (PySem.W.AllAlike (S.map PyData.str) ∧ PySem.W.Sortable (S.map PyData.str) ∧ ∀ d ∈ S.map PyData.str, SeqAt.shaped d = true) (some ((S.map PyData.str).mergeSort (PySem.W.dataLe false id))) none) = _
  rw [cI_eq]
  by_cases c : (S.map PyData.str).length ≤ 1
  · rw [if_pos c]
    rw [List.length_map] at c
    have e : S = srt S := by
      have p := (List.mergeSort_perm S fun a b => decide (a.cps.toList ≤ b.cps.toList)).symm
      unfold srt
      match S, c, p with
      | [], _, p => exact p.symm.eq_nil.symm
      | [x], _, p => exact List.singleton_perm.mp p
      | _ :: _ :: _, c, _ => simp [-po_comp] at c
    rw [← e]
  · rw [if_neg c, cI_eq]
    have a1 : PySem.W.AllAlike (S.map PyData.str) := PySem.W.AllAlike.of fun a b => rfl
    have a2 : PySem.W.Sortable (S.map PyData.str) := PySem.W.Sortable.others (enc := PyData.str) (bs := S) fun b => ⟨fun e => PyData.noConfusion e, fun xs e => PyData.noConfusion e⟩
    have a3 : ∀ d ∈ S.map PyData.str, SeqAt.shaped d = true := fun d hd => by
      obtain ⟨x, hx, rfl⟩ := List.mem_map.mp hd
      exact Bool.and_eq_true_iff.mpr ⟨hs x hx, by simp [-po_comp, PyData.depth]⟩
    rw [if_pos ⟨a1, a2, a3⟩]
    congr 1
    have le : (fun a b => PySem.W.dataLe false (id : D → D) (PyData.str a) (PyData.str b)) = fun a b : Str => decide (a.cps.toList ≤ b.cps.toList) := PySem.W.dataLe_str (fun s : Str => s)
    exact (List.map_mergeSort fun a _ b _ => (congrFun (congrFun le a) b).symm).symm
theorem srt_iff {A B : List Str} : srt A = srt B ↔ A.Perm B := by
  constructor
  · intro e
    have p1 : (srt A).Perm A := List.mergeSort_perm A _
    have p2 : (srt B).Perm B := List.mergeSort_perm B _
    rw [e] at p1
    exact p1.symm.trans p2
  · exact sort_str
theorem okS_srt {A : List Str} (h : ∀ x ∈ A, okS x) : ∀ x ∈ srt A, okS x := fun x hx => h x ((List.mergeSort_perm A _).mem_iff.mp hx)
theorem ne_strs {A B : List Str} (hA : ∀ x ∈ A, okS x) (hB : ∀ x ∈ B, okS x) : neD (.list (A.map PyData.str)) (.list (B.map PyData.str)) = some (.bool (!decide (A = B))) := by
  have lay : ∀ S : List Str, (∀ x ∈ S, okS x) → PyData.canLayAll0 (S.map PyData.str) = true := fun S => by
    induction S with
    | nil => intro _; rfl
    | cons x S ih =>
      intro h
      exact Bool.and_eq_true_iff.mpr ⟨h x (by simp [-po_comp]), ih fun y hy => h y (by simp [-po_comp, hy])⟩
  have dep : ∀ S : List Str, (PyData.list (S.map PyData.str)).depth ≤ 64 := fun S => by
    have := depthAll_map PyData.str 1 S fun x _ => by simp [-po_comp, PyData.depth]
    simp only [PyData.depth] at *
    omega
  have sh : ∀ S : List Str, (∀ x ∈ S, okS x) → SeqAt.shaped (.list (S.map PyData.str)) = true := fun S hs => Bool.and_eq_true_iff.mpr ⟨lay S hs, decide_eq_true (dep S)⟩
  rw [neD_ll (sh A hA) (sh B hB)]
  have : ∀ A B : List Str, PyData.eqvAll (A.map PyData.str) (B.map PyData.str) = decide (A = B) := by
    intro A
    induction A with
    | nil =>
      intro B
      cases B with
      | nil => rfl
      | cons y B => rfl
    | cons x A ih =>
      intro B
      cases B with
      | nil => rfl
      | cons y B =>
        show ((x == y) && PyData.eqvAll (A.map PyData.str) (B.map PyData.str)) = _
        rw [ih B, Bool.eq_iff_iff]
        simp [-po_comp]
  rw [this]
/-! ### texts as rows of signs -/
def cs (t : Str) : List Nat := t.cps.toList
theorem cs_app (a b : Str) : cs (a ++ b) = cs a ++ cs b := by
  show (a.cps ++ b.cps).toList = _
  rw [Array.toList_append]
  rfl
def jn : List (List Nat) → List Nat
  | [] => []
  | [x] => x
  | x :: y :: r => x ++ 44 :: 32 :: jn (y :: r)
theorem cs_join : ∀ ts : List Str, cs (Str.join ", " ts) = jn (ts.map cs)
  | [] => by decide +kernel
  | [x] => rfl
  | x :: y :: r => by
    show cs (x ++ ", " ++ Str.join ", " (y :: r)) = _
    rw [cs_app, cs_app, cs_join (y :: r)]
    have : cs (", " : Str) = [44, 32] := by decide +kernel
    rw [this]
    simp [-po_comp, jn]
theorem cut {m : Nat} : ∀ {a b r s : List Nat}, m ∉ a → m ∉ b → a ++ m :: r = b ++ m :: s → a = b ∧ r = s
  | [], [], r, s, _, _, h => ⟨rfl, (List.cons.inj h).2⟩
  | [], y :: b, r, s, _, hb, h => absurd (List.cons.inj h).1 fun e => hb (by rw [e]; exact List.mem_cons_self ..)
  | x :: a, [], r, s, ha, _, h => absurd (List.cons.inj h).1 fun e => ha (by rw [← e]; exact List.mem_cons_self ..)
  | x :: a, y :: b, r, s, ha, hb, h => by
    obtain ⟨e, h⟩ := List.cons.inj h
    obtain ⟨e2, e3⟩ := cut (fun z => ha (List.mem_cons_of_mem _ z)) (fun z => hb (List.mem_cons_of_mem _ z)) h
    exact ⟨by rw [e, e2], e3⟩
theorem jn_inj : ∀ {A B : List (List Nat)}, A ≠ [] → B ≠ [] → (∀ p ∈ A, 44 ∉ p) → (∀ p ∈ B, 44 ∉ p) → jn A = jn B → A = B
  | [], _, h, _, _, _, _ => absurd rfl h
  | _, [], _, h, _, _, _ => absurd rfl h
  | [x], [y], _, _, _, _, h => congrArg (fun z => [z]) h
  | [x], y :: y2 :: r, _, _, hA, _, h => by
    have h : x = y ++ 44 :: 32 :: jn (y2 :: r) := h
    exact absurd (by rw [h]; simp [-po_comp]) (hA x (by simp [-po_comp]))
  | x :: x2 :: r, [y], _, _, _, hB, h => by
    have h : x ++ 44 :: 32 :: jn (x2 :: r) = y := h
    exact absurd (by rw [← h]; simp [-po_comp]) (hB y (by simp [-po_comp]))
  | x :: x2 :: r, y :: y2 :: s, _, _, hA, hB, h => by
    obtain ⟨e, h2⟩ := cut (hA x (by simp [-po_comp])) (hB y (by simp [-po_comp])) (show x ++ 44 :: 32 :: jn (x2 :: r) = y ++ 44 :: 32 :: jn (y2 :: s) from h)
    have := jn_inj (A := x2 :: r) (B := y2 :: s) (by simp [-po_comp]) (by simp [-po_comp]) (fun p hp => hA p (List.mem_cons_of_mem _ hp)) (fun p hp => hB p (List.mem_cons_of_mem _ hp)) (List.cons.inj h2).2
    rw [e, this]
theorem cs_tup (ts : List Str) : cs (tupleText ts) = 40 :: (jn (ts.map cs) ++ if ts.length = 1 then [44, 41] else [41]) := by
  unfold tupleText
  rw [cs_app, cs_app, cs_join]
  have h1 : cs ("(" : Str) = [40] := by decide +kernel
  have h2 : cs (",)" : Str) = [44, 41] := by decide +kernel
  have h3 : cs (")" : Str) = [41] := by decide +kernel
  rw [h1]
  by_cases c : ts.length = 1
  · have : cs (((if ts.length == 1 then ",)" else ")" : String) : Str)) = [44, 41] := by simpa [c] using h2
    rw [this, if_pos c]
    rfl
  · have : cs (((if ts.length == 1 then ",)" else ")" : String) : Str)) = [41] := by simpa [c] using h3
    rw [this, if_neg c]
    rfl
theorem tup_inj {A B : List Str} (hA : ∀ p ∈ A, 44 ∉ cs p ∧ cs p ≠ []) (hB : ∀ p ∈ B, 44 ∉ cs p ∧ cs p ≠ []) (h : cs (tupleText A) = cs (tupleText B)) : A.map cs = B.map cs := by
  rw [cs_tup, cs_tup] at h
  have h := (List.cons.inj h).2
  have a1 : ∀ p ∈ A.map cs, 44 ∉ p := fun p hp => by
    obtain ⟨q, hq, rfl⟩ := List.mem_map.mp hp
    exact (hA q hq).1
  have b1 : ∀ p ∈ B.map cs, 44 ∉ p := fun p hp => by
    obtain ⟨q, hq, rfl⟩ := List.mem_map.mp hp
    exact (hB q hq).1
  have ne : ∀ {L : List Str}, (∀ p ∈ L, 44 ∉ cs p ∧ cs p ≠ []) → L ≠ [] → jn (L.map cs) ≠ [] := fun {L} hL hn => by
    match L, hn with
    | [x], _ => exact (hL x (by simp [-po_comp])).2
    | x :: y :: r, _ =>
      intro e
      have e : cs x ++ 44 :: 32 :: jn ((y :: r).map cs) = [] := e
      simp [-po_comp] at e
  have mix : ∀ {x : Str} {L : List Str}, (44 ∉ cs x ∧ cs x ≠ []) → (∀ p ∈ L.map cs, 44 ∉ p) → L.length ≠ 1 → jn ([x].map cs) ++ [44, 41] = jn (L.map cs) ++ [41] → False := fun {x L} hx hL hl e => by
    have e : cs x ++ [44, 41] = jn (L.map cs) ++ [41] := e
    have e : (cs x ++ [44]) ++ [41] = jn (L.map cs) ++ [41] := by rw [← e]; simp [-po_comp]
    have e := List.append_cancel_right e
    match L, hl with
    | [], _ => simp [-po_comp, jn] at e
    | y :: y2 :: r, _ =>
      have e : cs x ++ 44 :: [] = cs y ++ 44 :: 32 :: jn ((y2 :: r).map cs) := e
      obtain ⟨_, e2⟩ := cut hx.1 (hL (cs y) (by simp [-po_comp])) e
      cases e2
  by_cases c1 : A.length = 1
  · by_cases c2 : B.length = 1
    · rw [if_pos c1, if_pos c2] at h
      have h := List.append_cancel_right h
      exact jn_inj (by intro e; simp [-po_comp] at e; simp [-po_comp, e] at c1) (by intro e; simp [-po_comp] at e; simp [-po_comp, e] at c2) a1 b1 h
    · rw [if_pos c1, if_neg c2] at h
      obtain ⟨x, rfl⟩ := List.length_eq_one_iff.mp c1
      exact (mix (hA x (by simp [-po_comp])) b1 c2 h).elim
  · by_cases c2 : B.length = 1
    · rw [if_neg c1, if_pos c2] at h
      obtain ⟨x, rfl⟩ := List.length_eq_one_iff.mp c2
      exact (mix (hB x (by simp [-po_comp])) a1 c1 h.symm).elim
    · rw [if_neg c1, if_neg c2] at h
      have h := List.append_cancel_right h
      by_cases n1 : A = []
      · by_cases n2 : B = []
        · rw [n1, n2]
        · rw [n1] at h
          exact absurd h.symm (ne hB n2)
      · by_cases n2 : B = []
        · rw [n2] at h
          exact absurd h (ne hA n1)
        · exact jn_inj (by simpa using n1) (by simpa using n2) a1 b1 h
theorem cs_from : ∀ (ts : List Str) (k : Nat) (acc : Str), ∃ s, cs (textFrom k acc ts) = cs acc ++ s
  | [], _, acc => ⟨[], by simp [-po_comp, textFrom]⟩
  | t :: ts, k, acc => by
    obtain ⟨s, e⟩ := cs_from ts (k + 1) (acc ++ (if k > 0 then ", " else "" : String) ++ t)
    refine ⟨cs (if k > 0 then ", " else "" : String) ++ (cs t ++ s), ?_⟩
    rw [textFrom, e, cs_app, cs_app, List.append_assoc, List.append_assoc]
theorem cs_list (ts : List Str) : ∃ s, cs (listText ts) = 91 :: s := by
  obtain ⟨s, e⟩ := cs_from ts 0 "["
  unfold listText
  rw [cs_app, e]
  have : cs ("[" : Str) = [91] := by decide +kernel
  rw [this]
  exact ⟨_, rfl⟩
theorem okS_from : ∀ (ts : List Str) (k : Nat) (acc : Str), okS acc → (∀ t ∈ ts, okS t) → okS (textFrom k acc ts)
  | [], _, acc, h, _ => h
  | t :: ts, k, acc, h, ht => by
    refine okS_from ts (k + 1) _ (okS_app (okS_app h ?_) (ht t (by simp [-po_comp]))) fun x hx => ht x (by simp [-po_comp, hx])
    split
    · show PyData.strOk _ = true
      decide +kernel
    · show PyData.strOk _ = true
      decide +kernel
theorem okS_list (ts : List Str) (h : ∀ t ∈ ts, okS t) : okS (listText ts) := by
  unfold listText
  refine okS_app (okS_from ts 0 _ ?_ h) ?_
  · show PyData.strOk _ = true
    decide +kernel
  · show PyData.strOk _ = true
    decide +kernel
theorem okS_tup (ts : List Str) (h : ∀ t ∈ ts, okS t) : okS (tupleText ts) := by
  unfold tupleText
  refine okS_app (okS_app ?_ (okS_join _ h)) ?_
  · show PyData.strOk _ = true
    decide +kernel
  · split
    · show PyData.strOk _ = true
      decide +kernel
    · show PyData.strOk _ = true
      decide +kernel
/-! ### what names are made of -/
def ats : List D := [.none, .bool true, .bool false] ++ (List.range 81).map fun k : Nat => .int ((k : Int) - 40)
def Atm (d : D) : Prop := d ∈ ats
theorem atm_int {i : Int} (h1 : -40 ≤ i) (h2 : i ≤ 40) : Atm (.int i) := List.mem_append_right _ (List.mem_map.mpr ⟨(i + 40).toNat, List.mem_range.mpr (by omega), by
  rw [Int.toNat_of_nonneg (by omega)]
  congr 1
  omega⟩)
theorem atm_bool (b : Bool) : Atm (.bool b) := List.mem_append_left _ (by cases b <;> simp [-po_comp])
theorem atm_none : Atm .none := List.mem_append_left _ (by simp [-po_comp])
theorem ats_ok : (ats.all fun d => PyData.strOk d.shown && !(cs d.shown).contains 44 && !(cs d.shown).isEmpty && (cs d.shown).head? != some 40) = true := by decide +kernel
def isK (d : D) (k : Nat) : Bool := match d with
  | .int i => decide (i = (k : Int))
  | _ => false
theorem ats_inj : (ats.all fun d => (List.range 41).all fun k => !(cs d.shown == cs (PyData.int (k : Nat)).shown) || isK d k) = true := by decide +kernel
theorem atm_ok {d : D} (h : Atm d) : okS d.shown ∧ (44 ∉ cs d.shown ∧ cs d.shown ≠ []) ∧ (cs d.shown).head? ≠ some 40 := by
  have := List.all_eq_true.mp ats_ok d h
  simp [-po_comp] at this
  exact ⟨this.1.1.1, ⟨this.1.1.2, this.1.2⟩, this.2⟩
theorem atm_inj {d : D} (h : Atm d) {k : Nat} (hk : k ≤ 40) (e : cs d.shown = cs (PyData.int (k : Nat)).shown) : d = .int (k : Nat) := by
  have := List.all_eq_true.mp (List.all_eq_true.mp ats_inj d h) k (List.mem_range.mpr (by omega))
  rw [e] at this
  simp [-po_comp] at this
  unfold isK at this
  split at this
  · rw [of_decide_eq_true this]
  · cases this
def Nme : D → Prop
  | .tuple xs => xs.length ≤ 12 ∧ ∀ x ∈ xs, Atm x
  | .list xs => xs.length ≤ 12 ∧ ∀ x ∈ xs, Atm x
  | d => Atm d
theorem nme_ok {y : D} (h : Nme y) : okS y.shown := by
  have tx : ∀ {xs : List D}, (∀ x ∈ xs, Atm x) → ∀ t ∈ PyData.shownAll xs, okS t := fun {xs} hx t ht => by
    rw [shownAll_map] at ht
    obtain ⟨d, hd, rfl⟩ := List.mem_map.mp ht
    exact (atm_ok (hx d hd)).1
  cases y with
  | tuple xs => exact okS_tup _ (tx h.2)
  | list xs => exact okS_list _ (tx h.2)
  | none => exact (atm_ok h).1
  | bool b => exact (atm_ok h).1
  | int i => exact (atm_ok h).1
  | str x => exact (atm_ok h).1
  | dict kv => exact (atm_ok h).1
theorem cs_N (x : List Nat) : cs (F.N x).shown = cs (tupleText ((x.map fun n : Nat => PyData.int (n : Int)).map PyData.shown)) := by
  show cs (tupleText (PyData.shownAll (x.map fun n : Nat => PyData.int (n : Int)))) = _
  rw [shownAll_map]
theorem nme_inj {y : D} (h : Nme y) {x : List Nat} (hx : ∀ k ∈ x, k ≤ 40) (e : y.shown = (F.N x).shown) : y = F.N x := by
  have e : cs y.shown = cs (F.N x).shown := congrArg cs e
  have atom : ∀ {d : D}, Atm d → cs d.shown = cs (F.N x).shown → False := fun {d} hd e => by
    have := (atm_ok hd).2.2
    rw [e, cs_N, cs_tup] at this
    exact this rfl
  cases y with
  | tuple xs =>
    have e : cs (tupleText (PyData.shownAll xs)) = _ := e
    rw [shownAll_map, cs_N] at e
    have e2 := tup_inj (fun p hp => by
      obtain ⟨d, hd, rfl⟩ := List.mem_map.mp hp
      exact (atm_ok (h.2 d hd)).2.1) (fun p hp => by
      obtain ⟨d, hd, rfl⟩ := List.mem_map.mp hp
      obtain ⟨k, hk, rfl⟩ := List.mem_map.mp hd
      exact (atm_ok (atm_int (by omega) (by have := hx k hk; omega))).2.1) e
    rw [List.map_map, List.map_map, List.map_map] at e2
    have key : ∀ (xs : List D) (x : List Nat), (∀ d ∈ xs, Atm d) → (∀ k ∈ x, k ≤ 40) → xs.map (cs ∘ PyData.shown) = x.map ((cs ∘ PyData.shown) ∘ fun n : Nat => PyData.int (n : Int)) → xs = x.map fun n : Nat => PyData.int (n : Int) := by
      intro xs
      induction xs with
      | nil =>
        intro x _ _ e
        cases x with
        | nil => rfl
        | cons => cases e
      | cons d ds ih =>
        intro x h1 h2 e
        cases x with
        | nil => cases e
        | cons k ks =>
          obtain ⟨e1, e3⟩ := List.cons.inj e
          rw [List.map_cons, atm_inj (h1 d (by simp [-po_comp])) (h2 k (by simp [-po_comp])) e1, ih ks (fun z hz => h1 z (by simp [-po_comp, hz])) (fun z hz => h2 z (by simp [-po_comp, hz])) e3]
    exact congrArg PyData.tuple (key xs x h.2 hx e2)
  | list xs =>
    obtain ⟨s, e1⟩ := cs_list (PyData.shownAll xs)
    have e : cs (listText (PyData.shownAll xs)) = _ := e
    rw [e1, cs_N, cs_tup] at e
    exact absurd (List.cons.inj e).1 (by decide)
  | none => exact (atom h e).elim
  | bool b => exact (atom h e).elim
  | int i => exact (atom h e).elim
  | str t => exact (atom h e).elim
  | dict kv => exact (atom h e).elim
theorem nme_N {x : List Nat} (hl : x.length ≤ 12) (h : ∀ k ∈ x, k ≤ 40) : Nme (F.N x) := ⟨by simpa using hl, fun d hd => by
  obtain ⟨k, hk, rfl⟩ := List.mem_map.mp hd
  exact atm_int (by omega) (by have := h k hk; omega)⟩
end K74
namespace K74
open PySem Pu L2
/-! ### what repr needs, dicts of flat things within -/
def Rx (dp bk : Nat) (d : D) : Prop := (d.showable = true ∧ shX d = true ∧ d.leavesShort 60 = true) ∧ d.depth ≤ dp ∧ d.bulk ≤ bk
theorem Rx.int {i : Int} (h : i.natAbs < 2 ^ 50) : Rx 1 0 (.int i) := by
  have q := Rz.int h
  exact ⟨⟨q.1.1, rfl, q.1.2.2⟩, q.2⟩
theorem Rx.none : Rx 1 0 .none := ⟨⟨rfl, rfl, rfl⟩, by decide, by decide⟩
theorem Rx.bool (b : Bool) : Rx 1 0 (.bool b) := by cases b <;> exact ⟨⟨rfl, rfl, rfl⟩, by decide, by decide⟩
theorem Rx.emp : Rx 2 0 (.dict []) := ⟨⟨rfl, rfl, rfl⟩, by decide, by decide⟩
theorem Rx.mono {a b a' b' : Nat} {d : D} (h : Rx a b d) (h1 : a ≤ a') (h2 : b ≤ b') : Rx a' b' d := ⟨h.1, Nat.le_trans h.2.1 h1, Nat.le_trans h.2.2 h2⟩
theorem Rx.all {dp bk : Nat} : ∀ {n : Nat} {ds : List D}, ds.length ≤ n → (∀ d ∈ ds, Rx dp bk d) → PyData.showableAll ds = true ∧ shXAll ds = true ∧ PyData.leavesShortAll 60 ds = true ∧ PyData.depthAll ds ≤ dp ∧ PyData.bulkAll ds ≤ (bk + 1) * n
  | _, [], _, _ => ⟨rfl, rfl, rfl, Nat.zero_le _, Nat.zero_le _⟩
  | 0, d :: ds, h, _ => by simp [-po_comp] at h
  | n + 1, d :: ds, h, hd => by
    obtain ⟨g1, g2, g3, g4, g5⟩ := Rx.all (dp := dp) (bk := bk) (n := n) (ds := ds) (by simpa using h) fun x hx => hd x (List.mem_cons_of_mem _ hx)
    obtain ⟨⟨f1, f2, f3⟩, f4, f5⟩ := hd d (List.mem_cons_self ..)
    refine ⟨by simp only [PyData.showableAll, f1, g1, Bool.and_self], by simp only [shXAll, f2, g2, Bool.and_self], by simp only [PyData.leavesShortAll, f3, g3, Bool.and_self], by simp only [PyData.depthAll]; omega, ?_⟩
    simp only [PyData.bulkAll]
    rw [Nat.mul_succ]
    omega
theorem Rx.lst {dp bk n : Nat} {ds : List D} (hl : ds.length ≤ n) (h : ∀ d ∈ ds, Rx dp bk d) : Rx (dp + 1) ((bk + 1) * n) (.list ds) := by
  obtain ⟨h1, h2, h3, h4, h5⟩ := Rx.all hl h
  exact ⟨⟨by simpa only [PyData.showable] using h1, by simpa only [shX] using h2, by simpa only [PyData.leavesShort] using h3⟩, by simp only [PyData.depth]; omega, by simp only [PyData.bulk]; exact h5⟩
theorem Rx.tup {dp bk n : Nat} {ds : List D} (hl : ds.length ≤ n) (h : ∀ d ∈ ds, Rx dp bk d) : Rx (dp + 1) ((bk + 1) * n) (.tuple ds) := by
  obtain ⟨h1, h2, h3, h4, h5⟩ := Rx.all hl h
  exact ⟨⟨by simpa only [PyData.showable] using h1, by simpa only [shX] using h2, by simpa only [PyData.leavesShort] using h3⟩, by simp only [PyData.depth]; omega, by simp only [PyData.bulk]; exact h5⟩
theorem Rx.kv {bk : Nat} : ∀ {n : Nat} {kvs : List (D × D)}, kvs.length ≤ n → (∀ q ∈ kvs, Rx 2 bk q.1 ∧ Rx 2 bk q.2) → PyData.showableKv kvs = true ∧ PyData.leavesShortKv 60 kvs = true ∧ PyData.depthKv kvs ≤ 2 ∧ PyData.bulkKv kvs ≤ (2 * bk + 2) * n
  | _, [], _, _ => ⟨rfl, rfl, Nat.zero_le _, Nat.zero_le _⟩
  | 0, d :: ds, h, _ => by simp [-po_comp] at h
  | n + 1, (k, v) :: ds, h, hd => by
    obtain ⟨g1, g3, g4, g5⟩ := Rx.kv (bk := bk) (n := n) (kvs := ds) (by simpa using h) fun x hx => hd x (List.mem_cons_of_mem _ hx)
    obtain ⟨⟨⟨f1, f2, f3⟩, f4, f5⟩, ⟨e1, e2, e3⟩, e4, e5⟩ := hd (k, v) (List.mem_cons_self ..)
    refine ⟨by simp only [PyData.showableKv, f1, e1, g1, Bool.and_self], by simp only [PyData.leavesShortKv, f3, e3, g3, Bool.and_self], by simp only [PyData.depthKv]; dsimp only at f4 e4; omega, ?_⟩
    simp only [PyData.bulkKv]
    rw [Nat.mul_succ]
    dsimp only at f5 e5
    omega
theorem Rx.dct {bk n : Nat} {kvs : List (D × D)} (hl : kvs.length ≤ n) (h : ∀ q ∈ kvs, Rx 2 bk q.1 ∧ Rx 2 bk q.2) (hf : ∀ q ∈ kvs, flatZ q.1 = true ∧ flatZ q.2 = true) : Rx 3 ((2 * bk + 2) * n) (.dict kvs) := by
  obtain ⟨h1, h3, h4, h5⟩ := Rx.kv hl h
  refine ⟨⟨by simpa only [PyData.showable] using h1, ?_, by simpa only [PyData.leavesShort] using h3⟩, by simp only [PyData.depth]; omega, by simp only [PyData.bulk]; exact h5⟩
  show (kvs.all fun q => flatZ q.1 && flatZ q.2) = true
  exact List.all_eq_true.mpr fun q hq => by rw [(hf q hq).1, (hf q hq).2]; rfl
theorem Rx.seq {dp bk : Nat} {d : D} (h : Rx dp bk d) (h1 : dp ≤ 64) (h2 : bk ≤ 270000) (hd : (∃ xs, d = .tuple xs) ∨ ∃ xs, d = .list xs) : reprZ d = some (.str d.shown) := by
  have hs := PyData.shown_le_bulk 60 (by decide) d h.1.2.2
  have hb := h.2.2
  have hdd := h.2.1
  rcases hd with ⟨ds, rfl⟩ | ⟨ds, rfl⟩
  · exact (cI_eq ..).trans (if_pos ⟨h.1.1, by simpa only [shX] using h.1.2.1, by omega, by omega⟩)
  · exact (cI_eq ..).trans (if_pos ⟨h.1.1, by simpa only [shX] using h.1.2.1, by omega, by omega⟩)
theorem rx_atm {d : D} (h : Atm d) : Rx 1 0 d := by
  rcases List.mem_append.mp h with h | h
  · simp [-po_comp] at h
    rcases h with rfl | rfl | rfl
    · exact Rx.none
    · exact Rx.bool true
    · exact Rx.bool false
  · obtain ⟨k, hk, rfl⟩ := List.mem_map.mp h
    have := List.mem_range.mp hk
    exact Rx.int (Nat.lt_trans (show ((k : Int) - 40).natAbs < 100 by omega) (by decide))
theorem repr_atm {d : D} (h : Atm d) : reprZ d = some (.str d.shown) := by
  rcases List.mem_append.mp h with h | h
  · simp [-po_comp] at h
    rcases h with rfl | rfl | rfl <;> rfl
  · obtain ⟨k, hk, rfl⟩ := List.mem_map.mp h
    have := List.mem_range.mp hk
    refine (cI_eq ..).trans (if_pos ?_)
    exact Nat.lt_trans (PySem.Flt.log2_lt_of (n := ((k : Int) - 40).natAbs) (by decide : 0 < 50) (Nat.lt_trans (show ((k : Int) - 40).natAbs < 100 by omega) (by decide))) (by decide)
theorem rx_nme {y : D} (h : Nme y) : Rx 2 12 y := by
  cases y with
  | tuple xs => exact (Rx.tup h.1 fun d hd => rx_atm (h.2 d hd)).mono (by decide) (by decide)
  | list xs => exact (Rx.lst h.1 fun d hd => rx_atm (h.2 d hd)).mono (by decide) (by decide)
  | none => exact (rx_atm h).mono (by decide) (by decide)
  | bool b => exact (rx_atm h).mono (by decide) (by decide)
  | int i => exact (rx_atm h).mono (by decide) (by decide)
  | str x => exact (rx_atm h).mono (by decide) (by decide)
  | dict kv => exact (rx_atm h).mono (by decide) (by decide)
theorem repr_nme {y : D} (h : Nme y) : reprZ y = some (.str y.shown) := by
  cases y with
  | tuple xs => exact (rx_nme h).seq (by decide) (by decide) (.inl ⟨_, rfl⟩)
  | list xs => exact (rx_nme h).seq (by decide) (by decide) (.inr ⟨_, rfl⟩)
  | none => exact repr_atm h
  | bool b => exact repr_atm h
  | int i => exact repr_atm h
  | str x => exact repr_atm h
  | dict kv => exact repr_atm h
/-! ### all things, each once -/
theorem ext_nd : ∀ {fs : List (List Int)} {h : Int}, fs.Nodup → (ext fs h).Nodup := fun {fs h} hf => by
  unfold ext
  refine Gn.pw_flat _ _ (fun x _ => ?_) ?_
  · refine List.Pairwise.map _ (fun a b hab e => hab ?_) (List.nodup_range (n := h.toNat))
    have := List.append_cancel_left e
    injection this with e1
    omega
  · refine List.Pairwise.imp ?_ hf
    intro x y hxy u hu v hv e
    obtain ⟨a, _, rfl⟩ := List.mem_map.mp hu
    obtain ⟨b, _, rfl⟩ := List.mem_map.mp hv
    exact hxy (List.append_inj' e rfl).1
theorem fold_nd : ∀ (hs : List Int) (fs : List (List Int)), fs.Nodup → (hs.foldl ext fs).Nodup
  | [], _, h => h
  | h :: hs, fs, hf => fold_nd hs (ext fs h) (ext_nd hf)
theorem thgs_nd (hs : List Int) : (thgs hs).Nodup := fold_nd hs [[]] (by simp [-po_comp])
theorem thgs_perm (R : List Nat) : (thgs (F.IN R)).Perm ((F.tr R).map fun x => F.IN x) := by
  refine (List.perm_ext_iff_of_nodup (thgs_nd _) (ints_nd.mpr (tr_nd R))).mpr fun y => ?_
  rw [mem_thgs, th_thr, List.mem_map]
  exact ⟨fun ⟨x, e, h⟩ => ⟨x, thr_tr.mpr h, e.symm⟩, fun ⟨x, h, e⟩ => ⟨x, e.symm, thr_tr.mp h⟩⟩
theorem thgs_len (R : List Nat) : (thgs (F.IN R)).length = F.pr R := by
  rw [(thgs_perm R).length_eq, List.length_map, F.tr_len]
theorem fo_few {R : List Nat} (h : Fo R) (hn : F.pr R ≤ 16) : R.length ≤ 4 ∧ ∀ r ∈ R, r ≤ 16 := by
  refine ⟨?_, fun r hr => Nat.le_trans (pr_mem (fun r hr => by have := h.2.1 r hr; omega) hr) hn⟩
  have := pr_two h.2.1
  apply Decidable.byContradiction
  intro hc
  have : 2 ^ 5 ≤ 2 ^ R.length := Nat.pow_le_pow_right (by decide) (by omega)
  omega
theorem fo_hs {R : List Nat} (h : Fo R) (hn : F.pr R ≤ 16) : Hs (F.IN R) := by
  obtain ⟨l, b⟩ := fo_few h hn
  refine ⟨by simpa using l, fun x hx => ?_, by rw [thgs_len]; exact hn, thgs_nd _⟩
  obtain ⟨r, hr, rfl⟩ := List.mem_map.mp hx
  have := h.2.1 r hr
  have := b r hr
  omega
theorem thr_lt : ∀ {R x : List Nat}, (∀ r ∈ R, r ≤ 16) → Gn.Thr R x → ∀ k ∈ x, k < 16
  | [], [], _, _, k, hk => nomatch hk
  | r :: R, x :: X, h, t, k, hk => by
    rcases List.mem_cons.mp hk with rfl | hk
    · have := h r (by simp [-po_comp])
      have := t.1
      omega
    · exact thr_lt (fun q hq => h q (by simp [-po_comp, hq])) t.2 k hk
  | [], _ :: _, _, h, _, _ => h.elim
  | _ :: _, [], _, h, _, _ => h.elim
theorem thr_nme {R x : List Nat} (h : Fo R) (hn : F.pr R ≤ 16) (t : Gn.Thr R x) : Nme (F.N x) ∧ ∀ k ∈ x, k ≤ 40 := by
  obtain ⟨l, b⟩ := fo_few h hn
  have hk : ∀ k ∈ x, k ≤ 40 := fun k hk => by have := thr_lt b t k hk; omega
  exact ⟨nme_N (by rw [thr_len t]; omega) hk, hk⟩
theorem nd_perm : ∀ {l m : List (List Nat)}, l.Nodup → (∀ x ∈ l, x ∈ m) → l.length = m.length → l.Perm m
  | [], m, _, _, h => by
    cases m with
    | nil => exact .nil
    | cons => cases h
  | x :: l, m, nd, hs, h => by
    obtain ⟨n1, n2⟩ := List.nodup_cons.mp nd
    have hx := hs x (List.mem_cons_self ..)
    have p := List.perm_cons_erase hx
    refine List.Perm.trans (List.Perm.cons x ?_) p.symm
    refine nd_perm n2 (fun y hy => ?_) ?_
    · have hne : y ≠ x := fun e => n1 (by rw [← e]; exact hy)
      exact (List.mem_erase_of_ne hne).mpr (hs y (List.mem_cons_of_mem _ hy))
    · rw [List.length_erase_of_mem hx]
      simp [-po_comp] at h
      omega
/-- the texts of the names are those of all things just where the names are all things, each once -/
theorem texts_iff {R : List Nat} (h : Fo R) (hn : F.pr R ≤ 16) {ys : List D} (hy : ∀ y ∈ ys, Nme y) : (ys.map PyData.shown).Perm ((thgs (F.IN R)).map fun y => (T y).shown) ↔ ∃ zs : List (List Nat), ys = zs.map (fun x => F.N x) ∧ zs.length = F.pr R ∧ (∀ x ∈ zs, Gn.Thr R x) ∧ zs.Nodup := by
  have p2 : ((thgs (F.IN R)).map fun y => (T y).shown).Perm ((F.tr R).map fun x => (F.N x).shown) := by
    have := (thgs_perm R).map fun y => (T y).shown
    rw [List.map_map] at this
    have e : (F.tr R).map ((fun y => (T y).shown) ∘ fun x => F.IN x) = (F.tr R).map fun x => (F.N x).shown := List.map_congr_left fun x _ => by
      show (T (F.IN x)).shown = (F.N x).shown
      rw [F.NT]
    rw [e] at this
    exact this
  constructor
  · intro p
    have p := p.trans p2
    have at_ : ∀ y ∈ ys, ∃ x, y = F.N x ∧ Gn.Thr R x := fun y hym => by
      obtain ⟨x, hx, e⟩ := List.mem_map.mp (p.mem_iff.mp (List.mem_map.mpr ⟨y, hym, rfl⟩))
      have t := thr_tr.mp hx
      exact ⟨x, nme_inj (hy y hym) (thr_nme h hn t).2 e.symm, t⟩
    have ex : ∀ ys : List D, (∀ y ∈ ys, ∃ x, y = F.N x ∧ Gn.Thr R x) → ∃ zs : List (List Nat), ys = zs.map (fun x => F.N x) ∧ ∀ x ∈ zs, Gn.Thr R x := fun ys => by
      induction ys with
      | nil => exact fun _ => ⟨[], rfl, by simp⟩
      | cons y ys ih =>
        intro ha
        obtain ⟨zs, e, hz⟩ := ih fun z hz => ha z (List.mem_cons_of_mem _ hz)
        obtain ⟨x, rfl, t⟩ := ha y (List.mem_cons_self ..)
        exact ⟨x :: zs, by rw [e]; rfl, fun w hw => by
          rcases List.mem_cons.mp hw with rfl | hw
          · exact t
          · exact hz w hw⟩
    obtain ⟨zs, rfl, hz⟩ := ex ys at_
    have hl : zs.length = F.pr R := by
      have := p.length_eq
      simpa [F.tr_len] using this
    refine ⟨zs, rfl, hl, hz, ?_⟩
    have nd : ((F.tr R).map fun x => (F.N x).shown).Nodup := by
      rw [List.nodup_iff_pairwise_ne, List.pairwise_map]
      refine List.Pairwise.imp_of_mem ?_ (List.nodup_iff_pairwise_ne.mp (tr_nd R))
      intro a b ha hb hab e
      exact hab (N_inj (nme_inj (thr_nme h hn (thr_tr.mp ha)).1 (thr_nme h hn (thr_tr.mp hb)).2 e))
    have nd2 := p.nodup_iff.mpr nd
    rw [List.map_map] at nd2
    rw [List.nodup_iff_pairwise_ne, List.pairwise_map] at nd2
    rw [List.nodup_iff_pairwise_ne]
    exact nd2.imp fun hab e => hab (by rw [e])
  · rintro ⟨zs, rfl, hl, hz, nd⟩
    refine List.Perm.trans ?_ p2.symm
    rw [List.map_map]
    refine List.Perm.map (fun x => (F.N x).shown) (l₁ := zs) (l₂ := F.tr R) ?_
    have sub : zs ⊆ F.tr R := fun x hx => thr_tr.mpr (hz x hx)
    exact nd_perm nd (fun x hx => sub hx) (by rw [F.tr_len, hl])
end K74
namespace K74
open PySem Pu L2
/-! ### names walked by the law, of whatever thing -/
theorem zip_idxD {γ : Type} {xs : List γ} {done rest : List (γ × Nat)} {p : γ × Nat} (e : xs.zipIdx 0 = done ++ p :: rest) : p.2 = done.length ∧ xs[done.length]? = some p.1 ∧ done.length < xs.length := by
  have h : (xs.zipIdx 0)[done.length]? = some p := by rw [e]; simp [-po_comp]
  rw [List.getElem?_zipIdx] at h
  cases hx : xs[done.length]? with
  | none =>
    rw [hx] at h
    cases h
  | some x =>
    rw [hx] at h
    cases h
    exact ⟨by simp, rfl, (List.getElem?_eq_some_iff.mp hx).1⟩
theorem zip_fst {γ : Type} {xs : List γ} {done rest : List (γ × Nat)} (e : xs.zipIdx 0 = done ++ rest) : xs = done.map (·.1) ++ rest.map (·.1) := by
  have ez : (xs.zipIdx 0).map (·.1) = xs := List.zipIdx_map_fst ..
  rw [e, List.map_append] at ez
  exact ez.symm
theorem pr_le {B : Nat} : ∀ {R : List Nat}, (∀ r ∈ R, r ≤ B) → F.pr R ≤ B ^ R.length
  | [], _ => Nat.le_refl _
  | R, h => by
    induction R using F.rev_ind with
    | h0 => exact Nat.le_refl _
    | hs xs x ih =>
      rw [F.pr_app1, List.length_append, List.length_singleton, Nat.pow_succ]
      exact Nat.mul_le_mul (ih fun r hr => h r (by simp [-po_comp, hr])) (h x (by simp [-po_comp]))
abbrev LNt (R : List Nat) : List D := R.map fun n : Nat => PyData.int (n : Int)
theorem ln_inj {x y : List Nat} (h : LNt x = LNt y) : x = y := N_inj (congrArg PyData.tuple h)
def Chn (R : List Nat) : Prop := (∀ i, i < R.length → ∃ x, R[i]? = some x ∧ 2 ≤ x) ∧ ∀ i x y, i + 1 < R.length → R[i]? = some x → R[i + 1]? = some y → x ∣ y
theorem chn_app {R : List Nat} {x : Nat} (h : Chn R) (h2 : 2 ≤ x) (hd : ∀ y, 0 < R.length → R[R.length - 1]? = some y → y ∣ x) : Chn (R ++ [x]) := by
  refine ⟨fun i hi => ?_, fun i a b hi ea eb => ?_⟩
  · simp [-po_comp] at hi
    by_cases c : i = R.length
    · exact ⟨x, by rw [c]; simp, h2⟩
    · obtain ⟨y, e, hy⟩ := h.1 i (by omega)
      exact ⟨y, by rw [List.getElem?_append_left (by omega)]; exact e, hy⟩
  · simp [-po_comp] at hi
    rw [List.getElem?_append_left (by omega)] at ea
    by_cases c : i + 1 = R.length
    · rw [c] at eb
      simp [-po_comp] at eb
      subst eb
      exact hd a (by omega) (by rw [← c]; exact ea)
    · rw [List.getElem?_append_left (by omega)] at eb
      exact h.2 i a b (by omega) ea eb
open Classical in
theorem is_named_gen {X : Exn → En → Prop} {n : Nat} {f : Nat → Nat → Nat} {z : Nat} (G : Grp n f z) (d : D) (nd : noF d = true) (B : Bd d) (Ny : ∀ A ys, d = .tuple [.tuple A, .list ys] → ∀ y ∈ ys, Nme y) : Wp X (m__law_is_named [.v (.list (tab n f)), .v d]) fun rv _ => rv = .v (.bool (decide (Good n f d))) := by
  have h16 := G.n16
  refine po_fnK fun Y K hY hK _ => ?_
  unfold b__law_is_named
  refine po_step fun K1 h1 r1 _ _ => ?_
  have no : ∀ {r : En} {zz}, backA [.v (.list (tab n f)), .v d] r = some zz → ¬ Good n f d → K (.rt (.v (.bool false))) r := fun {r zz} hb hn => hK _ _ _ hb (by rw [decide_eq_false hn])
  have notup : (∀ ds, d ≠ .tuple ds) → ¬ Good n f d := fun h ⟨R, zs, e, _⟩ => h _ e
  cases d with
  | dict kvs =>
    simp [-po_comp, nf_dict nd]
    exact r1 _ _ (no rfl (notup fun _ e => by cases e))
  | tuple ds =>
    by_cases hl : ds.length = 2
    · obtain ⟨A, N, rfl⟩ : ∃ A N, ds = [A, N] := by
        match ds, hl with
        | [A, N], _ => exact ⟨A, N, rfl⟩
      simp [-po_comp]
      refine h1 _ ?_
      refine po_step fun K2 h2 _ _ _ => ?_
      simp [-po_comp]
      refine h2 _ ?_
      refine po_step fun K3 h3 r3 _ _ => ?_
      cases A with
      | dict kvs =>
        simp [-po_comp, nf_dict (nf_mem nd (by simp : PyData.dict kvs ∈ [PyData.dict kvs, N]))]
        exact r3 _ _ (no rfl fun ⟨R, zs, e, _⟩ => by cases (List.cons.inj (PyData.tuple.inj e)).1)
      | tuple as =>
        cases N with
        | dict kvs =>
          simp [-po_comp, nf_dict (nf_mem nd (by simp : PyData.dict kvs ∈ [PyData.tuple as, PyData.dict kvs]))]
          exact r3 _ _ (no rfl fun ⟨R, zs, e, _⟩ => by cases (List.cons.inj (List.cons.inj (PyData.tuple.inj e)).2).1)
        | list ys =>
          by_cases hy : ys.length = n
          · by_cases h6 : as.length ≤ 6
            · have l6 : ¬ (6 : Int) < (as.length : Nat) := by omega
              simp [-po_comp, tab_len, hy, l6]
              refine h3 _ ?_
              refine po_step fun K4 h4 _ _ _ => ?_
              simp [-po_comp]
              refine h4 _ ?_
              have hNy := Ny as ys rfl
              have hB := B as (.list ys) rfl
              have hnd : noF (.tuple as) = true := nf_mem nd (by simp [-po_comp])
              obtain ⟨S1, hS1⟩ : ∃ S1 : D, S1 = .tuple [.tuple as, .list ys] := ⟨_, rfl⟩
              rw [← hS1] at no hK ⊢
              have gform : Good n f S1 → ∃ (R : List Nat) (zs : List (List Nat)), as = LNt R ∧ ys = zs.map (fun x => F.N x) ∧ Fo R ∧ F.pr R = n ∧ zs.length = n ∧ (∀ x ∈ zs, Gn.Thr R x) ∧ zs.Nodup ∧ ∀ i j, i < n → j < n → zs.getD (f i j) [] = Gn.ads R (zs.getD i []) (zs.getD j []) := fun ⟨R, zs, e, g⟩ => by
                rw [hS1] at e
                have e := PyData.tuple.inj e
                exact ⟨R, zs, PyData.tuple.inj (List.cons.inj e).1, PyData.list.inj (List.cons.inj (List.cons.inj e).2).1, g⟩
              have gmk : ∀ (R : List Nat) (zs : List (List Nat)), as = LNt R → ys = zs.map (fun x => F.N x) → Fo R → F.pr R = n → zs.length = n → (∀ x ∈ zs, Gn.Thr R x) → zs.Nodup → (∀ i j, i < n → j < n → zs.getD (f i j) [] = Gn.ads R (zs.getD i []) (zs.getD j [])) → Good n f S1 := fun R zs e1 e2 g1 g2 g3 g4 g5 g6 => ⟨R, zs, by rw [hS1, e1, e2], g1, g2, g3, g4, g5, g6⟩
              clear B Ny nd notup
              refine po_step fun K5 h5 r5 _ _ => ?_
              have ee := enOf_t (id : D → D) as
              rw [List.map_id] at ee
              simp [-po_comp, ee]
              refine po_forK (fun done r => ∃ R s5 s6, done.map (·.1) = LNt R ∧ Chn R ∧ r = [.v (.list (tab n f)), .v S1, .v (.tuple as), .v (.list ys), .v (.int (F.pr R : Nat)), s5, s6, .unk, .unk, .unk, .unk, .unk] ∧ s5.isIo = false ∧ s6.isIo = false) (as.zipIdx 0) _ ⟨[], _, _, rfl, ⟨fun i h => absurd h (by simp [-po_comp]), fun i x y h => absurd h (by simp [-po_comp])⟩, rfl, rfl, rfl⟩ ?_ ?_
              · rintro done ⟨x, k⟩ rest r e ⟨R, s5, s6, hR, hC, rfl, q5, q6⟩
                obtain ⟨hk, hx, hlt⟩ := zip_idxD e
                have hfst := zip_fst e
                rw [hR] at hfst
                have hRl : R.length = done.length := by
                  have := congrArg List.length hR
                  simpa using this.symm
                simp [-po_comp] at hk hx
                subst hk
                have hxm : x ∈ as := List.mem_of_getElem? hx
                refine ⟨[.v (.list (tab n f)), .v S1, .v (.tuple as), .v (.list ys), .v (.int (F.pr R : Nat)), .v (.int (done.length : Nat)), .v x, .unk, .unk, .unk, .unk, .unk], by simp [-po_comp, q5, q6], fun K6 h6 r6 _ _ => ?_⟩
                refine po_step fun K7 h7 r7 _ _ => ?_
                have bad : ¬ Good n f S1 → K7 (.rt (.v (.bool false))) [.v (.list (tab n f)), .v S1, .v (.tuple as), .v (.list ys), .v (.int (F.pr R : Nat)), .v (.int (done.length : Nat)), .v x, .unk, .unk, .unk, .unk, .unk] := fun hn => r7 _ _ (r6 _ _ (r5 _ _ (no rfl hn)))
                have isn : ∀ {Q : Nat → Prop}, Good n f S1 → ∃ q : Nat, x = .int (q : Int) ∧ 2 ≤ q ∧ ∀ y, 0 < done.length → R[done.length - 1]? = some y → y ∣ q := fun {Q} g => by
                  obtain ⟨R', zs, e1, _, g1, _⟩ := gform g
                  have ex : (LNt R')[done.length]? = some x := by rw [← e1]; exact hx
                  rw [List.getElem?_map] at ex
                  cases e3 : R'[done.length]? with
                  | none =>
                    rw [e3] at ex
                    cases ex
                  | some q =>
                    rw [e3] at ex
                    have ex := (Option.some.inj ex).symm
                    obtain ⟨f1, f2⟩ := fo_step g1 e3
                    refine ⟨q, ex, f1, fun y hy ey => f2 y hy ?_⟩
                    have e4 : (LNt R')[done.length - 1]? = (LNt R)[done.length - 1]? := by
                      rw [← e1, hfst, List.getElem?_append_left (by rw [List.length_map]; omega)]
                    rw [List.getElem?_map, List.getElem?_map, ey] at e4
                    cases e5 : R'[done.length - 1]? with
                    | none =>
                      rw [e5] at e4
                      cases e4
                    | some w =>
                      rw [e5] at e4
                      have := PyData.int.inj (Option.some.inj e4)
                      congr 1
                      omega
                have isn := @isn fun _ => True
                have ndx : noF x = true := nf_mem hnd hxm
                cases x with
                | int i =>
                  by_cases c2 : i < 2
                  · simp [-po_comp, c2]
                    exact bad fun g => by
                      obtain ⟨q, e, h, _⟩ := isn g
                      have := PyData.int.inj e
                      omega
                  · obtain ⟨q, rfl⟩ : ∃ q : Nat, i = (q : Int) := ⟨i.toNat, by omega⟩
                    have hq1000 := hB _ hxm
                    obtain ⟨j, hj⟩ : ∃ j : Nat, j = done.length - 1 := ⟨_, rfl⟩
                    have em : maxD (.int 0) (.int ((done.length : Nat) - 1 : Int)) = some (.int (j : Nat)) := by
                      by_cases h0 : done.length = 0
                      · rw [hj, h0]
                        rfl
                      · have e4 : ((done.length : Nat) : Int) - 1 = (j : Int) := by omega
                        rw [e4]
                        by_cases h1 : (0 : Int) < (j : Int)
                        · simp [-po_comp, maxD]
                          try omega
                        · have : j = 0 := by omega
                          subst this
                          rfl
                    obtain ⟨w, hw, hw1, hw2⟩ : ∃ w : Nat, as[j]? = some (.int (w : Int)) ∧ 1 ≤ w ∧ (q % w = 0 ↔ ∀ y, 0 < done.length → R[done.length - 1]? = some y → y ∣ q) := by
                      by_cases h0 : done.length = 0
                      · refine ⟨q, by rw [hj, h0]; rw [h0] at hx; exact hx, by omega, ?_⟩
                        simp [-po_comp, h0]
                      · obtain ⟨w, ew, hw⟩ := hC.1 j (by omega)
                        refine ⟨w, ?_, by omega, ?_⟩
                        · rw [hfst, List.getElem?_append_left (by rw [List.length_map]; omega), List.getElem?_map, ew]
                          rfl
                        · constructor
                          · intro h y _ ey
                            rw [← hj, ew] at ey
                            rw [← Option.some.inj ey]
                            exact Nat.dvd_of_mod_eq_zero h
                          · intro h
                            exact Nat.mod_eq_zero_of_dvd (h w (by omega) (by rw [← hj]; exact ew))
                    have hjl : j < as.length := by omega
                    have e8 : (q : Int).fmod (w : Int) = ((q % w : Nat) : Int) := by
                      rw [Int.fmod_eq_emod_of_nonneg _ (by omega)]
                      rfl
                    have e9 : ¬ w = 0 := by omega
                    by_cases hd : q % w = 0
                    · have hmul : mulOk ((F.pr R : Nat) : Int) (q : Int) := by
                        refine F.mulN (Nat.lt_of_le_of_lt (pr_le (B := 1000) fun r hr => ?_) (Nat.lt_of_le_of_lt (Nat.pow_le_pow_right (by decide) (show R.length ≤ 6 by omega)) (by decide +kernel))) (Nat.lt_of_le_of_lt (show q ≤ 1000 by omega) (by decide +kernel))
                        have := hB (r : Int) (by rw [hfst]; exact List.mem_append_left _ (List.mem_map.mpr ⟨r, hr, rfl⟩))
                        omega
                      simp [-po_comp, c2, em, hw, e8, e9, hd]
                      refine h7 _ ?_
                      simp [-po_comp, hmul]
                      refine h6 _ ⟨R ++ [q], .v (.int (done.length : Nat)), .v (.int (q : Int)), ?_, chn_app hC (by omega) (by rw [hRl]; exact hw2.mp hd), ?_, rfl, rfl⟩
                      · rw [List.map_append, hR]
                        simp [-po_comp]
                      · rw [F.pr_app1]
                        simp [-po_comp]
                    · have hd' : ¬ ((q % w : Nat) : Int) = 0 := by omega
                      have hd2 : ¬ (q : Int) % (w : Int) = 0 := hd'
                      simp [-po_comp, c2, em, hw, e8, e9, hd]
                      try rw [if_neg hd2]
                      exact bad fun g => by
                        obtain ⟨q', e, h, h3⟩ := isn g
                        have := PyData.int.inj e
                        have : q = q' := by omega
                        subst this
                        exact hd (hw2.mpr h3)
                | dict kvs =>
                  simp [-po_comp, nf_dict ndx]
                  exact bad fun g => by
                    obtain ⟨q, e, _⟩ := isn g
                    cases e
                | _ =>
                  simp [-po_comp]
                  exact bad fun g => by
                    obtain ⟨q, e, _⟩ := isn g
                    cases e
              · rintro r ⟨R, s5, s6, hR, hC, rfl, q5, q6⟩
                have ha : as = LNt R := by
                  have ez : (as.zipIdx 0).map (·.1) = as := List.zipIdx_map_fst ..
                  rw [← ez]
                  exact hR
                have hF : Fo R := fo_of (by rw [ha] at h6; simpa using h6) hC.1 hC.2
                have gsame : Good n f S1 → F.pr R = n ∧ ∃ zs : List (List Nat), ys = zs.map (fun x => F.N x) ∧ zs.length = n ∧ (∀ x ∈ zs, Gn.Thr R x) ∧ zs.Nodup ∧ ∀ i j, i < n → j < n → zs.getD (f i j) [] = Gn.ads R (zs.getD i []) (zs.getD j []) := fun g => by
                  obtain ⟨R', zs, e1, e2, g1, g2, g3, g4, g5, g6⟩ := gform g
                  have := ln_inj (ha.symm.trans e1)
                  subst this
                  exact ⟨g2, zs, e2, g3, g4, g5, g6⟩
                refine h5 _ ?_
                refine po_step fun K6 h6' r6 _ _ => ?_
                by_cases hp : F.pr R = n
                · simp [-po_comp, tab_len, hp]
                  refine h6' _ ?_
                  have HR := fo_hs hF (by omega)
                  refine po_step fun K7 h7 r7 _ _ => ?_
                  simp [-po_comp]
                  refine po_LC1 (fun y : D => y) (fun y : D => .str y.shown) ys ?_ (by simp [-po_comp]) (by omega) (fun y hym => ?_) ?_
                  · simp [-po_comp]
                  · have er := repr_nme (hNy y hym)
                    simp [-po_comp, er]
                  · have S1e : (ys.map fun y : D => PyData.str y.shown) = (ys.map PyData.shown).map PyData.str := by simp [-po_comp]
                    rw [S1e]
                    have ok1 : ∀ x ∈ ys.map PyData.shown, okS x := fun x hx => by
                      obtain ⟨y, hy, rfl⟩ := List.mem_map.mp hx
                      exact nme_ok (hNy y hy)
                    obtain ⟨y1, e1, r1'⟩ := sortAL_str ok1
                    have e1c : sortAL [.list (ys.map (PyData.str ∘ PyData.shown))] = some (y1.map PyData.str) := by
                      rw [← List.map_map]
                      exact e1
                    simp [-po_comp, e1c]
                    have hT : PyData.tuple as = T (F.IN R) := by
                      rw [ha]
                      exact F.NT R
                    have ok2 : ∀ y ∈ thgs (F.IN R), Nme (T y) := fun y hy => by
                      obtain ⟨x, rfl, hx⟩ := th_thr.mp (mem_thgs.mp hy)
                      have := (thr_nme hF (by omega) hx).1
                      rw [F.NT] at this
                      exact this
                    have hl16 := HR.2.2.1
                    refine po_LC1 (fun y => T y) (fun y => .str (T y).shown) (thgs (F.IN R)) ?_ (by simp [-po_comp]) (by omega) (fun y hy => ?_) ?_
                    · simp [-po_comp]
                      rw [hT]
                      refine po_mono (things_ok HR) ?_
                      rintro _ _ rfl
                      simp [-po_comp]
                    · have er := repr_nme (ok2 y hy)
                      simp [-po_comp, er]
                    · have S2e : ((thgs (F.IN R)).map fun y => PyData.str (T y).shown) = ((thgs (F.IN R)).map fun y => (T y).shown).map PyData.str := by simp [-po_comp]
                      rw [S2e]
                      have ok2' : ∀ x ∈ (thgs (F.IN R)).map (fun y => (T y).shown), okS x := fun x hx => by
                        obtain ⟨y, hy, rfl⟩ := List.mem_map.mp hx
                        exact nme_ok (ok2 y hy)
                      obtain ⟨y2, e2, r2⟩ := sortAL_str ok2'
                      have e2c : sortAL [.list ((thgs (F.IN R)).map (PyData.str ∘ fun y => (T y).shown))] = some (y2.map PyData.str) := by
                        rw [← List.map_map]
                        exact e2
                      have ti := texts_iff hF (by omega) hNy
                      have s1 := okS_srt ok1
                      have s2 := okS_srt ok2'
                      rw [← r1'] at s1
                      rw [← r2] at s2
                      have hne := ne_strs s1 s2
                      have heq : y1 = y2 ↔ ∃ zs : List (List Nat), ys = zs.map (fun x => F.N x) ∧ zs.length = F.pr R ∧ (∀ x ∈ zs, Gn.Thr R x) ∧ zs.Nodup := by
                        rw [r1', r2, srt_iff]
                        exact ti
                      simp [-po_comp, e2c, hne]
                      by_cases hyy : y1 = y2
                      · obtain ⟨zs, hzs, hzl, hz, hnd'⟩ := heq.mp hyy
                        simp [-po_comp, hyy]
                        refine h7 _ ?_
                        have hzn : zs.length = n := by omega
                        subst hzs
                        refine po_step fun K8 h8 r8 _ _ => ?_
                        clear e1 e1c e2 e2c heq hne s1 s2 S1e S2e ok1 ok2' r1' r2
                        have ee : enOf [.list (tab n f)] = some (((List.range n).zipIdx 0).map fun p => .tuple [.int (p.2 : Nat), .list ((List.range n).map fun j => .int (f p.1 j : Nat))]) := enOf_l (fun i => PyData.list ((List.range n).map fun j => .int (f i j : Nat))) (List.range n)
                        simp [-po_comp, ee]
                        refine po_forK (fun done r => (∀ i j, i < done.length → j < n → zs.getD (f i j) [] = Gn.ads R (zs.getD i []) (zs.getD j [])) ∧ ∃ s7 s8 s9 s10, r = [.v (.list (tab n f)), .v S1, .v (.tuple as), .v (NL zs), .v (.int (n : Nat)), s5, s6, s7, s8, s9, s10, .unk] ∧ s7.isIo = false ∧ s8.isIo = false ∧ s9.isIo = false ∧ s10.isIo = false) ((List.range n).zipIdx 0) _ ⟨fun i j h => absurd h (by simp [-po_comp]), _, _, _, _, rfl, rfl, rfl, rfl, rfl⟩ ?_ ?_
                        · rintro done ⟨k, k'⟩ rest r e ⟨hd, s7, s8, s9, s10, rfl, q7, q8, q9, q10⟩
                          have hk : k' = k ∧ k < n ∧ k = done.length := by
                            have := List.mem_zipIdx (show (k, k') ∈ (List.range n).zipIdx 0 by rw [e]; simp [-po_comp])
                            have h3 := F.zip_idx e
                            simp [-po_comp] at this h3
                            omega
                          obtain ⟨rfl, hk, hkd⟩ := hk
                          refine ⟨[.v (.list (tab n f)), .v S1, .v (.tuple as), .v (NL zs), .v (.int (n : Nat)), s5, s6, .v (.int (k' : Nat)), .v (.list ((List.range n).map fun j => .int (f k' j : Nat))), s9, s10, .unk], by simp [-po_comp, q7, q8], fun K9 h9 r9 _ _ => ?_⟩
                          have e2 : enOf [.list ((List.range n).map fun j => PyData.int (f k' j : Nat))] = some (((List.range n).zipIdx 0).map fun p => .tuple [.int (p.2 : Nat), .int (f k' p.1 : Nat)]) := enOf_l (fun j => PyData.int (f k' j : Nat)) (List.range n)
                          simp [-po_comp, e2]
                          refine po_forK (fun dn r => (∀ j, j < dn.length → zs.getD (f k' j) [] = Gn.ads R (zs.getD k' []) (zs.getD j [])) ∧ ∃ s9 s10, r = [.v (.list (tab n f)), .v S1, .v (.tuple as), .v (NL zs), .v (.int (n : Nat)), s5, s6, .v (.int (k' : Nat)), .v (.list ((List.range n).map fun j => .int (f k' j : Nat))), s9, s10, .unk] ∧ s9.isIo = false ∧ s10.isIo = false) ((List.range n).zipIdx 0) _ ⟨fun j h => absurd h (by simp [-po_comp]), _, _, rfl, q9, q10⟩ ?_ ?_
                          · rintro dn ⟨j, j'⟩ rest r e ⟨hd2, s9, s10, rfl, q9, q10⟩
                            have hj : j' = j ∧ j < n ∧ j = dn.length := by
                              have := List.mem_zipIdx (show (j, j') ∈ (List.range n).zipIdx 0 by rw [e]; simp [-po_comp])
                              have h3 := F.zip_idx e
                              simp [-po_comp] at this h3
                              omega
                            obtain ⟨rfl, hj, hjd⟩ := hj
                            refine ⟨[.v (.list (tab n f)), .v S1, .v (.tuple as), .v (NL zs), .v (.int (n : Nat)), s5, s6, .v (.int (k' : Nat)), .v (.list ((List.range n).map fun j => .int (f k' j : Nat))), .v (.int (j' : Nat)), .v (.int (f k' j' : Nat)), .unk], by simp [-po_comp, q9, q10], fun K10 h10 r10 _ _ => ?_⟩
                            have hl3 := G.lt k' j' hk hj
                            have i1 := zs_row (zs := zs) (i := k') (by omega)
                            have i2 := zs_row (zs := zs) (i := j') (by omega)
                            have i3 := zs_row (zs := zs) (i := f k' j') (by omega)
                            have t1 : Gn.Thr R (zs.getD k' []) := hz _ (by rw [List.getD, List.getElem?_eq_getElem (show k' < zs.length by omega)]; exact List.getElem_mem _)
                            have t2 : Gn.Thr R (zs.getD j' []) := hz _ (by rw [List.getD, List.getElem?_eq_getElem (show j' < zs.length by omega)]; exact List.getElem_mem _)
                            obtain ⟨x1, hx1⟩ : ∃ x, x = zs.getD k' [] := ⟨_, rfl⟩
                            obtain ⟨x2, hx2⟩ : ∃ x, x = zs.getD j' [] := ⟨_, rfl⟩
                            obtain ⟨x3, hx3⟩ : ∃ x, x = zs.getD (f k' j') [] := ⟨_, rfl⟩
                            rw [← hx1] at i1 t1
                            rw [← hx2] at i2 t2
                            rw [← hx3] at i3
                            simp [-po_comp, i1, i2, -List.getElem?_map]
                            rw [hT, F.NT x1, F.NT x2]
                            refine po_mono (sum_ok HR.ho (th_thr.mpr ⟨_, rfl, t1⟩) (th_thr.mpr ⟨_, rfl, t2⟩)) ?_
                            rintro _ _ rfl
                            have eT : ∀ x : List Nat, T (F.IN x) = F.N x := fun x => (F.NT x).symm
                            rw [pl_IN t1 t2, eT (Gn.ads R x1 x2)]
                            by_cases hq : Gn.ads R x1 x2 = x3
                            · simp [-po_comp, i3, neN, hq, -List.getElem?_map]
                              refine h10 _ ⟨fun i hi => ?_, .v (.int (j' : Nat)), .v (.int (f k' j' : Nat)), ?_, rfl, rfl⟩
                              · simp [-po_comp] at hi
                                by_cases c : i = dn.length
                                · subst c
                                  rw [← hjd, ← hx1, ← hx2, ← hx3, hq]
                                · exact hd2 i (by omega)
                              · rw [hT]
                            · simp [-po_comp, i3, neN, hq, -List.getElem?_map]
                              refine r10 _ _ (r9 _ _ (r8 _ _ (no rfl fun g => hq ?_)))
                              obtain ⟨_, zs', g1, _, _, _, g5⟩ := gsame g
                              have := NL_inj g1
                              subst this
                              have := g5 k' j' hk hj
                              rw [← hx1, ← hx2, ← hx3] at this
                              exact this.symm
                          · rintro r ⟨hd2, s9, s10, rfl, q9, q10⟩
                            refine h9 _ ⟨fun i j hi hj => ?_, _, _, _, _, rfl, rfl, rfl, q9, q10⟩
                            simp [-po_comp] at hi hd2
                            by_cases c : i = done.length
                            · subst c
                              rw [← hkd]
                              exact hd2 j hj
                            · exact hd i j (by omega) hj
                        · rintro r ⟨hd, s7, s8, s9, s10, rfl, -⟩
                          refine h8 _ ?_
                          simp [-po_comp] at hd
                          simp [-po_comp]
                          refine hK _ _ _ rfl ?_
                          rw [decide_eq_true]
                          exact gmk R zs ha rfl hF hp hzn hz hnd' hd
                      · simp [-po_comp, hyy]
                        refine r7 _ _ (no rfl fun g => hyy (heq.mpr ?_))
                        obtain ⟨_, zs, g1, g2, g3, g4, _⟩ := gsame g
                        exact ⟨zs, g1, by omega, g3, g4⟩
                · have hp' : ¬ ((F.pr R : Nat) : Int) = (n : Int) := by omega
                  simp [-po_comp, tab_len, hp, hp']
                  exact r6 _ _ (no rfl fun g => hp (gsame g).1)
            · have l6 : (6 : Int) < (as.length : Nat) := by omega
              simp [-po_comp, tab_len, hy, l6]
              exact r3 _ _ (no rfl fun ⟨R, zs, e, g⟩ => by
                have e1 := PyData.tuple.inj (List.cons.inj (PyData.tuple.inj e)).1
                rw [e1, List.length_map] at h6
                exact h6 g.1.1)
          · have hy' : ¬ (ys.length : Int) = (n : Int) := by omega
            simp [-po_comp, tab_len, hy']
            exact r3 _ _ (no rfl fun ⟨R, zs, e, g⟩ => by
              have e1 := PyData.list.inj (List.cons.inj (List.cons.inj (PyData.tuple.inj e)).2).1
              rw [e1, List.length_map] at hy
              exact hy g.2.2.1)
        | _ =>
          simp [-po_comp, isi_bl]
          exact r3 _ _ (no rfl fun ⟨R, zs, e, _⟩ => by cases (List.cons.inj (List.cons.inj (PyData.tuple.inj e)).2).1)
      | _ =>
        simp [-po_comp]
        exact r3 _ _ (no rfl fun ⟨R, zs, e, _⟩ => by cases (List.cons.inj (PyData.tuple.inj e)).1)
    · have hl2 : ¬ (ds.length : Int) = 2 := by omega
      simp [-po_comp, hl2]
      refine r1 _ _ (no rfl ?_)
      rintro ⟨R, zs, e, _⟩
      rw [PyData.tuple.inj e] at hl
      exact hl rfl
  | _ =>
    simp [-po_comp]
    exact r1 _ _ (no rfl (notup fun _ e => by cases e))
end K74
namespace K74
open PySem Pu L2
/-! ### what a thing asked after must have -/
def Fine (d : D) : Prop := noF d = true ∧ Bd d ∧ (∀ A ys, d = .tuple [.tuple A, .list ys] → ∀ y ∈ ys, Nme y) ∧ ∃ s, reprZ d = some (.str s)
def CA (A : D) : Prop := noF A = true ∧ Rx 4 3000 A ∧ ∀ ds, A = .tuple ds → ∀ i : Int, .int i ∈ ds → i ≤ 1000
def CN (N : D) : Prop := noF N = true ∧ Rx 4 200000 N ∧ ∀ ys, N = .list ys → ∀ y ∈ ys, Nme y
theorem Rx.fine {dp bk : Nat} {d : D} (h : Rx dp bk d) (h1 : dp ≤ 64) (h2 : bk ≤ 270000) (hd : (∃ xs, d = .tuple xs) ∨ ∃ xs, d = .list xs) : ∃ s, reprZ d = some (.str s) := ⟨_, h.seq h1 h2 hd⟩
theorem fine2 {A N : D} (a : CA A) (b : CN N) : Fine (.tuple [A, N]) := by
  refine ⟨nf_tup fun x hx => ?_, fun ds N' e i hi => ?_, fun A' ys e y hy => ?_, ?_⟩
  · simp [-po_comp] at hx
    rcases hx with rfl | rfl
    · exact a.1
    · exact b.1
  · exact a.2.2 ds (List.cons.inj (PyData.tuple.inj e)).1 i hi
  · exact b.2.2 ys (List.cons.inj (List.cons.inj (PyData.tuple.inj e)).2).1 y hy
  · obtain ⟨⟨a1, a2, a3⟩, a4, a5⟩ := a.2.1
    obtain ⟨⟨b1, b2, b3⟩, b4, b5⟩ := b.2.1
    refine Rx.fine (dp := 5) (bk := 203002) ⟨⟨?_, ?_, ?_⟩, ?_, ?_⟩ (by decide) (by decide) (.inl ⟨_, rfl⟩)
    · simp only [PyData.showable, PyData.showableAll, a1, b1, Bool.and_self]
    · simp only [shX, shXAll, a2, b2, Bool.and_self]
    · simp only [PyData.leavesShort, PyData.leavesShortAll, a3, b3, Bool.and_self]
    · simp only [PyData.depth, PyData.depthAll]
      omega
    · simp only [PyData.bulk, PyData.bulkAll]
      omega
theorem fine_other {d : D} (h1 : noF d = true) (h2 : Rx 6 270000 d) (h3 : ∀ A N, d ≠ .tuple [A, N]) (hd : (∃ xs, d = .tuple xs) ∨ ∃ xs, d = .list xs) : Fine d :=
  ⟨h1, fun _ _ e => absurd e (h3 _ _), fun _ _ e => absurd e (h3 _ _), h2.fine (by decide) (by decide) hd⟩
theorem nf_atm {d : D} (h : Atm d) : noF d = true := by
  rcases List.mem_append.mp h with h | h
  · simp [-po_comp] at h
    rcases h with rfl | rfl | rfl <;> rfl
  · obtain ⟨k, hk, rfl⟩ := List.mem_map.mp h
    rfl
theorem nf_nme {y : D} (h : Nme y) : noF y = true := by
  cases y with
  | tuple xs => exact nf_tup fun d hd => nf_atm (h.2 d hd)
  | list xs => exact nf_lst fun d hd => nf_atm (h.2 d hd)
  | none => exact nf_atm h
  | bool b => exact nf_atm h
  | int i => exact nf_atm h
  | str x => exact nf_atm h
  | dict kv => exact nf_atm h
/-- a name's list -/
theorem cn_names {ys : List D} (hl : ys.length ≤ 1000) (h : ∀ y ∈ ys, Nme y) : CN (.list ys) := by
  refine ⟨nf_lst fun y hy => nf_nme (h y hy), (Rx.lst hl fun y hy => rx_nme (h y hy)).mono (by decide) (by decide), fun ys' e y hy => ?_⟩
  rw [← PyData.list.inj e] at hy
  exact h y hy
theorem cn_tup {ys : List D} (hl : ys.length ≤ 1000) (h : ∀ y ∈ ys, Nme y) : CN (.tuple ys) := ⟨nf_tup fun y hy => nf_nme (h y hy), (Rx.tup hl fun y hy => rx_nme (h y hy)).mono (by decide) (by decide), fun ys' e => nomatch e⟩
theorem ca_names {ys : List D} (hl : ys.length ≤ 200) (h : ∀ y ∈ ys, Nme y) : CA (.list ys) := ⟨nf_lst fun y hy => nf_nme (h y hy), (Rx.lst hl fun y hy => rx_nme (h y hy)).mono (by decide) (by decide), fun ys' e => nomatch e⟩
def Sm (x : D) : Prop := noF x = true ∧ Rx 2 20 x ∧ ∀ i : Int, x = .int i → i ≤ 1000
theorem sm_atm {x : D} (h : Atm x) : Sm x := ⟨nf_atm h, (rx_atm h).mono (by decide) (by decide), fun i e => by
  subst e
  rcases List.mem_append.mp h with h | h
  · simp [-po_comp] at h
  · obtain ⟨k, hk, e⟩ := List.mem_map.mp h
    have := List.mem_range.mp hk
    have := PyData.int.inj e
    omega⟩
theorem ca_row {xs : List D} (hl : xs.length ≤ 100) (h : ∀ x ∈ xs, Sm x) : CA (.tuple xs) := ⟨nf_tup fun y hy => (h y hy).1, (Rx.tup hl fun y hy => (h y hy).2.1).mono (by decide) (by decide), fun ds e i hi => by
  rw [← PyData.tuple.inj e] at hi
  exact (h _ hi).2.2 i rfl⟩
theorem cn_row {xs : List D} (hl : xs.length ≤ 100) (h : ∀ x ∈ xs, Sm x) : CN (.tuple xs) := ⟨nf_tup fun y hy => (h y hy).1, (Rx.tup hl fun y hy => (h y hy).2.1).mono (by decide) (by decide), fun ds e => nomatch e⟩
theorem rx_str {s : Str} (h : okS s) {n : Nat} (hl : s.length ≤ n) : Rx 1 n (.str s) := by
  refine ⟨⟨rfl, rfl, ?_⟩, by simp [-po_comp, PyData.depth], hl⟩
  show (s.cps.toList.all fun c => decide (c < 16 ^ 8)) = true
  have h : s.cps.all (· < 0x110000) = true := h
  rw [← Array.all_toList] at h
  refine List.all_eq_true.mpr fun c hc => decide_eq_true ?_
  have := of_decide_eq_true (List.all_eq_true.mp h c hc)
  exact Nat.lt_trans this (by decide)
theorem ca_none : CA .none := ⟨rfl, Rx.none.mono (by decide) (by decide), fun ds e => nomatch e⟩
theorem cn_none : CN .none := ⟨rfl, Rx.none.mono (by decide) (by decide), fun ds e => nomatch e⟩
theorem ca_emp : CA (.dict []) := ⟨rfl, Rx.emp.mono (by decide) (by decide), fun ds e => nomatch e⟩
/-! ### dicts of pairs -/
theorem pK_app {κ : Type} [DecidableEq κ] {acc : List (κ × D)} {k : κ} {v : D} (h : k ∉ acc.map (·.1)) : pK acc k v = acc ++ [(k, v)] := by
  unfold pK
  rw [if_neg]
  intro e
  rw [List.any_eq_true] at e
  obtain ⟨q, hq, e⟩ := e
  exact h (List.mem_map.mpr ⟨q, hq, of_decide_eq_true e⟩)
theorem fold_pK {κ : Type} [DecidableEq κ] : ∀ (l acc : List (κ × D)), ((acc ++ l).map (·.1)).Nodup → l.foldl (fun acc kv => pK acc kv.1 kv.2) acc = acc ++ l
  | [], acc, _ => by simp [-po_comp]
  | q :: l, acc, h => by
    have h1 : q.1 ∉ acc.map (·.1) := by
      rw [List.map_append, List.nodup_append] at h
      intro hq
      exact h.2.2 _ hq _ (List.mem_cons_self ..) rfl
    rw [List.foldl_cons, pK_app h1, fold_pK l _ (by simpa using h)]
    simp [-po_comp]
theorem pairs_int {β : Type} (k : β → Nat) (g : β → D) : ∀ l : List β, pairsKD (l.map fun b => .tuple [.int (k b : Nat), g b]) = some (odt (l.map fun b => (k b, g b)))
  | [] => rfl
  | b :: l => by
    show (pairKD _).bind (fun p => (pairsKD (l.map fun b => .tuple [.int (k b : Nat), g b])).map fun ps => p :: ps) = _
    rw [pairs_int k g l]
    rfl
/-- dict([(k, x) for k in range(n)]) -/
theorem dict_int {n : Nat} (g : Nat → D) : dictI [.list ((List.range n).map fun k : Nat => .tuple [.int (k : Nat), g k])] = some (odt ((List.range n).map fun k => (k, g k))) := by
  show (pairsKD _).map _ = _
  rw [pairs_int (fun k => k) g]
  show some (List.foldl _ [] _) = _
  rw [fold_pK]
  · rfl
  · rw [List.nil_append]
    unfold odt
    rw [List.map_map, List.map_map]
    rw [List.nodup_iff_pairwise_ne, List.pairwise_map]
    refine List.Pairwise.imp (fun {a b} hab e => ?_) (List.nodup_iff_pairwise_ne.mp (List.nodup_range (n := n)))
    have e : (Sum.inl ((a : Nat) : Int) : Key) = Sum.inl ((b : Nat) : Int) := e
    have := Sum.inl.inj e
    omega
abbrev kyN (x : List Nat) : List Key := x.map fun n : Nat => Sum.inl (n : Int)
theorem keys_N : ∀ x : List Nat, keysD (x.map fun n : Nat => PyData.int (n : Int)) = some (kyN x)
  | [] => rfl
  | a :: x => by
    show (keyD (.int (a : Int))).bind (fun k => (keysD (x.map fun n : Nat => PyData.int (n : Int))).map (k :: ·)) = _
    rw [keys_N x]
    rfl
theorem kyN_inj {x y : List Nat} (h : kyN x = kyN y) : x = y := by
  have h2 := congrArg (List.map kyD) h
  rw [List.map_map, List.map_map] at h2
  exact ln_inj h2
theorem pairs_N (v : D) : ∀ zs : List (List Nat), pairsT (zs.map fun x => .tuple [F.N x, v]) = some (zs.map fun x => (kyN x, v))
  | [] => rfl
  | x :: zs => by
    show (pairT _).bind (fun p => (pairsT (zs.map fun x => .tuple [F.N x, v])).map fun ps => p :: ps) = _
    rw [pairs_N v zs]
    show ((keysD (x.map fun n : Nat => PyData.int (n : Int))).map fun y => (y, v)).bind _ = _
    rw [keys_N x]
    rfl
theorem dict_N {zs : List (List Nat)} (nd : zs.Nodup) (v : D) : dictP [.list (zs.map fun x => .tuple [F.N x, v])] = some (zs.map fun x => (kyN x, v)) := by
  show (pairsT _).map _ = _
  rw [pairs_N v]
  show some (List.foldl _ [] _) = _
  rw [fold_pK]
  · rfl
  · rw [List.nil_append, List.map_map]
    rw [List.nodup_iff_pairwise_ne, List.pairwise_map]
    exact List.Pairwise.imp (fun {a b} hab e => hab (kyN_inj e)) (List.nodup_iff_pairwise_ne.mp nd)
theorem dct_N {zs : List (List Nat)} (h0 : zs ≠ []) (v : D) : dctD (zs.map fun x => (kyN x, v)) = some (.dict (zs.map fun x => (F.N x, v))) := by
  cases zs with
  | nil => exact absurd rfl h0
  | cons x zs =>
    show some (PyData.dict ((((x :: zs).map fun x => (kyN x, v))).map fun q => (PyData.tuple (q.1.map kyD), q.2))) = _
    rw [List.map_map]
    congr 2
    refine List.map_congr_left fun y _ => ?_
    show (PyData.tuple ((kyN y).map kyD), v) = _
    rw [List.map_map]
    rfl
theorem rx_N {x : List Nat} (hl : x.length ≤ 6) (h : ∀ k ∈ x, k ≤ 40) : Rx 2 6 (F.N x) := (Rx.tup (n := 6) (by simpa using hl) fun d hd => by
  obtain ⟨k, hk, rfl⟩ := List.mem_map.mp hd
  exact rx_atm (atm_int (by omega) (by have := h k hk; omega))).mono (by decide) (by decide)
theorem flat_N (x : List Nat) : flatZ (F.N x) = true := List.all_eq_true.mpr fun d hd => by
  obtain ⟨k, _, rfl⟩ := List.mem_map.mp hd
  rfl
/-- dict([(k, names[k]) ..]) -/
theorem cn_fdt {n : Nat} (hn : n ≤ 40) (g : Nat → List Nat) (hg : ∀ k, k < n → (g k).length ≤ 6 ∧ ∀ j ∈ g k, j ≤ 40) : CN (fdt ((List.range n).map fun k => (k, F.N (g k)))) := by
  unfold fdt
  rw [List.map_map]
  refine ⟨?_, (Rx.dct (bk := 6) (n := 40) (by simpa using hn) (fun q hq => ?_) fun q hq => ?_).mono (by decide) (by decide), fun ys e => nomatch e⟩
  · show (!isFnH _) = true
    cases n with
    | zero => rfl
    | succ n =>
      rw [List.range_succ_eq_map]
      rfl
  · obtain ⟨k, hk, rfl⟩ := List.mem_map.mp hq
    have := List.mem_range.mp hk
    obtain ⟨g1, g2⟩ := hg k this
    show Rx 2 6 (PyData.int (k : Int)) ∧ Rx 2 6 (F.N (g k))
    exact ⟨(rx_atm (atm_int (by omega) (by omega))).mono (by decide) (by decide), rx_N g1 g2⟩
  · obtain ⟨k, hk, rfl⟩ := List.mem_map.mp hq
    exact ⟨rfl, flat_N _⟩
/-- dict([(name, 0) ..]) -/
theorem cn_dct {zs : List (List Nat)} (hn : zs.length ≤ 40) (hz : ∀ x ∈ zs, x.length ≤ 6 ∧ ∀ j ∈ x, j ≤ 40) : CN (.dict (zs.map fun x => (F.N x, PyData.int 0))) := by
  refine ⟨?_, (Rx.dct (bk := 6) (n := 40) (by simpa using hn) (fun q hq => ?_) fun q hq => ?_).mono (by decide) (by decide), fun ys e => nomatch e⟩
  · show (!isFnH _) = true
    cases zs <;> rfl
  · obtain ⟨x, hx, rfl⟩ := List.mem_map.mp hq
    obtain ⟨g1, g2⟩ := hz x hx
    exact ⟨rx_N g1 g2, (rx_atm (atm_int (by omega) (by omega))).mono (by decide) (by decide)⟩
  · obtain ⟨k, hk, rfl⟩ := List.mem_map.mp hq
    exact ⟨flat_N _, rfl⟩
/-- repr(names) -/
theorem cn_text {ys : List D} (hl : ys.length ≤ 40) (h : ∀ y ∈ ys, Nme y) : CN (.str (PyData.list ys).shown) := by
  have r := (Rx.lst hl fun y hy => rx_nme (h y hy))
  have hs := PyData.shown_le_bulk 60 (by decide) _ r.1.2.2
  have hb := r.2.2
  refine ⟨rfl, (rx_str (n := 100000) ?_ ?_).mono (by decide) (by decide), fun ys e => nomatch e⟩
  · refine okS_list _ fun t ht => ?_
    rw [shownAll_map] at ht
    obtain ⟨d, hd, rfl⟩ := List.mem_map.mp ht
    exact nme_ok (h d hd)
  · omega
theorem repr_names {ys : List D} (hl : ys.length ≤ 40) (h : ∀ y ∈ ys, Nme y) : reprZ (.list ys) = some (.str (PyData.list ys).shown) := (Rx.lst hl fun y hy => rx_nme (h y hy)).seq (by decide) (by omega) (.inr ⟨_, rfl⟩)
end K74
namespace K74
open PySem Pu L2
/-! ### one number of one name otherwise -/
theorem cutD1 (xs : List D) (k : Nat) : cutL xs (some ((k : Int) + 1)) none = xs.drop (k + 1) := cutL_drop xs (k + 1)
def wth (row : List D) (k : Nat) (x : D) : List D := row.take k ++ x :: row.drop (k + 1)
theorem wth_mem {row : List D} {k : Nat} {x y : D} (h : y ∈ wth row k x) : y ∈ row ∨ y = x := by
  rcases List.mem_append.mp h with h | h
  · exact .inl (List.mem_of_mem_take h)
  · rcases List.mem_cons.mp h with h | h
    · exact .inr h
    · exact .inl (List.mem_of_mem_drop h)
theorem wth_len (row : List D) (k : Nat) (x : D) : (wth row k x).length ≤ row.length + 1 := by
  unfold wth
  simp [-po_comp]
  omega
theorem with_ok {X : Exn → En → Prop} {row : List D} (hl : row.length ≤ 100) (k : Nat) (x : D) : Wp X (m__law_with [.v (.list row), .v (.int (k : Nat)), .v x]) fun rv _ => rv = .o (.l (wth row k x)) := by
  refine po_fnK fun Y K hY hK _ => ?_
  unfold b__law_with
  simp [-po_comp, cutL_take, cutD1]
  refine ⟨by omega, by omega, ?_⟩
  refine hK _ _ _ rfl ?_
  simp [-po_comp, wth]
structure Nb (R : List Nat) (zs : List (List Nat)) : Prop where
  f : Fo R
  l : R.length ≤ 4
  b : ∀ r ∈ R, r ≤ 16
  n : zs.length ≤ 16
  p : 0 < zs.length
  t : ∀ x ∈ zs, Gn.Thr R x
  nd : zs.Nodup
section
variable {R : List Nat} {zs : List (List Nat)}
theorem Nb.num (H : Nb R zs) {x : List Nat} (hx : x ∈ zs) : x.length = R.length ∧ ∀ k ∈ x, k < 16 := ⟨thr_len (H.t x hx), thr_lt H.b (H.t x hx)⟩
theorem Nb.nme (H : Nb R zs) : ∀ y ∈ zs.map (fun x => F.N x), Nme y := fun y hy => by
  obtain ⟨x, hx, rfl⟩ := List.mem_map.mp hy
  obtain ⟨h1, h2⟩ := H.num hx
  have := H.l
  exact nme_N (by omega) fun k hk => by have := h2 k hk; omega
theorem Nb.ca (H : Nb R zs) : CA (F.N R) := by
  have := H.l
  refine ca_row (by simp [-po_comp]; omega) fun x hx => ?_
  obtain ⟨r, hr, rfl⟩ := List.mem_map.mp hx
  have := H.b r hr
  exact sm_atm (atm_int (by omega) (by omega))
theorem Nb.wth (H : Nb R zs) {row : List D} (hl : row.length ≤ 100) (hr : ∀ y ∈ row, Nme y) (k : Nat) {x : D} (hx : Nme x) : CN (.list (wth row k x)) := cn_names (by have := wth_len row k x; omega) fun y hy => by
  rcases wth_mem hy with h | rfl
  · exact hr y h
  · exact hx
/-- all fit, and so many -/
def Al (n : Nat) (L : List D) : Prop := L.length ≤ n ∧ ∀ d ∈ L, Fine d
theorem Al.app {n m k : Nat} {L M : List D} (h : Al n L) (g : Al m M) (e : n + m ≤ k) : Al k (L ++ M) := ⟨by rw [List.length_append]; have := h.1; have := g.1; omega, fun d hd => by
  rcases List.mem_append.mp hd with h' | h'
  · exact h.2 d h'
  · exact g.2 d h'⟩
theorem Al.one {d : D} (h : Fine d) : Al 1 [d] := ⟨by simp, fun x hx => by rw [List.mem_singleton.mp hx]; exact h⟩
theorem Al.mono {n m : Nat} {L : List D} (h : Al n L) (e : n ≤ m) : Al m L := ⟨Nat.le_trans h.1 e, h.2⟩
theorem atm_LN {x : List Nat} (h : ∀ k ∈ x, k < 16) : ∀ y ∈ x.map (fun n : Nat => PyData.int (n : Int)), Atm y := fun y hy => by
  obtain ⟨k, hk, rfl⟩ := List.mem_map.mp hy
  have := h k hk
  exact atm_int (by omega) (by omega)
theorem nme_wth {x : List Nat} (hl : x.length ≤ 11) (h : ∀ k ∈ x, k < 16) (k : Nat) {o : D} (ho : Atm o) : Nme (.tuple (K74.wth (x.map fun n : Nat => PyData.int (n : Int)) k o)) := ⟨by
  have := wth_len (x.map fun n : Nat => PyData.int (n : Int)) k o
  rw [List.length_map] at this
  omega, fun y hy => by
  rcases wth_mem hy with hy | rfl
  · exact atm_LN h y hy
  · exact ho⟩
theorem each_ok {X : Exn → En → Prop} (H : Nb R zs) : Wp X (m__law_each_bent [.v (F.N R), .v (NL zs)]) fun rv _ => ∃ L, rv = .o (.l L) ∧ Al 320 L := by
  refine po_fnK fun Y K hY hK _ => ?_
  unfold b__law_each_bent
  have hn := H.n
  have hl := H.l
  refine po_step fun K1 h1 _ _ _ => ?_
  simp [-po_comp]
  refine h1 _ ?_
  refine po_step fun K2 h2 _ _ _ => ?_
  have ee : enOf [NL zs] = some ((zs.zipIdx 0).map fun p => .tuple [.int (p.2 : Nat), F.N p.1]) := enOf_l (fun x : List Nat => F.N x) zs
  simp [-po_comp, ee]
  refine po_forK (fun done r => ∃ L s3 s4 s5 s6 s7 s8, Al (20 * done.length) L ∧ r = [.v (F.N R), .v (NL zs), .o (.l L), s3, s4, s5, s6, s7, s8] ∧ s3.isIo = false ∧ s4.isIo = false ∧ s5.isIo = false ∧ s6.isIo = false ∧ s7.isIo = false ∧ s8.isIo = false) (zs.zipIdx 0) _ ⟨[], _, _, _, _, _, _, ⟨by simp, by simp⟩, rfl, rfl, rfl, rfl, rfl, rfl, rfl⟩ ?_ ?_
  · rintro done ⟨x, k⟩ rest r e ⟨L, s3, s4, s5, s6, s7, s8, hL, rfl, q3, q4, q5, q6, q7, q8⟩
    obtain ⟨hk, hx, hlt⟩ := zip_idxD e
    simp [-po_comp] at hk hx
    subst hk
    have hxm : x ∈ zs := List.mem_of_getElem? hx
    obtain ⟨xl, x16⟩ := H.num hxm
    refine ⟨[.v (F.N R), .v (NL zs), .o (.l L), .v (.int (done.length : Nat)), .v (F.N x), s5, s6, s7, s8], by simp [-po_comp, q3, q4], fun K3 h3 _ _ _ => ?_⟩
    have ee2 : enOf [F.N x] = some ((x.zipIdx 0).map fun p => .tuple [.int (p.2 : Nat), .int (p.1 : Nat)]) := enOf_t (fun k : Nat => PyData.int (k : Nat)) x
    simp [-po_comp, ee2]
    refine po_forK (fun dn r => ∃ L s5 s6 s7 s8, Al (20 * done.length + 5 * dn.length) L ∧ r = [.v (F.N R), .v (NL zs), .o (.l L), .v (.int (done.length : Nat)), .v (F.N x), s5, s6, s7, s8] ∧ s5.isIo = false ∧ s6.isIo = false ∧ s7.isIo = false ∧ s8.isIo = false) (x.zipIdx 0) _ ⟨L, _, _, _, _, by simpa using hL, rfl, q5, q6, q7, q8⟩ ?_ ?_
    · rintro dn ⟨a, j⟩ rest' r e' ⟨L, s5, s6, s7, s8, hL, rfl, q5, q6, q7, q8⟩
      obtain ⟨hj, ha, hjlt⟩ := zip_idxD e'
      simp [-po_comp] at hj ha
      subst hj
      have ha16 := x16 a (List.mem_of_getElem? ha)
      have hlt2 : done.length < 16 := by omega
      have hRj : R[dn.length]? = some R[dn.length] := List.getElem?_eq_getElem (by omega)
      obtain ⟨r0, hr0⟩ : ∃ r0, r0 = R[dn.length] := ⟨_, rfl⟩
      have hr1 := H.f.2.1 _ (List.getElem_mem (show dn.length < R.length by omega))
      have hr2 := H.b _ (List.getElem_mem (show dn.length < R.length by omega))
      rw [← hr0] at hRj hr1 hr2
      refine ⟨[.v (F.N R), .v (NL zs), .o (.l L), .v (.int (done.length : Nat)), .v (F.N x), .v (.int (dn.length : Nat)), .v (.int (a : Nat)), s7, s8], by simp [-po_comp, q5, q6], fun K4 h4 _ _ _ => ?_⟩
      refine po_step fun K5 h5 _ _ _ => ?_
      have r0' : ¬ r0 = 0 := by omega
      simp [-po_comp, hRj, r0', q7]
      refine h5 _ ?_
      obtain ⟨os, hos, hol, hoa⟩ : ∃ os : List D, os = [PyData.int (((a : Nat) + 1 : Int).fmod (r0 : Nat)), .int ((a : Nat) + (r0 : Nat)), .int (-1), .bool (decide ((a : Int) = 1)), .none] ∧ os.length = 5 ∧ ∀ d ∈ os, Atm d := by
        refine ⟨_, rfl, rfl, fun d hd => ?_⟩
        simp [-po_comp] at hd
        rcases hd with rfl | rfl | rfl | rfl | rfl
        · have h0 : (0 : Int) ≤ ((a : Nat) + 1 : Int).fmod (r0 : Nat) := (fmod_pos _ (by omega)).1
          have h1 : ((a : Nat) + 1 : Int).fmod (r0 : Nat) < (r0 : Nat) := (fmod_pos _ (by omega)).2
          exact atm_int (by omega) (by omega)
        · exact atm_int (by omega) (by omega)
        · exact atm_int (by omega) (by omega)
        · exact atm_bool _
        · exact atm_none
      rw [← hos]
      clear hos
      simp [-po_comp]
      refine po_forD (fun d2 r => ∃ L s8, Al (20 * done.length + 5 * dn.length + d2.length) L ∧ r = [.v (F.N R), .v (NL zs), .o (.l L), .v (.int (done.length : Nat)), .v (F.N x), .v (.int (dn.length : Nat)), .v (.int (a : Nat)), .v (.list os), s8] ∧ s8.isIo = false) os _ ⟨L, _, by simpa using hL, rfl, q8⟩ ?_ ?_
      · rintro d2 o rest2 r e2 ⟨L, s8, hL, rfl, q8⟩
        have ho := hoa o (by rw [e2]; simp [-po_comp])
        have hd2 : d2.length < 5 := by
          have := congrArg List.length e2
          simp [-po_comp] at this
          omega
        refine ⟨[.v (F.N R), .v (NL zs), .o (.l L), .v (.int (done.length : Nat)), .v (F.N x), .v (.int (dn.length : Nat)), .v (.int (a : Nat)), .v (.list os), .v o], by simp [-po_comp, q8], fun K6 h6 _ _ _ => ?_⟩
        have Ll := hL.1
        simp [-po_comp, cutL_take, cutD1]
        refine ⟨by omega, by omega, ?_⟩
        refine po_mono (with_ok (by simp [-po_comp]; omega) _ _) ?_
        rintro _ _ rfl
        simp [-po_comp]
        try refine ⟨by omega, ?_⟩
        refine h6 _ ⟨_, _, ?_, rfl, rfl⟩
        refine hL.app (Al.one (fine2 H.ca (H.wth (by simp [-po_comp]; omega) H.nme _ ?_))) (by simp [-po_comp]; omega)
        exact nme_wth (by omega) (fun k hk => x16 k hk) _ ho
      · rintro r ⟨L, s8, hL, rfl, q8⟩
        refine h4 _ ⟨L, _, _, _, _, hL.mono (by simp [-po_comp]; omega), rfl, rfl, rfl, rfl, q8⟩
    · rintro r ⟨L, s5, s6, s7, s8, hL, rfl, q5, q6, q7, q8⟩
      refine h3 _ ⟨L, _, _, _, _, _, _, hL.mono (by simp [-po_comp]; omega), rfl, rfl, rfl, q5, q6, q7, q8⟩
  · rintro r ⟨L, s3, s4, s5, s6, s7, s8, hL, rfl, -⟩
    refine h2 _ ?_
    simp [-po_comp]
    refine hK _ _ _ rfl ⟨L, rfl, hL.mono (by simp [-po_comp]; omega)⟩
end
end K74
namespace K74
open PySem Pu L2
/-! ### names and forms otherwise -/
section
variable {R : List Nat} {zs : List (List Nat)}
theorem Nb.hs (H : Nb R zs) (hn : F.pr R ≤ 16) : Hs (F.IN R) := fo_hs H.f hn
theorem Nb.ho (H : Nb R zs) : Ho (F.IN R) := ⟨by have := H.l; simp [-po_comp]; omega, fun h hh => by
  obtain ⟨r, hr, rfl⟩ := List.mem_map.mp hh
  have := H.b r hr
  have := H.f.2.1 r hr
  omega⟩
theorem rngD0 (n : Nat) : rngD 0 n = (List.range n).map fun k : Nat => PyData.int (k : Int) := by
  unfold rngD
  simp [-po_comp]
theorem frzT_ap (m : M RV) (r : En) : frzT m r = (m r).bind fun rv r => match rv with
  | .v d => .ok d r
  | .o (.t kvs) => M.opt (dctD kvs) r
  | _ => .no := by
  unfold frzT
  show (m r).bind _ = (m r).bind _
  congr 1
  funext rv r
  cases rv with
  | v d => rfl
  | o c => cases c <;> rfl
theorem fine_atom {d : D} (h1 : noF d = true) (h2 : ∀ ds, d ≠ .tuple ds) (h3 : ∃ s, reprZ d = some (.str s)) : Fine d := And.intro h1 (And.intro (fun _ _ e => absurd e (h2 _)) (And.intro (fun _ _ e => absurd e (h2 _)) h3))
theorem cut_mem {xs : List D} {lo hi : Option Int} {d : D} (h : d ∈ cutL xs lo hi) : d ∈ xs := List.mem_of_mem_drop (List.mem_of_mem_take h)
theorem ads_thr : ∀ {R x y : List Nat}, (∀ r ∈ R, 1 ≤ r) → Gn.Thr R x → Gn.Thr R y → Gn.Thr R (Gn.ads R x y)
  | [], [], [], _, _, _ => trivial
  | r :: R, x :: X, y :: Y, h, hx, hy => ⟨Nat.mod_lt _ (h r (by simp [-po_comp])), ads_thr (fun q hq => h q (by simp [-po_comp, hq])) hx.2 hy.2⟩
  | [], _ :: _, _, _, h, _ => h.elim
  | _ :: _, [], _, _, h, _ => h.elim
  | [], [], _ :: _, _, _, h => h.elim
  | _ :: _, _ :: _, [], _, _, h => h.elim
theorem bent_ok {X : Exn → En → Prop} {cs : List Int} {b : Nat} {p : Ct} (hp : PenB cs b p) (hb : b < 900) (H : Nb R zs) : Wp X (m__law_bent [.io p, .v (F.N R), .v (NL zs)]) fun rv z => ∃ (L : List D) (c : Ct) (t : List Sl), rv = .o (.l L) ∧ Al 100 L ∧ z = .io c :: t ∧ PenB cs (b + 3) c := by
  have hn := H.n
  have hl := H.l
  have h0 := H.p
  refine po_fnK fun Y K hY hK _ => ?_
  unfold b__law_bent
  refine po_step fun K1 h1 _ _ _ => ?_
  simp [-po_comp]
  refine h1 _ ?_
  refine po_step fun K2 h2 _ _ _ => ?_
  simp [-po_comp]
  refine po_mono (F.draw_ok hp (by omega) (by omega) (by omega)) ?_
  rintro _ _ ⟨v, c, t, rfl, v0, v1, rfl, hp⟩
  obtain ⟨a, rfl⟩ := Int.eq_ofNat_of_zero_le v0
  simp [-po_comp]
  refine h2 _ ?_
  refine po_step fun K3 h3 _ _ _ => ?_
  simp [-po_comp]
  refine po_mono (F.draw_ok hp (by omega) (by omega) (by omega)) ?_
  rintro _ _ ⟨v, c, t, rfl, w0, w1, rfl, hp⟩
  obtain ⟨b', rfl⟩ := Int.eq_ofNat_of_zero_le w0
  simp [-po_comp]
  refine h3 _ ?_
  refine po_step fun K4 h4 _ _ _ => ?_
  simp [-po_comp]
  refine po_mono (F.draw_ok hp (by omega) (by omega) (by omega)) ?_
  rintro _ _ ⟨v, c, t, rfl, u0, u1, rfl, hp⟩
  obtain ⟨lap, rfl⟩ := Int.eq_ofNat_of_zero_le u0
  simp [-po_comp]
  refine h4 _ ?_
  have ha : a < zs.length := by omega
  have hb' : b' < zs.length := by omega
  have ia := zs_row (zs := zs) ha
  have ib := zs_row (zs := zs) hb'
  obtain ⟨xa, hxa⟩ : ∃ x, x = zs.getD a [] := ⟨_, rfl⟩
  obtain ⟨xb, hxb⟩ : ∃ x, x = zs.getD b' [] := ⟨_, rfl⟩
  have ma : xa ∈ zs := by
    rw [hxa, List.getD, List.getElem?_eq_getElem ha]
    exact List.getElem_mem _
  have mb : xb ∈ zs := by
    rw [hxb, List.getD, List.getElem?_eq_getElem hb']
    exact List.getElem_mem _
  rw [← hxa] at ia
  rw [← hxb] at ib
  refine po_step fun K5 h5 _ _ _ => ?_
  simp [-po_comp]
  refine po_LC1 (fun x : List Nat => F.N x) (fun x => F.N (Gn.ads R x xa)) zs ?_ (by simp [-po_comp]) (by omega) (fun x hx => ?_) ?_
  · simp [-po_comp]
  · simp [-po_comp, ia, -List.getElem?_map]
    rw [F.NT R, F.NT x, F.NT xa]
    refine po_mono (sum_ok H.ho (th_thr.mpr ⟨_, rfl, H.t x hx⟩) (th_thr.mpr ⟨_, rfl, H.t xa ma⟩)) ?_
    rintro _ _ rfl
    rw [pl_IN (H.t x hx) (H.t xa ma), ← F.NT]
    simp [-po_comp]
  simp [-po_comp]
  refine h5 _ ?_
  obtain ⟨M, hM, hMl, hMn⟩ : ∃ M : List D, M = zs.map (fun x => F.N (Gn.ads R x xa)) ∧ M.length ≤ 16 ∧ ∀ y ∈ M, Nme y := ⟨_, rfl, by simpa using hn, fun y hy => by
    obtain ⟨x, hx, rfl⟩ := List.mem_map.mp hy
    have t := ads_thr (fun r hr => by have := H.f.2.1 r hr; omega) (H.t x hx) (H.t xa ma)
    have := thr_len t
    exact nme_N (by omega) fun k hk => by have := thr_lt H.b t k hk; omega⟩
  rw [← hM]
  refine po_step fun K6 h6 _ _ _ => ?_
  simp [-po_comp]
  refine po_LC1 (fun x : List Nat => F.N x) (fun x => .tuple ((List.range R.length).map fun k => .int (((lap : Int) * (F.gn x k : Nat)).fmod (F.gn R k : Nat)))) zs ?_ (by simp [-po_comp]) (by omega) (fun x hx => ?_) ?_
  · simp [-po_comp]
  · simp [-po_comp]
    obtain ⟨xl, x16⟩ := H.num hx
    refine po_LC1 (fun k : Nat => .int (k : Int)) (fun k => .int (((lap : Int) * (F.gn x k : Nat)).fmod (F.gn R k : Nat))) (List.range R.length) ?_ (by simp [-po_comp]) (by simp [-po_comp]; omega) (fun k hk => ?_) ?_
    · simp [-po_comp, rngD0]
      omega
    · have hk := List.mem_range.mp hk
      have g1 : x[k]? = some (F.gn x k) := F.gn_at (by omega)
      have g2 : R[k]? = some (F.gn R k) := F.gn_at hk
      have g3 := H.f.2.1 _ (F.gn_mem hk)
      have g4 : ¬ F.gn R k = 0 := by omega
      have g5 : F.gn x k < 16 := x16 _ (F.gn_mem (by omega))
      have g6 : mulOk (lap : Int) (F.gn x k : Nat) := F.mulN (Nat.lt_of_lt_of_le (show lap < 16 by omega) (by decide +kernel)) (Nat.lt_of_lt_of_le g5 (by decide +kernel))
      simp [-po_comp, g1, g2, g4, g6]
    · simp [-po_comp]
  simp [-po_comp]
  refine h6 _ ?_
  obtain ⟨U, hU, hUl, hUn⟩ : ∃ U : List D, U = zs.map (fun x => PyData.tuple ((List.range R.length).map fun k => .int (((lap : Int) * (F.gn x k : Nat)).fmod (F.gn R k : Nat)))) ∧ U.length ≤ 16 ∧ ∀ y ∈ U, Nme y := ⟨_, rfl, by simpa using hn, fun y hy => by
    obtain ⟨x, hx, rfl⟩ := List.mem_map.mp hy
    refine ⟨by simp [-po_comp]; omega, fun d hd => ?_⟩
    obtain ⟨k, hk, rfl⟩ := List.mem_map.mp hd
    have hk := List.mem_range.mp hk
    have g3 := H.f.2.1 _ (F.gn_mem hk)
    have g4 := H.b _ (F.gn_mem hk)
    have q1 := (fmod_pos ((lap : Int) * (F.gn x k : Nat)) (show (0 : Int) < (F.gn R k : Nat) by omega)).1
    have q2 := (fmod_pos ((lap : Int) * (F.gn x k : Nat)) (show (0 : Int) < (F.gn R k : Nat) by omega)).2
    exact atm_int (by omega) (by omega)⟩
  rw [← hU]
  clear hU hM
  have hz := H.nme
  have zl : (zs.map fun x => F.N x).length ≤ 100 := by simp [-po_comp]; omega
  have na : Nme (F.N xa) := hz _ (List.mem_map.mpr ⟨_, ma, rfl⟩)
  have nb : Nme (F.N xb) := hz _ (List.mem_map.mpr ⟨_, mb, rfl⟩)
  refine po_step fun K7 h7 _ _ _ => ?_
  simp [-po_comp, ib, -List.getElem?_map]
  refine po_mono (with_ok zl _ _) ?_
  rintro _ _ rfl
  simp [-po_comp, ia, -List.getElem?_map]
  have wl : (wth (zs.map fun x => F.N x) a (F.N xb)).length ≤ 100 := by
    have := wth_len (zs.map fun x => F.N x) a (F.N xb)
    rw [List.length_map] at this
    omega
  have wn : ∀ y ∈ wth (zs.map fun x => F.N x) a (F.N xb), Nme y := fun y hy => by
    rcases wth_mem hy with hy | rfl
    · exact hz y hy
    · exact nb
  refine po_mono (with_ok wl _ _) ?_
  rintro _ _ rfl
  simp [-po_comp]
  refine h7 _ ?_
  obtain ⟨L, hL, AL⟩ : ∃ L : List D, L = [.tuple [F.N R, .list (wth (wth (zs.map fun x => F.N x) a (F.N xb)) b' (F.N xa))], .tuple [F.N R, .list M], .tuple [F.N R, .list U]] ∧ Al 3 L := ⟨_, rfl, by simp, fun d hd => by
    simp [-po_comp] at hd
    rcases hd with rfl | rfl | rfl
    · exact fine2 H.ca (H.wth wl wn _ na)
    · exact fine2 H.ca (cn_names (by omega) hMn)
    · exact fine2 H.ca (cn_names (by omega) hUn)⟩
  rw [← hL]
  clear hL
  refine po_step fun K8 h8 _ _ _ => ?_
  simp [-po_comp, ib, -List.getElem?_map]
  refine po_mono (with_ok zl _ _) ?_
  rintro _ _ rfl
  simp [-po_comp]
  have cn1 : CN (NL zs) := cn_names (by simp [-po_comp]; omega) hz
  have cw := fun {x : D} (hx : Nme x) => H.wth zl hz a hx
  refine ⟨by have := AL.1; omega, h8 _ ?_⟩
  obtain ⟨L8, hL8, AL8⟩ : ∃ L8 : List D, L8 = L ++ [.tuple [F.N R, .list (wth (zs.map fun x => F.N x) a (F.N xb))], .tuple [F.N R, .list (zs.map fun x => F.N x).reverse], .tuple [F.N R, .list (cutL (zs.map fun x => F.N x) none (some (-1)))]] ∧ Al 6 L8 := ⟨_, rfl, AL.app (m := 3) ⟨by simp, fun d hd => by
    simp [-po_comp] at hd
    rcases hd with rfl | rfl | rfl
    · exact fine2 H.ca (cw nb)
    · exact fine2 H.ca (cn_names (by simp [-po_comp]; omega) fun y hy => hz y (by rw [← List.map_reverse] at hy; simpa using hy))
    · exact fine2 H.ca (cn_names (by have := cutL_le (zs.map fun x => F.N x) none (some (-1)); omega) fun y hy => hz y (cut_mem hy))⟩ (by decide)⟩
  rw [← hL8]
  clear hL8 AL
  refine po_step fun K9 h9 _ _ _ => ?_
  have cl1 := cutL_le (zs.map fun x => F.N x) none (some 1)
  have A8 := AL8.1
  simp [-po_comp]
  refine ⟨by omega, ?_⟩
  try refine ⟨by omega, ?_⟩
  refine h9 _ ?_
  obtain ⟨L9, hL9, AL9⟩ : ∃ L9 : List D, L9 = L8 ++ [.tuple [F.N R, .list ((zs.map fun x => F.N x) ++ cutL (zs.map fun x => F.N x) none (some 1))]] ∧ Al 7 L9 := ⟨_, rfl, AL8.app (m := 1) (Al.one (fine2 H.ca (cn_names (by rw [List.length_append]; omega) fun y hy => by
    rcases List.mem_append.mp hy with hy | hy
    · exact hz y hy
    · exact hz y (cut_mem hy)))) (by decide)⟩
  rw [← hL9]
  clear hL9 AL8 A8
  refine po_step fun K10 h10 _ _ _ => ?_
  have A9 := AL9.1
  simp [-po_comp]
  refine ⟨by omega, h10 _ ?_⟩
  have caN : CA (NL zs) := ca_names (by simp [-po_comp]; omega) hz
  have cnR : CN (F.N R) := cn_row (by simp [-po_comp]; omega) fun x hx => by
    obtain ⟨r, hr, rfl⟩ := List.mem_map.mp hx
    have := H.b r hr
    exact sm_atm (atm_int (by omega) (by omega))
  have aR : ∀ x ∈ R.map (fun n : Nat => PyData.int (n : Int)), Atm x := fun x hx => by
    obtain ⟨r, hr, rfl⟩ := List.mem_map.mp hx
    have := H.b r hr
    exact atm_int (by omega) (by omega)
  have caL : CA (.list (R.map fun n : Nat => PyData.int (n : Int))) := ca_names (by simp [-po_comp]; omega) fun y hy => by
    obtain ⟨r, hr, rfl⟩ := List.mem_map.mp hy
    have := H.b r hr
    show Atm _
    exact atm_int (by omega) (by omega)
  obtain ⟨L10, hL10, AL10⟩ : ∃ L10 : List D, L10 = L9 ++ [.tuple [F.N R, .tuple (zs.map fun x => F.N x)], .list [F.N R, NL zs], .tuple [F.N R, NL zs, .int 1], .tuple [F.N R], .tuple [.list (R.map fun n : Nat => PyData.int (n : Int)), NL zs], .tuple [NL zs, F.N R]] ∧ Al 13 L10 := ⟨_, rfl, AL9.app (m := 6) ⟨by simp, fun d hd => by
    simp [-po_comp] at hd
    have nfR := H.ca.1
    have nfZ := cn1.1
    have rR : Rx 4 3000 (F.N R) := H.ca.2.1
    have rZ : Rx 4 3000 (NL zs) := caN.2.1
    rcases hd with rfl | rfl | rfl | rfl | rfl | rfl
    · exact fine2 H.ca (cn_tup (by simp [-po_comp]; omega) hz)
    · exact fine_other (nf_lst fun x hx => by
        simp [-po_comp] at hx
        rcases hx with rfl | rfl
        · exact nfR
        · exact nfZ) ((Rx.lst (dp := 4) (bk := 3000) (n := 2) (by simp [-po_comp]) fun x hx => by
        simp [-po_comp] at hx
        rcases hx with rfl | rfl
        · exact rR
        · exact rZ).mono (by decide) (by decide)) (fun _ _ e => nomatch e) (.inr ⟨_, rfl⟩)
    · exact fine_other (nf_tup fun x hx => by
        simp [-po_comp] at hx
        rcases hx with rfl | rfl | rfl
        · exact nfR
        · exact nfZ
        · rfl) ((Rx.tup (dp := 4) (bk := 3000) (n := 3) (by simp [-po_comp]) fun x hx => by
        simp [-po_comp] at hx
        rcases hx with rfl | rfl | rfl
        · exact rR
        · exact rZ
        · exact (rx_atm (atm_int (by omega) (by omega))).mono (by decide) (by decide)).mono (by decide) (by decide)) (fun _ _ e => nomatch e) (.inl ⟨_, rfl⟩)
    · exact fine_other (nf_tup fun x hx => by
        simp [-po_comp] at hx
        rw [hx]
        exact nfR) ((Rx.tup (dp := 4) (bk := 3000) (n := 1) (by simp [-po_comp]) fun x hx => by
        simp [-po_comp] at hx
        rw [hx]
        exact rR).mono (by decide) (by decide)) (fun _ _ e => nomatch e) (.inl ⟨_, rfl⟩)
    · exact fine2 caL cn1
    · exact fine2 caN cnR⟩ (by decide)⟩
  rw [← hL10]
  clear hL10 AL9 A9
  refine po_step fun K11 h11 _ _ _ => ?_
  have A10 := AL10.1
  simp [-po_comp]
  refine po_LC1 (fun k : Nat => .int (k : Int)) (fun k : Nat => .tuple [.int (k : Int)]) (List.range zs.length) ?_ (by simp [-po_comp]) (by simp [-po_comp]; omega) (fun k hk => ?_) ?_
  · simp [-po_comp, rngD0]
    omega
  · simp [-po_comp]
  simp [-po_comp]
  refine ⟨by omega, ?_⟩
  refine po_LC1 (fun x : List Nat => F.N x) (fun x => .tuple (.int 0 :: x.map fun n : Nat => PyData.int (n : Int))) zs ?_ (by simp [-po_comp]) (by omega) (fun x hx => ?_) ?_
  · simp [-po_comp]
  · have := (H.num hx).1
    simp [-po_comp]
    omega
  simp [-po_comp]
  refine ⟨by omega, h11 _ ?_⟩
  have sm : ∀ {i : Int}, -40 ≤ i → i ≤ 40 → Sm (.int i) := fun h1 h2 => sm_atm (atm_int h1 h2)
  have caR1 : ∀ {x : D}, Sm x → CA (.tuple (x :: R.map fun n : Nat => PyData.int (n : Int))) := fun {x} hx => ca_row (by simp [-po_comp]; omega) fun y hy => by
    rcases List.mem_cons.mp hy with rfl | hy
    · exact hx
    · exact sm_atm (aR y hy)
  have caR2 : ∀ {x : D}, Sm x → CA (.tuple ((R.map fun n : Nat => PyData.int (n : Int)) ++ [x])) := fun {x} hx => ca_row (by simp [-po_comp]; omega) fun y hy => by
    rcases List.mem_append.mp hy with hy | hy
    · exact sm_atm (aR y hy)
    · rw [List.mem_singleton.mp hy]
      exact hx
  obtain ⟨L11, hL11, AL11⟩ : ∃ L11 : List D, L11 = L10 ++ [.tuple [.tuple [.int (zs.length : Int)], .list ((List.range zs.length).map fun k : Nat => .tuple [.int (k : Int)])], .tuple [.tuple (.int 1 :: R.map fun n : Nat => PyData.int (n : Int)), .list (zs.map fun x => .tuple (.int 0 :: x.map fun n : Nat => PyData.int (n : Int)))]] ∧ Al 15 L11 := ⟨_, rfl, AL10.app (m := 2) ⟨by simp, fun d hd => by
    simp [-po_comp] at hd
    rcases hd with rfl | rfl
    · refine fine2 (ca_row (by simp [-po_comp]) fun x hx => ?_) (cn_names (by simp [-po_comp]; omega) fun y hy => ?_)
      · rw [List.mem_singleton.mp hx]
        exact sm (by omega) (by omega)
      · obtain ⟨k, hk, rfl⟩ := List.mem_map.mp hy
        have := List.mem_range.mp hk
        exact ⟨by simp, fun x hx => by
          rw [List.mem_singleton.mp hx]
          exact atm_int (by omega) (by omega)⟩
    · refine fine2 (caR1 (sm (by omega) (by omega))) (cn_names (by simp [-po_comp]; omega) fun y hy => ?_)
      obtain ⟨x, hx, rfl⟩ := List.mem_map.mp hy
      obtain ⟨g1, g2⟩ := H.num hx
      exact ⟨by simp [-po_comp]; omega, fun d hd => by
        rcases List.mem_cons.mp hd with rfl | hd
        · exact atm_int (by omega) (by omega)
        · exact atm_LN g2 d hd⟩⟩ (by decide)⟩
  rw [← hL11]
  clear hL11 AL10 A10
  refine po_step fun K12 h12 _ _ _ => ?_
  have A11 := AL11.1
  simp [-po_comp]
  refine po_LC1 (fun x : List Nat => F.N x) (fun x => .tuple (x.map fun n : Nat => PyData.int (n : Int)).reverse) zs ?_ (by simp [-po_comp]) (by omega) (fun x hx => ?_) ?_
  · simp [-po_comp]
  · simp [-po_comp]
  simp [-po_comp]
  refine ⟨by omega, ?_⟩
  refine po_LC1 (fun x : List Nat => F.N x) (fun x => .tuple ((x.map fun n : Nat => PyData.int (n : Int)) ++ [.int 0])) zs ?_ (by simp [-po_comp]) (by omega) (fun x hx => ?_) ?_
  · simp [-po_comp]
  · have := (H.num hx).1
    simp [-po_comp]
    omega
  simp [-po_comp]
  refine ⟨by omega, h12 _ ?_⟩
  obtain ⟨L12, hL12, AL12⟩ : ∃ L12 : List D, L12 = L11 ++ [.tuple [.tuple (R.map fun n : Nat => PyData.int (n : Int)).reverse, .list (zs.map fun x => .tuple (x.map fun n : Nat => PyData.int (n : Int)).reverse)], .tuple [.tuple ((R.map fun n : Nat => PyData.int (n : Int)) ++ [.int 2]), .list (zs.map fun x => .tuple ((x.map fun n : Nat => PyData.int (n : Int)) ++ [.int 0]))]] ∧ Al 17 L12 := ⟨_, rfl, AL11.app (m := 2) ⟨by simp, fun d hd => by
    simp only [List.mem_cons, List.not_mem_nil, or_false] at hd
    rcases hd with rfl | rfl
    · refine fine2 (ca_row (by simp [-po_comp]; omega) fun x hx => sm_atm (aR x (List.mem_reverse.mp hx))) (cn_names (by simp [-po_comp]; omega) fun y hy => ?_)
      obtain ⟨x, hx, rfl⟩ := List.mem_map.mp hy
      obtain ⟨g1, g2⟩ := H.num hx
      exact ⟨by simp [-po_comp]; omega, fun d hd => atm_LN g2 d (List.mem_reverse.mp hd)⟩
    · refine fine2 (caR2 (sm (by omega) (by omega))) (cn_names (by simp [-po_comp]; omega) fun y hy => ?_)
      obtain ⟨x, hx, rfl⟩ := List.mem_map.mp hy
      obtain ⟨g1, g2⟩ := H.num hx
      exact ⟨by simp [-po_comp]; omega, fun d hd => by
        rcases List.mem_append.mp hd with hd | hd
        · exact atm_LN g2 d hd
        · rw [List.mem_singleton.mp hd]
          exact atm_int (by omega) (by omega)⟩⟩ (by decide)⟩
  try rw [← hL12]
  clear hL12 AL11 A11
  refine po_step fun K13 h13 _ _ _ => ?_
  have A12 := AL12.1
  obtain ⟨al, a16⟩ := H.num ma
  obtain ⟨os, hos, hol, hoa⟩ : ∃ os : List D, os = [PyData.none, .int 7, .list [], .list (xa.map fun n : Nat => PyData.int (n : Int)), .tuple ((xa.map fun n : Nat => PyData.int (n : Int)) ++ [.int 0])] ∧ os.length = 5 ∧ ∀ d ∈ os, Nme d := by
    refine ⟨_, rfl, rfl, fun d hd => ?_⟩
    simp only [List.mem_cons, List.not_mem_nil, or_false] at hd
    rcases hd with rfl | rfl | rfl | rfl | rfl
    · exact atm_none
    · exact atm_int (by omega) (by omega)
    · exact ⟨by simp, by simp⟩
    · exact ⟨by simp [-po_comp]; omega, atm_LN a16⟩
    · exact ⟨by simp [-po_comp]; omega, fun d hd => by
        rcases List.mem_append.mp hd with hd | hd
        · exact atm_LN a16 d hd
        · rw [List.mem_singleton.mp hd]
          exact atm_int (by omega) (by omega)⟩
  simp [-po_comp]
  refine po_LC1 (fun d : D => d) (fun d => .tuple [F.N R, .list (wth (zs.map fun x => F.N x) a d)]) os ?_ (by simp [-po_comp]) (by omega) (fun d hd => ?_) ?_
  · simp [-po_comp, ia, hos, -List.getElem?_map]
    omega
  · simp [-po_comp]
    refine po_mono (with_ok zl _ _) ?_
    rintro _ _ rfl
    simp [-po_comp]
  simp [-po_comp]
  refine ⟨by omega, h13 _ ?_⟩
  obtain ⟨L13, hL13, AL13⟩ : ∃ L13 : List D, L13 = L12 ++ os.map (fun d => .tuple [F.N R, .list (wth (zs.map fun x => F.N x) a d)]) ∧ Al 22 L13 := ⟨_, rfl, AL12.app (m := 5) ⟨by simp [-po_comp]; omega, fun d hd => by
    obtain ⟨o, ho, rfl⟩ := List.mem_map.mp hd
    exact fine2 H.ca (cw (hoa o ho))⟩ (by decide)⟩
  rw [← hL13]
  clear hL13 AL12 A12 hos hol hoa
  refine po_step fun K14 h14 _ _ _ => ?_
  simp [-po_comp]
  obtain ⟨ws, hws, hwl, hwa⟩ : ∃ ws : List D, ws = [.str "2", .none, .list [.int 2], .bool true, .dict [], .tuple [.int 2], .int 0, .int (-2)] ∧ ws.length = 8 ∧ ∀ d ∈ ws, Sm d := by
    refine ⟨_, rfl, rfl, fun d hd => ?_⟩
    have i2 : Rx 1 0 (.int 2) := rx_atm (atm_int (by omega) (by omega))
    simp only [List.mem_cons, List.not_mem_nil, or_false] at hd
    rcases hd with rfl | rfl | rfl | rfl | rfl | rfl | rfl | rfl
    · refine ⟨rfl, (rx_str (n := 1) ?_ ?_).mono (by decide) (by decide), fun i e => nomatch e⟩
      · show PyData.strOk _ = true
        decide +kernel
      · decide +kernel
    · exact sm_atm atm_none
    · exact ⟨rfl, (Rx.lst (n := 1) (by simp [-po_comp]) fun x hx => by rw [List.mem_singleton.mp hx]; exact i2).mono (by decide) (by decide), fun i e => nomatch e⟩
    · exact sm_atm (atm_bool true)
    · exact ⟨rfl, Rx.emp.mono (by decide) (by decide), fun i e => nomatch e⟩
    · exact ⟨rfl, (Rx.tup (n := 1) (by simp [-po_comp]) fun x hx => by rw [List.mem_singleton.mp hx]; exact i2).mono (by decide) (by decide), fun i e => nomatch e⟩
    · exact sm (by omega) (by omega)
    · exact sm (by omega) (by omega)
  rw [← hws]
  clear hws
  refine po_forD (fun done r => ∃ L s10, Al (22 + 3 * done.length) L ∧ r = [.io c, .v (F.N R), .v (NL zs), .v (.int (zs.length : Nat)), .v (.int (a : Nat)), .v (.int (b' : Nat)), .v (.int (lap : Nat)), .v (.list M), .v (.list U), .o (.l L), s10, .unk, .unk, .unk] ∧ s10.isIo = false ∧ s10.own = none) ws _ ⟨L13, _, by simpa using AL13, rfl, rfl, rfl⟩ ?_ ?_
  · rintro done w rest r e ⟨L, s10, AL, rfl, q10, q10'⟩
    have hw := hwa w (by rw [e]; simp [-po_comp])
    have hdl : done.length < 8 := by
      have := congrArg List.length e
      simp [-po_comp] at this
      omega
    have A := AL.1
    have cl := cutL_le (R.map fun n : Nat => PyData.int (n : Int)) (some 1) none
    rw [List.length_map] at cl
    refine ⟨[.io c, .v (F.N R), .v (NL zs), .v (.int (zs.length : Nat)), .v (.int (a : Nat)), .v (.int (b' : Nat)), .v (.int (lap : Nat)), .v (.list M), .v (.list U), .o (.l L), .v w, .unk, .unk, .unk], by simp [-po_comp, q10], fun K15 h15 _ _ _ => ?_⟩
    simp [-po_comp]
    refine ⟨by omega, by omega, by omega, h15 _ ⟨_, _, AL.app (m := 3) ⟨by simp, fun d hd => ?_⟩ (by simp [-po_comp]; omega), rfl, rfl, rfl⟩⟩
    simp only [List.mem_cons, List.not_mem_nil, or_false] at hd
    rcases hd with rfl | rfl | rfl
    · exact fine2 (ca_row (by simp [-po_comp]) fun x hx => by rw [List.mem_singleton.mp hx]; exact hw) cn1
    · exact fine2 (caR2 hw) cn1
    · exact fine2 (ca_row (by simp [-po_comp]; omega) fun x hx => by
        rcases List.mem_cons.mp hx with rfl | hx
        · exact hw
        · exact sm_atm (aR x (cut_mem hx))) cn1
  rintro r ⟨L14, s10, AL14, rfl, q10, q10'⟩
  refine h14 _ ?_
  refine po_step fun K15 h15 _ _ _ => ?_
  rw [hwl] at AL14
  have A14 := AL14.1
  have hlen : zs.length < 4611686018427387904 := by omega
  simp [-po_comp, frzD_ap, frzT_ap]
  refine po_LC1 (fun k : Nat => .int (k : Int)) (fun k : Nat => .tuple [.int (k : Int), F.N (zs.getD k [])]) (List.range zs.length) ?_ (by simp [-po_comp]) (by simp [-po_comp]; omega) (fun k hk => ?_) ?_
  · simp [-po_comp, rngD0]
    omega
  · have ik := zs_row (zs := zs) (List.mem_range.mp hk)
    simp [-po_comp, ik, -List.getElem?_map]
  have ed := dict_int (n := zs.length) fun k => F.N (zs.getD k [])
  have ed2 := dctOf_odt (kv := (List.range zs.length).map fun k => (k, F.N (zs.getD k []))) fun e => by
    have : zs.length = 0 := by simpa using congrArg List.length e
    omega
  have cd := cn_fdt (n := zs.length) (by omega) (fun k => zs.getD k []) fun k hk => by
    have hm : zs.getD k [] ∈ zs := by
      rw [List.getD, List.getElem?_eq_getElem hk]
      exact List.getElem_mem _
    obtain ⟨g1, g2⟩ := H.num hm
    exact ⟨by omega, fun j hj => by have := g2 j hj; omega⟩
  obtain ⟨O1, hO1⟩ : ∃ O1, O1 = odt ((List.range zs.length).map fun k => (k, F.N (zs.getD k []))) := ⟨_, rfl⟩
  obtain ⟨D1, hD1⟩ : ∃ D1, D1 = fdt ((List.range zs.length).map fun k => (k, F.N (zs.getD k []))) := ⟨_, rfl⟩
  obtain ⟨L1, hL1⟩ : ∃ L1, L1 = (List.range zs.length).map fun k : Nat => PyData.tuple [.int (k : Int), F.N (zs.getD k [])] := ⟨_, rfl⟩
  rw [← hO1] at ed ed2
  rw [← hD1] at ed2 cd
  rw [← hL1] at ed ⊢
  clear hO1 hD1 hL1
  simp [-po_comp, ed, ed2]
  refine po_LC1 (fun x : List Nat => F.N x) (fun x => .tuple [F.N x, .int 0]) zs ?_ (by simp [-po_comp]) (by omega) (fun x hx => ?_) ?_
  · simp [-po_comp]
  · simp [-po_comp]
  have ed3 := dict_N H.nd (.int 0)
  have ed4 := dct_N (zs := zs) (by intro e; rw [e] at h0; simp [-po_comp] at h0) (.int 0)
  have cd2 := cn_dct (zs := zs) (by omega) fun x hx => by
    obtain ⟨g1, g2⟩ := H.num hx
    exact ⟨by omega, fun j hj => by have := g2 j hj; omega⟩
  obtain ⟨O2, hO2⟩ : ∃ O2, O2 = zs.map fun x => (kyN x, PyData.int 0) := ⟨_, rfl⟩
  obtain ⟨D2, hD2⟩ : ∃ D2 : D, D2 = .dict (zs.map fun x => (F.N x, PyData.int 0)) := ⟨_, rfl⟩
  obtain ⟨L2, hL2⟩ : ∃ L2 : List D, L2 = zs.map fun x => .tuple [F.N x, .int 0] := ⟨_, rfl⟩
  rw [← hO2] at ed3 ed4
  rw [← hD2] at ed4 cd2
  rw [← hL2] at ed3 ⊢
  clear hO2 hD2 hL2
  have ed5 := repr_names (ys := zs.map fun x => F.N x) (by simp [-po_comp]; omega) hz
  have cd3 := cn_text (ys := zs.map fun x => F.N x) (by simp [-po_comp]; omega) hz
  obtain ⟨tx, htx⟩ : ∃ tx, tx = (PyData.list (zs.map fun x => F.N x)).shown := ⟨_, rfl⟩
  rw [← htx] at ed5 cd3
  clear htx
  simp [-po_comp, ed3, ed4, ed5]
  refine h15 _ ?_
  obtain ⟨od, hod, hodl, hoda⟩ : ∃ od : List D, od = [D1, D2, .str tx] ∧ od.length = 3 ∧ ∀ d ∈ od, CN d := ⟨_, rfl, rfl, fun d hd => by
    simp only [List.mem_cons, List.not_mem_nil, or_false] at hd
    rcases hd with rfl | rfl | rfl
    · exact cd
    · exact cd2
    · exact cd3⟩
  rw [← hod]
  clear hod
  refine po_step fun K16 h16 _ _ _ => ?_
  simp [-po_comp]
  refine po_LC1 (fun d : D => d) (fun d => .tuple [F.N R, d]) od ?_ (by simp [-po_comp, q10']) (by omega) (fun d hd => ?_) ?_
  · simp [-po_comp]
  · simp [-po_comp]
  simp [-po_comp]
  have h8' : 22 + 3 * 8 = 46 := rfl
  refine ⟨by omega, by omega, h16 _ ?_⟩
  obtain ⟨L15, hL15, AL15⟩ : ∃ L15 : List D, L15 = L14 ++ (od.map (fun d => PyData.tuple [F.N R, d]) ++ [.tuple [.none, NL zs], .tuple [NL zs, NL zs], .tuple [.dict [], NL zs]]) ∧ Al 52 L15 := ⟨_, rfl, AL14.app (m := 6) ⟨by simp [-po_comp]; omega, fun d hd => by
    rcases List.mem_append.mp hd with hd | hd
    · obtain ⟨o, ho, rfl⟩ := List.mem_map.mp hd
      exact fine2 H.ca (hoda o ho)
    · simp only [List.mem_cons, List.not_mem_nil, or_false] at hd
      rcases hd with rfl | rfl | rfl
      · exact fine2 ca_none cn1
      · exact fine2 caN cn1
      · exact fine2 ca_emp cn1⟩ (by decide)⟩
  rw [← hL15]
  clear hL15 AL14
  have A15 := AL15.1
  simp [-po_comp]
  refine ⟨by omega, ?_⟩
  refine hK _ _ _ rfl ⟨_, c, _, rfl, AL15.app (m := 8) ⟨by simp, fun d hd => ?_⟩ (by decide), rfl, hp⟩
  have cE : CN (.list []) := cn_names (by simp [-po_comp]) (by simp [-po_comp])
  have c0 : CA (.tuple []) := ca_row (by simp [-po_comp]) (by simp [-po_comp])
  simp only [List.mem_cons, List.not_mem_nil, or_false] at hd
  rcases hd with rfl | rfl | rfl | rfl | rfl | rfl | rfl | rfl
  · exact fine2 H.ca cE
  · exact fine2 H.ca cn_none
  · exact fine2 c0 (cn_names (by simp [-po_comp]) fun y hy => by
      rw [List.mem_singleton.mp hy]
      exact ⟨by simp, by simp⟩)
  · exact fine_atom rfl (fun _ e => nomatch e) ⟨_, rfl⟩
  · exact fine_atom rfl (fun _ e => nomatch e) ⟨_, repr_atm (atm_int (by omega) (by omega))⟩
  · exact fine_other rfl ((Rx.tup (dp := 1) (bk := 0) (n := 0) (by simp [-po_comp]) (by simp [-po_comp])).mono (by decide) (by decide)) (fun _ _ e => nomatch e) (.inl ⟨_, rfl⟩)
  · refine fine_atom rfl (fun _ e => nomatch e) ⟨_, (cI_eq ..).trans (if_pos ?_)⟩
    decide +kernel
  · exact fine2 c0 cE
end
end K74
namespace K74
open PySem Pu L2
/-! ### the law's own form -/
def fmB (ks : List Nat) (p : Nat × Nat) : Bool := decide (1 < p.1) && decide (p.1 % ks.getD (p.2 - 1) 1 = 0)
theorem fm_iff {ks : List Nat} (hl : ks.length ≤ 6) : (ks.zipIdx 0).all (fmB ks) = true ↔ Fo ks := by
  have mem : ∀ {i x : Nat}, ks[i]? = some x → (x, i) ∈ ks.zipIdx 0 := fun {i x} e => by
    have : (ks.zipIdx 0)[i]? = some (x, i) := by
      rw [List.getElem?_zipIdx, e]
      simp [-po_comp]
    exact List.mem_of_getElem? this
  have mem2 : ∀ {p : Nat × Nat}, p ∈ ks.zipIdx 0 → ks[p.2]? = some p.1 := fun {p} hp => by
    obtain ⟨i, hi, e⟩ := List.getElem_of_mem hp
    have e2 := List.getElem?_eq_getElem hi
    rw [e, List.getElem?_zipIdx] at e2
    cases h : ks[i]? with
    | none =>
      rw [h] at e2
      cases e2
    | some x =>
      rw [h] at e2
      simp [-po_comp] at e2
      subst e2
      simpa using h
  constructor
  · intro h
    have h := List.all_eq_true.mp h
    refine fo_of hl (fun i hi => ?_) fun i x y hi ex ey => ?_
    · refine ⟨ks[i], List.getElem?_eq_getElem hi, ?_⟩
      have := h _ (mem (List.getElem?_eq_getElem hi))
      simp [-po_comp, fmB] at this
      omega
    · have := h _ (mem ey)
      simp [-po_comp, fmB, ex] at this
      exact Nat.dvd_of_mod_eq_zero this.2
  · intro h
    refine List.all_eq_true.mpr fun p hp => ?_
    have e := mem2 hp
    obtain ⟨h1, h2⟩ := fo_step h e
    simp [-po_comp, fmB]
    refine ⟨by omega, ?_⟩
    by_cases c : p.2 = 0
    · rw [c] at e
      rw [c, e]
      simp [-po_comp]
    · have hlt := (List.getElem?_eq_some_iff.mp e).1
      have e2 : ks[p.2 - 1]? = some ks[p.2 - 1] := List.getElem?_eq_getElem (by omega)
      rw [e2]
      exact Nat.mod_eq_zero_of_dvd (h2 _ (by omega) e2)
open Classical in
theorem form_ok {X : Exn → En → Prop} {ks : List Nat} (hl : ks.length ≤ 6) (h1 : ∀ k ∈ ks, 1 ≤ k) : Wp X (m__law_is_form [.v (F.N ks)]) fun rv _ => rv = .v (.bool (decide (Fo ks))) := by
  refine po_fnK fun Y K hY hK _ => ?_
  unfold b__law_is_form
  have ee : enOf [F.N ks] = some ((ks.zipIdx 0).map fun p => .tuple [.int (p.2 : Nat), .int (p.1 : Nat)]) := enOf_t (fun k : Nat => PyData.int (k : Nat)) ks
  simp [-po_comp, ee, po_comp]
  refine po_compM (g := fun p => .bool (fmB ks p)) (fun r => ∃ a b, r = [.v (F.N ks), a, b]) (ks.zipIdx 0) [] _ ⟨_, _, rfl⟩ (by simp [-po_comp]; omega) ?_ ?_
  · rintro ⟨x, k⟩ hp r ⟨a, b, rfl⟩
    refine ⟨[.v (F.N ks), .v (.int (k : Nat)), .v (.int (x : Nat))], by simp, ?_⟩
    obtain ⟨i, hi, e⟩ := List.getElem_of_mem hp
    have e2 := List.getElem?_eq_getElem hi
    rw [e, List.getElem?_zipIdx] at e2
    have hx : ks[k]? = some x := by
      cases h : ks[i]? with
      | none =>
        rw [h] at e2
        cases e2
      | some y =>
        rw [h] at e2
        simp [-po_comp] at e2
        obtain ⟨rfl, rfl⟩ := e2
        exact h
    have hlt := (List.getElem?_eq_some_iff.mp hx).1
    by_cases c1 : 1 < x
    · have c1' : (1 : Int) < (x : Int) := by omega
      obtain ⟨j, hj⟩ : ∃ j : Nat, j = k - 1 := ⟨_, rfl⟩
      have em : maxD (.int 0) (.int ((k : Nat) - 1 : Int)) = some (.int (j : Nat)) := by
        by_cases h0 : k = 0
        · rw [hj, h0]
          rfl
        · have e4 : ((k : Nat) : Int) - 1 = (j : Int) := by omega
          rw [e4]
          by_cases h1 : (0 : Int) < (j : Int)
          · simp [-po_comp, maxD]
            try omega
          · have : j = 0 := by omega
            subst this
            rfl
      have e5 : ks[j]? = some ks[j] := List.getElem?_eq_getElem (by omega)
      have e6 : 1 ≤ ks[j] := h1 _ (List.getElem_mem _)
      have e9 : ¬ ks[j] = 0 := by omega
      have e8 : (x : Int).fmod ((ks[j] : Nat) : Int) = ((x % ks[j] : Nat) : Int) := by
        rw [Int.fmod_eq_emod_of_nonneg _ (by omega)]
        rfl
      have eg : fmB ks (x, k) = decide (x % ks[j] = 0) := by
        simp [-po_comp, fmB, c1, ← hj, e5]
      rw [eg]
      by_cases hd : x % ks[j] = 0
      · simp [-po_comp, c1, c1', em, e5, e9, e8, hd]
      · have hd2 : ¬ ((x % ks[j] : Nat) : Int) = 0 := by omega
        have hd3 : ¬ (x : Int) % ((ks[j] : Nat) : Int) = 0 := hd2
        simp [-po_comp, c1, c1', em, e5, e9, e8, hd]
        try exact hd3
    · have c1' : ¬ (1 : Int) < (x : Int) := by omega
      simp [-po_comp, fmB, c1, c1']
  · rintro r ⟨a, b, rfl⟩
    have e2 : boolsOf ((ks.zipIdx 0).map fun p => PyData.bool (fmB ks p)) = some ((ks.zipIdx 0).map fun p => fmB ks p) := boolsOf_map (fun p => fmB ks p) _
    have e3 : ((ks.zipIdx 0).map fun p => fmB ks p).all id = (ks.zipIdx 0).all (fmB ks) := by
      rw [List.all_map]
      rfl
    simp [-po_comp, e2, -List.all_map]
    refine hK _ _ _ rfl ?_
    have : (ks.zipIdx 0).all (fmB ks) = decide (Fo ks) := by
      rw [Bool.eq_iff_iff, fm_iff hl, decide_eq_true_iff]
    first
      | rw [this]
      | rw [e3, this]
end K74
namespace K74
open PySem Pu L2
theorem repr_tab {n : Nat} {f : Nat → Nat → Nat} (h : n ≤ 16) (hf : ∀ i j, i < n → j < n → f i j < n) : ∃ s, reprZ (.list (tab n f)) = some (.str s) := by
  refine Rx.fine (dp := 3) (bk := 1000) (Rx.mono (Rx.lst (dp := 2) (bk := 16) (n := 16) (by rw [tab_len]; exact h) fun d hd => ?_) (by decide) (by decide)) (by decide) (by decide) (.inr ⟨_, rfl⟩)
  obtain ⟨i, hi, rfl⟩ := List.mem_map.mp hd
  refine (Rx.lst (dp := 1) (bk := 0) (n := 16) (by simpa using h) fun d hd => ?_).mono (by decide) (by decide)
  obtain ⟨j, hj, rfl⟩ := List.mem_map.mp hd
  have := hf i j (List.mem_range.mp hi) (List.mem_range.mp hj)
  exact rx_atm (atm_int (by omega) (by omega))
theorem nmD_map {n : Nat} (nm : Fin n → List Nat) : ((List.range n).map fun i => F.N (nmD nm i)) = ((List.range n).map fun i => nmD nm i).map fun x => F.N x := by
  rw [List.map_map]
  rfl
section
variable {n : Nat} {f : Nat → Nat → Nat} {z : Nat} {G : Grp n f z} {R : List Nat} {nm : Fin n → List Nat}
theorem nm_thr (H : Nmd G R nm) : ∀ x ∈ (List.range n).map (fun i => nmD nm i), Gn.Thr R x := fun x hx => by
  obtain ⟨i, hi, rfl⟩ := List.mem_map.mp hx
  have ei := nmD_at nm ⟨i, List.mem_range.mp hi⟩
  dsimp only at ei
  rw [ei]
  exact H.t _
theorem nm_nd (H : Nmd G R nm) : ((List.range n).map fun i => nmD nm i).Nodup := by
  rw [List.nodup_iff_pairwise_ne, List.pairwise_map]
  refine List.Pairwise.imp_of_mem ?_ (List.nodup_iff_pairwise_ne.mp (List.nodup_range (n := n)))
  intro a b ha hb hab e
  have ea := nmD_at nm ⟨a, List.mem_range.mp ha⟩
  have eb := nmD_at nm ⟨b, List.mem_range.mp hb⟩
  dsimp only at ea eb
  rw [ea, eb] at e
  have := H.inj _ _ e
  exact hab (by injection this)
theorem nm_getD (nm : Fin n → List Nat) {i : Nat} (h : i < n) : ((List.range n).map fun i => nmD nm i).getD i [] = nm ⟨i, h⟩ := by
  rw [List.getD, List.getElem?_map, List.getElem?_range h]
  exact nmD_at nm ⟨i, h⟩
theorem nm_good (H : Nmd G R nm) (hR : Fo R) : Good n f (.tuple [F.N R, NL ((List.range n).map fun i => nmD nm i)]) := by
  refine ⟨R, _, rfl, hR, H.len, by simp, nm_thr H, nm_nd H, fun i j hi hj => ?_⟩
  rw [nm_getD nm hi, nm_getD nm hj, nm_getD nm (G.lt i j hi hj)]
  exact H.ad ⟨i, hi⟩ ⟨j, hj⟩
theorem good_form {zs : List (List Nat)} (h : Good n f (.tuple [F.N R, NL zs])) : Fo R := (good_zs h).1
end
theorem law_true (ns : List Int) (h : ns.length ≤ 63) (hb : ∀ z ∈ ns, Builtin.Int.intBits z ≤ 1048576) : ∃ r, m_law [.v (.list (ns.map .int))] = .ok (.v (.bool true)) r := by
  classical
  refine po_true ?_
  refine po_fnK fun Z K hZ hK _ => ?_
  unfold b_law
  obtain ⟨S0, hS0⟩ : ∃ S0 : D, S0 = .list (ns.map .int) := ⟨_, rfl⟩
  refine po_step fun K1 h1 _ _ _ => ?_
  simp [-po_comp]
  refine po_mono (pen_start ns) ?_
  rintro _ _ ⟨cs, c, rfl, hp⟩
  simp [-po_comp]
  refine h1 _ ?_
  rw [← hS0]
  refine po_step fun K2 h2 _ _ _ => ?_
  simp [-po_comp]
  refine po_mono (house_ok hp (by omega)) ?_
  rintro _ _ ⟨hs, c, t, rfl, H, rfl, hp⟩
  simp [-po_comp]
  refine h2 _ ?_
  refine po_step fun K3 h3 _ _ _ => ?_
  simp [-po_comp]
  refine po_mono (mixed_ok hp (by omega) H) ?_
  rintro _ _ ⟨L, c, t, rfl, pL, rfl, hp⟩
  simp [-po_comp]
  refine h3 _ ?_
  have O := lok H pL
  obtain ⟨ks, hks⟩ := F.toNs hs fun x hx => by have := H.2.1 x hx; omega
  subst hks
  have kl : ks.length ≤ 4 := by simpa using H.1
  have kb : ∀ k ∈ ks, 1 ≤ k ∧ k ≤ 16 := fun k hk => by
    have := H.2.1 (k : Int) (F.IN_mem hk)
    omega
  obtain ⟨nmH, NH, atH⟩ := nmd_house H.ho O
  have G := grp H.ho O
  have h16 := G.n16
  refine po_step fun K4 h4 _ _ _ => ?_
  simp [-po_comp]
  refine po_mono (table_ok H.ho O) ?_
  rintro _ _ rfl
  simp [-po_comp]
  refine h4 _ ?_
  have eL : (L.map fun a => T a) = ((List.range L.length).map fun i => nmD nmH i).map fun x => F.N x := by
    rw [map_rng (fun a => T a) [] L, List.map_map]
    refine List.map_congr_left fun i hi => ?_
    have hi := List.mem_range.mp hi
    have := atH ⟨i, hi⟩
    have ei := nmD_at nmH ⟨i, hi⟩
    dsimp only at this ei
    show T (L.getD i []) = F.N (nmD nmH i)
    rw [List.getD, this, ei, F.NT]
    rfl
  have eT : T (F.IN ks) = F.N ks := (F.NT ks).symm
  rw [eL]
  obtain ⟨zh, hzh⟩ : ∃ zh, zh = (List.range L.length).map fun i => nmD nmH i := ⟨_, rfl⟩
  have zhn : zh.length ≤ 16 := by rw [hzh]; simpa using h16
  have zht : ∀ x ∈ zh, Gn.Thr ks x := by rw [hzh]; exact nm_thr NH
  have goodH : Good L.length (tf (F.IN ks) L) (.tuple [F.N ks, NL zh]) ↔ Fo ks := ⟨good_form, fun h => by rw [hzh]; exact nm_good NH h⟩
  rw [← hzh]
  clear hzh eL
  generalize tf (F.IN ks) L = f at G goodH
  generalize L.idxOf (no (F.IN ks)) = z at G
  generalize L.length = n at G h16 goodH
  have hn0 := G.zn
  refine po_step fun K5 h5 _ _ _ => ?_
  simp [-po_comp]
  refine po_mono (names_ok G) ?_
  rintro _ _ ⟨R, nm, rfl, N1, N2, N3⟩
  rw [nmD_map]
  obtain ⟨l4, b16⟩ := N1.few N2
  have FR : Fo R := ⟨by omega, N2, N3⟩
  have goodN := nm_good N1 FR
  have NB : Nb R ((List.range n).map fun i => nmD nm i) := ⟨FR, l4, b16, by simpa using h16, by simp [-po_comp]; omega, nm_thr N1, nm_nd N1⟩
  obtain ⟨zs, hzs⟩ : ∃ zs, zs = (List.range n).map fun i => nmD nm i := ⟨_, rfl⟩
  rw [← hzs] at goodN NB ⊢
  clear hzs N1
  simp [-po_comp]
  refine h5 _ ?_
  refine po_step fun K6 h6 _ _ _ => ?_
  simp [-po_comp]
  rw [eT]
  refine po_mono (each_ok NB) ?_
  rintro _ _ ⟨E, rfl, AE⟩
  have AEl := AE.1
  simp [-po_comp]
  refine ⟨by omega, h6 _ ?_⟩
  have fine1 : Fine (.tuple [F.N R, NL zs]) := fine2 NB.ca (cn_names (by simp [-po_comp]; have := NB.n; omega) NB.nme)
  have nmeH : ∀ y ∈ zh.map (fun x => F.N x), Nme y := fun y hy => by
    obtain ⟨x, hx, rfl⟩ := List.mem_map.mp hy
    have t := zht x hx
    have := thr_len t
    exact nme_N (by omega) fun k hk => by have := thr_lt (fun r hr => (kb r hr).2) t k hk; omega
  have fine2' : Fine (.tuple [F.N ks, NL zh]) := fine2 (ca_row (by simp [-po_comp]; omega) fun x hx => by
    obtain ⟨r, hr, rfl⟩ := List.mem_map.mp hx
    have := kb r hr
    exact sm_atm (atm_int (by omega) (by omega))) (cn_names (by simp [-po_comp]; omega) nmeH)
  obtain ⟨W, hW, AW⟩ : ∃ W : List D, W = .tuple [F.N R, NL zs] :: .tuple [F.N ks, NL zh] :: E ∧ Al 322 W := ⟨_, rfl, by simp [-po_comp]; omega, fun d hd => by
    rcases List.mem_cons.mp hd with rfl | hd
    · exact fine1
    · rcases List.mem_cons.mp hd with rfl | hd
      · exact fine2'
      · exact AE.2 d hd⟩
  rw [← hW]
  clear hW AE AEl
  refine po_step fun K7 h7 _ _ _ => ?_
  simp [-po_comp]
  refine po_rngK (fun i r => ∃ (c : Ct) (W : List D) (s8 : Sl), PenB cs (17 + 3 * i) c ∧ Al (322 + 100 * i) W ∧ r = [.v S0, .o c, .v (F.N ks), .v (NL zh), .v (.list (tab n f)), .v (F.N R), .v (NL zs), .v (.list W), s8, .unk, .unk, .unk, .unk] ∧ s8.isIo = false) 2 _ ⟨c, W, _, by simpa using hp, by simpa using AW, rfl, rfl⟩ ?_ ?_
  · rintro i r hi ⟨c, W, s8, hp, AW, rfl, q8⟩
    refine ⟨[.v S0, .o c, .v (F.N ks), .v (NL zh), .v (.list (tab n f)), .v (F.N R), .v (NL zs), .v (.list W), .v (.int (0 + (i : Nat))), .unk, .unk, .unk, .unk], by simp [-po_comp, q8], fun K8 h8 _ _ _ => ?_⟩
    simp [-po_comp]
    refine po_mono (bent_ok hp (by omega) NB) ?_
    rintro _ _ ⟨L, c, t, rfl, AL, rfl, hp⟩
    have := AW.1
    have := AL.1
    simp [-po_comp]
    refine ⟨by omega, h8 _ ⟨c, _, _, hp.le (by omega), AW.app AL (by omega), rfl, rfl⟩⟩
  rintro r ⟨c, W, s8, hp, AW, rfl, q8⟩
  refine h7 _ ?_
  refine po_step fun K8 h8 _ _ _ => ?_
  obtain ⟨tt, ett⟩ := repr_tab h16 G.lt
  simp [-po_comp, ett]
  refine h8 _ ?_
  refine po_step fun K9 h9 _ _ _ => ?_
  simp [-po_comp]
  refine po_forD (fun done r => ∃ s10 s11 s12, r = [.v S0, .o c, .v (F.N ks), .v (NL zh), .v (.list (tab n f)), .v (F.N R), .v (NL zs), .v (.list W), s8, .v (.str tt), s10, s11, s12] ∧ s10.isIo = false ∧ s11.isIo = false ∧ s12.isIo = false) W _ ⟨_, _, _, rfl, rfl, rfl, rfl⟩ ?_ ?_
  · rintro done d rest r e ⟨s10, s11, s12, rfl, q10, q11, q12⟩
    obtain ⟨d1, d2, d3, td, etd⟩ := AW.2 d (by rw [e]; simp [-po_comp])
    refine ⟨[.v S0, .o c, .v (F.N ks), .v (NL zh), .v (.list (tab n f)), .v (F.N R), .v (NL zs), .v (.list W), s8, .v (.str tt), .v d, s11, s12], by simp [-po_comp, q10], fun K10 h10 _ _ _ => ?_⟩
    refine po_step fun K11 h11 _ _ _ => ?_
    simp [-po_comp, etd, q11]
    refine h11 _ ?_
    refine po_step fun K12 h12 _ _ _ => ?_
    simp [-po_comp]
    refine po_mono (lets_gen G d d1 d2) ?_
    rintro _ _ rfl
    simp [-po_comp, q12]
    refine h12 _ ?_
    obtain ⟨bb, hbb⟩ : ∃ bb, bb = decide (Good n f d) := ⟨_, rfl⟩
    rw [← hbb]
    refine po_step fun K13 h13 _ _ _ => ?_
    simp [-po_comp]
    refine po_mono (is_named_gen G d d1 d2 d3) ?_
    rintro _ _ rfl
    rw [← hbb]
    simp [-po_comp]
    refine h13 _ ?_
    simp [-po_comp, etd, ett]
    exact h10 _ ⟨_, _, _, rfl, rfl, rfl, rfl⟩
  · rintro r ⟨s10, s11, s12, rfl, q10, q11, q12⟩
    refine h9 _ ?_
    simp [-po_comp]
    refine po_mono (lets_gen G _ fine1.1 fine1.2.1) ?_
    rintro _ _ rfl
    rw [decide_eq_true goodN]
    simp [-po_comp]
    refine po_mono (lets_gen G _ fine2'.1 fine2'.2.1) ?_
    rintro _ _ rfl
    simp [-po_comp]
    refine po_mono (form_ok (by omega) fun k hk => (kb k hk).1) ?_
    rintro _ _ rfl
    have : decide (Good n f (.tuple [F.N ks, NL zh])) = decide (Fo ks) := by rw [decide_eq_decide]; exact goodH
    rw [this]
    simp [-po_comp]
    exact hK _ _ _ rfl rfl
end K74
open PySem PySem.W PySem.Calls PyProof.Rows
theorem PySem.Challenge.cw_commonhouse_k74_names_looked_at_holds : PySem.Challenge.rw_commonhouse_k74_names_looked_at.Holds := by
  w_on; o_law
  refine HandSHeadRun.head_any (r := OpenLaw.row PySem.Challenge.rw_commonhouse_k74_names_looked_at) (q := view (OpenLaw.row PySem.Challenge.rw_commonhouse_k74_names_looked_at).prog [41]) (H := K74.hk) (ob := K74.ob) (M := 27200) (loose := K74.lo) (d := HandSHeadRun.topDef (OpenLaw.row PySem.Challenge.rw_commonhouse_k74_names_looked_at).prog 41) (kwd := []) K74.ob_eq
    (by kernel_rfl) (fun s => by kernel_rfl) K74.run (by kernel_rfl) (by kernel_rfl) (by kernel_rfl) (by rfl) (by first | assumption | decide +kernel) (by decide +kernel) ⟨rfl, rfl, rfl, rfl, rfl, by decide +kernel⟩ ?hw ?hc
  case hw => w_witness2
  case hc =>
    refine Pu.walk_ofP (l := PySem.Challenge.rw_commonhouse_k74_names_looked_at) (n := 63) (k := 6) (x := "_law_script") rfl (by decide) (by kernel_rfl) ⟨⟨rfl, by decide, by decide⟩, rfl, by decide⟩ (by kernel_rfl) ?F
    intro w mg fa h Y G hmg0
    obtain ⟨K, KX, c, l⟩ := Y
    have hmg : mg ("law" : PySem.Str) = some (.ref fa) := by
      have e : (HandSHeadRun.topDef (OpenLaw.row PySem.Challenge.rw_commonhouse_k74_names_looked_at).prog 41).name = ("law" : PySem.Str) := by kernel_rfl
      rw [← e]
      exact hmg0
    obtain ⟨fd, hb, hF⟩ := K74.facts (P := (PySem.Challenge.rw_commonhouse_k74_names_looked_at).prog) (w := w) KX G hmg (by rfl) c l
    have cs := l.cs KX
    exact ⟨K, fd, Pu.csN K74.ln K, _, KX, cs.1, cs.2.1, cs.2.2, hb, fun H a ns hl hb hH hS => K74.sp_law (K74.law_true ns hl hb) H a hS (Pu.tabs_start hH), hF⟩
