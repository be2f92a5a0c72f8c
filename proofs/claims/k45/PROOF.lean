import PyProof.Rows.All
import Wide.All
import OpenK.AllK
import Wide.FinOn
import HandS.Base
import HandS.Call
import HandS.List
import HandS.Comp
import HandS.Ends
import HandS.Dict
import HandS.Iter
import HandS.Text
import HandS.Exc
import HandS.ExcOwn
import HandS.Words
import HandS.WordsList
import HandS.WordsDict
import HandS.WordsExc
import HandS.Flow
import HandS.Wide
import HandS.IsInst
import HandS.Zip
import HandS.TupAny
import HandS.TupMul
import HandS.Style
import HandS.CallSlots
import HandS.Defaults
import PyProof.EqLayable
import PyProof.ReprReads
import HandS.HeadHook1
import HandS.ExcIs
import KE.KExcIs
import HandS.Lambda
import HandS.NoneIn
import KE.GoesEnum
import KE.GoesNew
import HandS.Small
import PyProof.ReprRoads
import HandS.RaiseMore
import HandS.Deep
import HandS.HeadHook3
import HandS.SetFor
import HandS.More
import KE.GoesZip
import KE.GoesMore
import HandS.ExcValue
import HandS.Strs
import HandS.SortInts
import HandS.ExcInit
import HandS.ExcField
import KE.KNestM
import KE.DataFind
import HandS.Conv
import KE.DatumOrd
import HandS.SortKw
import PyProof.StrBlock2
import KE.SortData
import KE.KDictDisplayH
import HandS.SortOrd
import KE.KStateDown
import HandS.EndTab
import Lean
import HandS.Head0
import HandS.Head1
import HandS.Head2
import HandS.HeadEnd
import HandS.HeadHook2
import HandS.EndBits
import PySem.Challenge.RW_commonhouse_k45_sizes_and_things
set_option Elab.async false
set_option linter.all false
set_option maxRecDepth 100000
set_option maxHeartbeats 2000000
set_option autoImplicit false
set_option exponentiation.threshold 2000
namespace Pu
open PySem PySem.Spec PyProof.Rows L2

/-! ### data, results, slots -/
abbrev D := PySem.PyData
structure Exn where
  name : Str
  flds : List (Str × D)
/-- what an owned object holds -/
inductive Ct where
  | l (ds : List D) | d (kvs : List (Key × D)) | t (kvs : List (List Key × D))
/-- what is handed back: data that nobody changes, or an object of one's own -/
inductive RV where
  | v (d : D) | o (c : Ct)
/-- a slot: not known, data, an owned object, an owned object of the caller's -/
inductive Sl where
  | unk | v (d : D) | o (c : Ct) | io (c : Ct)
abbrev En := List Sl
inductive Re (α : Type) where
  | ok (a : α) (r : En) | ex (e : Exn) (r : En) | no
abbrev M (α : Type) := En → Re α
def Re.bind {α β : Type} (r : Re α) (f : α → M β) : Re β := match r with
  | .ok a r => f a r
  | .ex e r => .ex e r
  | .no => .no
def M.bind {α β : Type} (m : M α) (f : α → M β) : M β := fun r => (m r).bind f
def M.ret {α : Type} (a : α) : M α := fun r => .ok a r
def M.no {α : Type} : M α := fun _ => .no
def M.opt {α : Type} (o : Option α) : M α := fun r => match o with
  | some a => .ok a r
  | none => .no
@[simp] theorem Re.bind_ok {α β : Type} (a : α) (r : En) (f : α → M β) : (Re.ok a r).bind f = f a r := rfl
@[simp] theorem Re.bind_ex {α β : Type} (e : Exn) (r : En) (f : α → M β) : (Re.ex e r : Re α).bind f = .ex e r := rfl
@[simp] theorem Re.bind_no {α β : Type} (f : α → M β) : (Re.no : Re α).bind f = .no := rfl
@[simp] theorem M.bind_ap {α β : Type} (m : M α) (f : α → M β) (r : En) : m.bind f r = (m r).bind f := rfl
@[simp] theorem M.ret_ap {α : Type} (a : α) (r : En) : M.ret a r = .ok a r := rfl
@[simp] theorem M.no_ap {α : Type} (r : En) : (M.no : M α) r = .no := rfl
@[simp] theorem M.opt_some {α : Type} (a : α) (r : En) : M.opt (some a) r = .ok a r := rfl
@[simp] theorem M.opt_none {α : Type} (r : En) : (M.opt none : M α) r = .no := rfl

def Po {α : Type} (X : Exn → En → Prop) (r : Re α) (k : α → En → Prop) : Prop := match r with
  | .ok a r => k a r
  | .ex e r => X e r
  | .no => False
theorem Po.bind {α β : Type} {X : Exn → En → Prop} {r : Re α} {f : α → M β} {k : β → En → Prop} (h : Po X (r.bind f) k) : Po X r fun a r' => Po X (f a r') k := by
  cases r <;> exact h
theorem Po.mono {α : Type} {X X' : Exn → En → Prop} {r : Re α} {k k' : α → En → Prop} (h : Po X r k) (hX : ∀ e r, X e r → X' e r) (hk : ∀ a r, k a r → k' a r) : Po X' r k' := by
  cases r with
  | ok a r => exact hk _ _ h
  | ex e r => exact hX _ _ h
  | no => exact h

/-! ### heaps -/
/-- all stays; tables of code objects may grow -/
structure Ex (H H' : Hp) : Prop where
  at_ : ∀ a o, H a = some o → (∀ ps, o ≠ .tbl ps) → H' a = some o
  tb : ∀ a ps, H a = some (.tbl ps) → ∃ more, H' a = some (.tbl (ps ++ more))
theorem Ex.of {H H' : Hp} (h : ∀ a o, H a = some o → H' a = some o) : Ex H H' := ⟨fun a o e _ => h a o e, fun a ps e => ⟨#[], by rw [Array.append_empty]; exact h a _ e⟩⟩
theorem Ex.refl (H : Hp) : Ex H H := .of fun _ _ h => h
theorem Ex.trans {H H1 H2 : Hp} (a : Ex H H1) (b : Ex H1 H2) : Ex H H2 := ⟨fun x o h n => b.at_ x o (a.at_ x o h n) n, fun x ps h => by
  obtain ⟨m1, h1⟩ := a.tb x ps h
  obtain ⟨m2, h2⟩ := b.tb x _ h1
  exact ⟨m1 ++ m2, by rw [h2, Array.append_assoc]⟩⟩
theorem Ex.new {H : Hp} {p : Addr} {o : HO} (h : H p = none) : Ex H (upd H p o) := .of fun a u e => by
  rw [upd_ne (ne_of_none e h)]
  exact e
theorem Ex.some {H H' : Hp} {p : Addr} {o : HO} (e : Ex H H') (h : H p = some o) : ∃ o', H' p = some o' := by
  by_cases n : ∃ ps, o = .tbl ps
  · obtain ⟨ps, rfl⟩ := n
    obtain ⟨m, hm⟩ := e.tb p ps h
    exact ⟨_, hm⟩
  · exact ⟨o, e.at_ p o h fun ps z => n ⟨ps, z⟩⟩
theorem Ex.nn {H H' : Hp} {p : Addr} (e : Ex H H') (h : H' p = none) : H p = none := by
  cases h1 : H p with
  | none => rfl
  | some o =>
    obtain ⟨o', h2⟩ := e.some h1
    rw [h2] at h
    cases h
theorem Ex.mut {H H' : Hp} {p : Addr} {o : HO} (e : Ex H H') (h : H p = none) : Ex H (upd H' p o) := ⟨fun a u ha n => by
  rw [upd_ne (ne_of_none ha h)]
  exact e.at_ a u ha n, fun a ps ha => by
  rw [upd_ne (ne_of_none ha h)]
  exact e.tb a ps ha⟩
/-- the tables of code objects that are looked after -/
class TabT where
  T : PySem.W.Frag → List (Addr × Str)
theorem Ex.rd {H H' : Hp} {a : Addr} {u : HO} (e : Ex H H') (h : Rd H a u) (n : ∀ ps, u ≠ .tbl ps) : Rd H' a u := by
  rcases h with h | ⟨o, h⟩
  · exact Or.inl (e.at_ a _ h n)
  · exact Or.inr ⟨o, e.at_ a _ h fun ps z => nomatch z⟩
theorem Ex.l {K : PySem.W.Frag} {H H' : Hp} {a : Addr} {xs : List V} (e : Ex H H') (h : SqL K H a xs) : SqL K H' a xs := by
  rcases h with h | h
  · exact Or.inl (e.rd h fun ps z => nomatch z)
  · exact Or.inr h
theorem Ex.t {K : PySem.W.Frag} {H H' : Hp} {a : Addr} {xs : List V} (e : Ex H H') (h : SqT K H a xs) : SqT K H' a xs := by
  rcases h with h | h
  · exact Or.inl (e.rd h fun ps z => nomatch z)
  · exact Or.inr h
/-- an exception that was caught: its class, its dict -/
def CauO (cls : Value) (d : Option Addr) (a : Addr) : HO := .ext fun h => ∃ (oe : Obj) (vs : Array Value), h.get? a = some oe ∧ Zc cls d oe ∧ oe.data = .fields vs
theorem cau_ne {cls : Value} {d : Option Addr} {a : Addr} (ps : Array Value) : CauO cls d a ≠ .tbl ps := fun z => by
  unfold CauO at z
  cases z
/-- a tuple that is tracked -/
def SqU (H : Hp) (a : Addr) (xs : List V) : Prop := H a = some (.tup xs)
theorem SqU.s {K : PySem.W.Frag} {H : Hp} {a : Addr} {xs : List V} (h : SqU H a xs) : SqT K H a xs := .inl (.inl h)
instance {K : PySem.W.Frag} {H : Hp} {a : Addr} {xs : List V} : Coe (SqU H a xs) (SqT K H a xs) := ⟨SqU.s⟩
theorem Ex.u {H H' : Hp} {a : Addr} {xs : List V} (e : Ex H H') (h : SqU H a xs) : SqU H' a xs := e.at_ _ _ h fun ps z => nomatch z
def basicT : List String := ["int", "bool", "tuple", "list", "str", "dict"]
/-- the class nm of the program: isinstance asks its instances rightly -/
structure ExcK (K : PySem.W.Frag) (nm : Str) : Prop where
  c : ExcC K (He.ga K nm)
  t : ∀ T ∈ basicT, PySem.W.kitOne K (.ref (He.ga K nm)) (.type T) = some false
mutual
/-- v stands for the data d, by what is frozen -/
inductive Rp (K : PySem.W.Frag) (H : Hp) : V → D → Prop
  | non : Rp K H .non .none
  | bl (b : Bool) : Rp K H (.bl b) (.bool b)
  | int (i : Int) : Rp K H (.int i) (.int i)
  | str (x : Str) : Rp K H (.str x) (.str x)
  | lst {a : Addr} {xs : List V} {ds : List D} : SqL K H a xs → RpAll K H xs ds → Rp K H (.ref a) (.list ds)
  | tup {a : Addr} {xs : List V} {ds : List D} : SqU H a xs → RpAll K H xs ds → Rp K H (.ref a) (.tuple ds)
  | emp {a : Addr} : H a = some (.dK []) → Rp K H (.ref a) (.dict [])
  | exc0 {a : Addr} {nm : Str} : H a = some (CauO (.ref (He.ga K nm)) none a) → ExcK K nm → Rp K H (.ref a) (.dict [(.str nm, .none)])
  | excF {a dd : Addr} {nm : Str} {fs : List (Str × V)} {kv : List (D × D)} : H a = some (CauO (.ref (He.ga K nm)) (some dd) a) → H dd = some (.xd fs) → ExcK K nm → kv.map (·.1) = fs.map (fun p => PyData.str p.1) → RpAll K H (fs.map (·.2)) (kv.map (·.2)) → Rp K H (.ref a) (.dict ((.str nm, .none) :: kv))
inductive RpAll (K : PySem.W.Frag) (H : Hp) : List V → List D → Prop
  | nil : RpAll K H [] []
  | cons {v : V} {vs : List V} {d : D} {ds : List D} : Rp K H v d → RpAll K H vs ds → RpAll K H (v :: vs) (d :: ds)
end
mutual
theorem rp_dp0 {K : PySem.W.Frag} {H : Hp} : ∀ {v : V} {d : D}, Rp K H v d → d.hasDict = false → Dp K H v d
  | _, _, .non, _ => .non
  | _, _, .bl b, _ => .bl b
  | _, _, .int i, _ => .int i
  | _, _, .str x, _ => .str x
  | _, _, .lst h a, e => .lst h (rpa_dpa0 a (by simpa [PyData.hasDict] using e))
  | _, _, .tup h a, e => .tup h (rpa_dpa0 a (by simpa [PyData.hasDict] using e))
  | _, _, .emp _, e => by simp [PyData.hasDict] at e
  | _, _, .exc0 _ _, e => by simp [PyData.hasDict] at e
  | _, _, .excF _ _ _ _ _, e => by simp [PyData.hasDict] at e
theorem rpa_dpa0 {K : PySem.W.Frag} {H : Hp} : ∀ {vs : List V} {ds : List D}, RpAll K H vs ds → PyData.hasDictAll ds = false → DpAll K H vs ds
  | _, _, .nil, _ => .nil
  | _, _, .cons h t, e => by
    simp only [PyData.hasDictAll, Bool.or_eq_false_iff] at e
    exact .cons (rp_dp0 h e.1) (rpa_dpa0 t e.2)
end
theorem rp_dp {K : PySem.W.Frag} {H : Hp} {v : V} {d : D} (h : Rp K H v d) (s : SeqAt.shaped d = true) : Dp K H v d := rp_dp0 h (PyData.hasDict_of_canLay d (SeqAt.canLay_of_shaped s))
mutual
theorem dp_mono {K : PySem.W.Frag} {H H' : Hp} (e : Ex H H') : ∀ {v : V} {d : D}, Rp K H v d → Rp K H' v d
  | _, _, .non => .non
  | _, _, .bl b => .bl b
  | _, _, .int i => .int i
  | _, _, .str x => .str x
  | _, _, .lst h a => .lst (e.l h) (dpa_mono e a)
  | _, _, .tup h a => .tup (e.u h) (dpa_mono e a)
  | _, _, .emp h => .emp (e.at_ _ _ h fun ps z => nomatch z)
  | _, _, .exc0 h x => .exc0 (e.at_ _ _ h cau_ne) x
  | _, _, .excF h h2 x y a => .excF (e.at_ _ _ h cau_ne) (e.at_ _ _ h2 fun ps z => nomatch z) x y (dpa_mono e a)
theorem dpa_mono {K : PySem.W.Frag} {H H' : Hp} (e : Ex H H') : ∀ {vs : List V} {ds : List D}, RpAll K H vs ds → RpAll K H' vs ds
  | _, _, .nil => .nil
  | _, _, .cons h t => .cons (dp_mono e h) (dpa_mono e t)
end
theorem dpa_len {K : PySem.W.Frag} {H : Hp} : ∀ {vs : List V} {ds : List D}, RpAll K H vs ds → vs.length = ds.length
  | _, _, .nil => rfl
  | _, _, .cons _ t => congrArg Nat.succ (dpa_len t)
theorem dpa_get {K : PySem.W.Frag} {H : Hp} : ∀ {vs : List V} {ds : List D} {i : Nat} {d : D}, RpAll K H vs ds → ds[i]? = some d → ∃ v, vs[i]? = some v ∧ Rp K H v d
  | _, _, _, _, .nil, e => by simp at e
  | _, _, 0, _, .cons h _, e => by
    simp at e
    subst e
    exact ⟨_, rfl, h⟩
  | _, _, i + 1, d, .cons _ t, e => by
    obtain ⟨v, h1, h2⟩ := dpa_get (i := i) (d := d) t (by simpa using e)
    exact ⟨v, by simpa using h1, h2⟩
theorem dpa_get' {K : PySem.W.Frag} {H : Hp} {vs : List V} {ds : List D} {i : Nat} {v : V} (h : RpAll K H vs ds) (e : vs[i]? = some v) : ∃ d, ds[i]? = some d ∧ Rp K H v d := by
  have hl := dpa_len h
  have hi : i < vs.length := (List.getElem?_eq_some_iff.mp e).1
  have e2 : ds[i]? = some ds[i] := List.getElem?_eq_getElem (by omega)
  obtain ⟨v', h1, h2⟩ := dpa_get h e2
  rw [e] at h1
  cases h1
  exact ⟨_, e2, h2⟩
theorem dpa_app {K : PySem.W.Frag} {H : Hp} : ∀ {vs ws : List V} {ds es : List D}, RpAll K H vs ds → RpAll K H ws es → RpAll K H (vs ++ ws) (ds ++ es)
  | _, _, _, _, .nil, h => h
  | _, _, _, _, .cons h t, q => .cons h (dpa_app t q)
theorem dpa_take {K : PySem.W.Frag} {H : Hp} : ∀ (n : Nat) {vs : List V} {ds : List D}, RpAll K H vs ds → RpAll K H (vs.take n) (ds.take n)
  | 0, _, _, _ => .nil
  | _ + 1, _, _, .nil => .nil
  | n + 1, _, _, .cons h t => .cons h (dpa_take n t)
theorem dpa_drop {K : PySem.W.Frag} {H : Hp} : ∀ (n : Nat) {vs : List V} {ds : List D}, RpAll K H vs ds → RpAll K H (vs.drop n) (ds.drop n)
  | 0, _, _, h => h
  | _ + 1, _, _, .nil => .nil
  | n + 1, _, _, .cons _ t => dpa_drop n t
theorem dpa_set {K : PySem.W.Frag} {H : Hp} {v : V} {d : D} (h : Rp K H v d) : ∀ (i : Nat) {vs : List V} {ds : List D}, RpAll K H vs ds → RpAll K H (vs.set i v) (ds.set i d)
  | _, _, _, .nil => .nil
  | 0, _, _, .cons _ t => .cons h t
  | i + 1, _, _, .cons q t => .cons q (dpa_set h i t)
theorem dpa_rev {K : PySem.W.Frag} {H : Hp} : ∀ {vs : List V} {ds : List D}, RpAll K H vs ds → RpAll K H vs.reverse ds.reverse
  | _, _, .nil => .nil
  | _, _, .cons h t => by
    rw [List.reverse_cons, List.reverse_cons]
    exact dpa_app (dpa_rev t) (.cons h .nil)
theorem dpa_erase {K : PySem.W.Frag} {H : Hp} : ∀ (i : Nat) {vs : List V} {ds : List D}, RpAll K H vs ds → RpAll K H (vs.eraseIdx i) (ds.eraseIdx i)
  | _, _, _, .nil => .nil
  | 0, _, _, .cons _ t => t
  | i + 1, _, _, .cons q t => .cons q (dpa_erase i t)
theorem dpa_rep {K : PySem.W.Frag} {H : Hp} {vs : List V} {ds : List D} (h : RpAll K H vs ds) : ∀ n : Nat, RpAll K H (List.replicate n vs).flatten (List.replicate n ds).flatten
  | 0 => .nil
  | n + 1 => by
    rw [List.replicate_succ, List.replicate_succ, List.flatten_cons, List.flatten_cons]
    exact dpa_app h (dpa_rep h n)
theorem dpa_ints {K : PySem.W.Frag} {H : Hp} : ∀ (ns : List Int), RpAll K H (ns.map V.int) (ns.map PyData.int)
  | [] => .nil
  | n :: ns => .cons (.int n) (dpa_ints ns)
/-- the pairs of a dict -/
inductive KvAll (K : PySem.W.Frag) (F : Hp) {κ : Type} : List (κ × V) → List (κ × D) → Prop
  | nil : KvAll K F [] []
  | cons {k : κ} {v : V} {d : D} {ks : List (κ × V)} {kvs : List (κ × D)} : Rp K F v d → KvAll K F ks kvs → KvAll K F ((k, v) :: ks) ((k, d) :: kvs)
theorem KvAll.mono {K : PySem.W.Frag} {F F' : Hp} {κ : Type} (e : Ex F F') : ∀ {ks : List (κ × V)} {kvs : List (κ × D)}, KvAll K F ks kvs → KvAll K F' ks kvs
  | _, _, .nil => .nil
  | _, _, .cons h t => .cons (dp_mono e h) (KvAll.mono e t)
/-- the object at a holds c -/
def CtOk (K : PySem.W.Frag) (F H : Hp) (a : Addr) : Ct → Prop
  | .l ds => ∃ vs, H a = some (.lst vs) ∧ RpAll K F vs ds
  | .d kvs => ∃ ks, H a = some (.dK ks) ∧ KvAll K F ks kvs
  | .t kvs => ∃ ks, H a = some (.dT ks) ∧ KvAll K F ks kvs
theorem CtOk.mono {K : PySem.W.Frag} {F F' H H' : Hp} {a : Addr} {c : Ct} (h : CtOk K F H a c) (e : Ex F F') (eH : H' a = H a) : CtOk K F' H' a c := by
  cases c with
  | l ds =>
    obtain ⟨vs, h1, h2⟩ := h
    exact ⟨vs, eH.trans h1, dpa_mono e h2⟩
  | d kvs =>
    obtain ⟨ks, h1, h2⟩ := h
    exact ⟨ks, eH.trans h1, KvAll.mono e h2⟩
  | t kvs =>
    obtain ⟨ks, h1, h2⟩ := h
    exact ⟨ks, eH.trans h1, KvAll.mono e h2⟩
theorem CtOk.there {K : PySem.W.Frag} {F H : Hp} {a : Addr} {c : Ct} (h : CtOk K F H a c) : ∃ o, H a = some o := by
  cases c with
  | l ds =>
    obtain ⟨vs, h1, h2⟩ := h
    exact ⟨_, h1⟩
  | d kvs =>
    obtain ⟨ks, h1, h2⟩ := h
    exact ⟨_, h1⟩
  | t kvs =>
    obtain ⟨ks, h1, h2⟩ := h
    exact ⟨_, h1⟩

theorem CtOk.there' {K : PySem.W.Frag} {F H : Hp} {a : Addr} {c : Ct} (h : CtOk K F H a c) : ∃ o, H a = some o ∧ ∀ ps, o ≠ .tbl ps := by
  cases c with
  | l ds =>
    obtain ⟨vs, h1, h2⟩ := h
    exact ⟨_, h1, fun ps z => nomatch z⟩
  | d kvs =>
    obtain ⟨ks, h1, h2⟩ := h
    exact ⟨_, h1, fun ps z => nomatch z⟩
  | t kvs =>
    obtain ⟨ks, h1, h2⟩ := h
    exact ⟨_, h1, fun ps z => nomatch z⟩
theorem tabs_upd {T : List (Addr × Str)} {H : Hp} {a : Addr} {o u : HO} (t : LamX.Tabs T H) (h1 : H a = some u) (n1 : ∀ ps, u ≠ .tbl ps) (n2 : ∀ c q, u ≠ LamX.CodeO c q) : LamX.Tabs T (upd H a o) := by
  intro p hp
  obtain ⟨ps, e1, e2, e3⟩ := t p hp
  refine ⟨ps, ?_, e2, fun pos cv hcv => ?_⟩
  · rw [upd_ne fun z => n1 ps (by rw [z, h1] at e1; exact Option.some.inj e1)]
    exact e1
  · obtain ⟨c, g1, g2⟩ := e3 pos cv hcv
    refine ⟨c, g1, ?_⟩
    rw [upd_ne fun z => n2 c p.2 (by rw [z, h1] at g2; rw [z]; exact Option.some.inj g2)]
    exact g2
theorem tabs_lst {T : List (Addr × Str)} {H : Hp} {a : Addr} {o : HO} {vs : List V} (t : LamX.Tabs T H) (h : H a = some (.lst vs)) : LamX.Tabs T (upd H a o) := tabs_upd t h (fun ps z => nomatch z) (fun c q z => by unfold LamX.CodeO at z; cases z)
theorem tabs_new {T : List (Addr × Str)} {H : Hp} {a : Addr} {o : HO} (t : LamX.Tabs T H) (h : H a = none) : LamX.Tabs T (upd H a o) := t.ext fun b u e => by rw [upd_ne (ne_of_none e h)]; exact e
theorem tabs_put {T : List (Addr × Str)} {K : PySem.W.Frag} {F H : Hp} {a : Addr} {c : Ct} {o : HO} (t : LamX.Tabs T H) (h : CtOk K F H a c) : LamX.Tabs T (upd H a o) := by
  have key : ∃ u, H a = some u ∧ (∀ ps, u ≠ .tbl ps) ∧ ∀ c q, u ≠ LamX.CodeO c q := by
    cases c with
    | l ds =>
      obtain ⟨vs, h1, h2⟩ := h
      exact ⟨_, h1, ⟨(fun ps z => nomatch z), (fun c q z => by unfold LamX.CodeO at z; cases z)⟩⟩
    | d kvs =>
      obtain ⟨ks, h1, h2⟩ := h
      exact ⟨_, h1, ⟨(fun ps z => nomatch z), (fun c q z => by unfold LamX.CodeO at z; cases z)⟩⟩
    | t kvs =>
      obtain ⟨ks, h1, h2⟩ := h
      exact ⟨_, h1, ⟨(fun ps z => nomatch z), (fun c q z => by unfold LamX.CodeO at z; cases z)⟩⟩
  obtain ⟨u, h1, n1, n2⟩ := key
  intro p hp
  obtain ⟨ps, e1, e2, e3⟩ := t p hp
  refine ⟨ps, ?_, e2, fun pos cv hcv => ?_⟩
  · rw [upd_ne fun z => n1 ps (by rw [z, h1] at e1; exact Option.some.inj e1)]
    exact e1
  · obtain ⟨c, g1, g2⟩ := e3 pos cv hcv
    refine ⟨c, g1, ?_⟩
    rw [upd_ne fun z => n2 c p.2 (by rw [z, h1] at g2; rw [z]; exact Option.some.inj g2)]
    exact g2
/-- the owned object of a slot -/
def Sl.own : Sl → Option Ct
  | .o c => some c
  | .io c => some c
  | _ => none
def SlOk (K : PySem.W.Frag) (pa : Addr) (H0 F H : Hp) (v : V) : Sl → Prop
  | .unk => True
  | .v d => Rp K F v d
  | .o c => ∃ a, v = .ref a ∧ F a = none ∧ H0 a = none ∧ CtOk K F H a c
  | .io c => v = .ref pa ∧ F pa = none ∧ H0 pa = none ∧ CtOk K F H pa c
theorem SlOk.owned {K : PySem.W.Frag} {pa : Addr} {H0 F H : Hp} {v : V} {s : Sl} {c : Ct} (h : SlOk K pa H0 F H v s) (e : s.own = some c) : ∃ a, v = .ref a ∧ F a = none ∧ H0 a = none ∧ CtOk K F H a c := by
  cases s with
  | unk => cases e
  | v d => cases e
  | o c' => cases e; exact h
  | io c' => cases e; exact ⟨pa, h⟩
variable [TabT]
/-- THE STATE: what must stand as it was (H0), what was frozen at the start (F0), what is frozen by now (F), the heap, the slots -/
structure Ok (K : PySem.W.Frag) (pa : Nat → Addr) (H0 F0 F H : Hp) (st : L2.St) (r : En) : Prop where
  hH : Ex H0 H
  fF : Ex F0 F
  fH : Ex F H
  sep : ∀ a, H0 a ≠ none → F a ≠ none → F0 a ≠ none
  len : st.length = r.length
  sl : ∀ (i : Nat) (s : Sl), r[i]? = some s → s ≠ .unk → ∃ v, st[i]? = some (some v) ∧ SlOk K (pa i) H0 F H v s
  tb : LamX.Tabs (TabT.T K) H
  dis : ∀ (i j : Nat) (s q : Sl) (c c' : Ct) (a : Addr), i ≠ j → r[i]? = some s → r[j]? = some q → s.own = some c → q.own = some c' → st[i]? = some (some (.ref a)) → st[j]? = some (some (.ref a)) → False

section
variable {K : PySem.W.Frag} {pa : Nat → Addr} {H0 F0 F H F' H' : Hp} {st : L2.St} {r : En}
theorem ne_none {α : Type} {o : Option α} {a : α} (h : o = some a) : o ≠ none := by
  rw [h]
  exact fun z => nomatch z
theorem none_of_not {α : Type} {o : Option α} (h : ¬ o ≠ none) : o = none := by
  cases o with
  | none => rfl
  | some a => exact absurd (ne_none rfl) h
/-- new objects only, some of them frozen -/
theorem Ok.grow (k : Ok K pa H0 F0 F H st r) (eH : Ex H H') (eF : Ex F F') (fh : Ex F' H') (new : ∀ a, F' a ≠ none → H a ≠ none → F a ≠ none) (tb : LamX.Tabs (TabT.T K) H') : Ok K pa H0 F0 F' H' st r where
  hH := k.hH.trans eH
  fF := k.fF.trans eF
  fH := fh
  sep := fun a h1 h2 => k.sep a h1 (new a h2 (by
    cases q : H0 a with
    | none => exact absurd q h1
    | some o =>
      obtain ⟨o', q'⟩ := k.hH.some q
      exact ne_none q'))
  len := k.len
  sl := fun i s h n => by
    obtain ⟨v, h1, h2⟩ := k.sl i s h n
    refine ⟨v, h1, ?_⟩
    have own : ∀ a c, F a = none → CtOk K F H a c → F' a = none ∧ CtOk K F' H' a c := fun a c hf hc => by
      obtain ⟨o, ho, hnt⟩ := hc.there'
      refine ⟨none_of_not fun z => new a z (ne_none ho) hf, hc.mono eF ((eH.at_ a o ho hnt).trans ho.symm)⟩
    cases s with
    | unk => trivial
    | v d => exact dp_mono eF h2
    | o c =>
      obtain ⟨a, e1, e2, e3, e4⟩ := h2
      obtain ⟨z1, z2⟩ := own a c e2 e4
      exact ⟨a, e1, z1, e3, z2⟩
    | io c =>
      obtain ⟨e1, e2, e3, e4⟩ := h2
      obtain ⟨z1, z2⟩ := own _ c e2 e4
      exact ⟨e1, z1, e3, z2⟩
  tb := tb
  dis := k.dis
/-- a new tracked object that nobody freezes -/
theorem Ok.lay (k : Ok K pa H0 F0 F H st r) {p : Addr} {o : HO} (n : H p = none) : Ok K pa H0 F0 F (upd H p o) st r :=
  k.grow (Ex.new n) (Ex.refl F) (k.fH.mut (k.fH.nn n)) (fun _ h _ => h) (k.tb.ext fun a u e => by rw [upd_ne (ne_of_none e n)]; exact e)
/-- a new object, frozen at once -/
theorem Ok.layF (k : Ok K pa H0 F0 F H st r) {p : Addr} {o : HO} (n : H p = none) : Ok K pa H0 F0 (upd F p o) (upd H p o) st r := by
  have nF := k.fH.nn n
  refine k.grow (Ex.new n) (Ex.new nF) ⟨fun a u e nt => ?_, fun a ps e => ?_⟩ (fun a h1 h2 => ?_) (k.tb.ext fun a u e => by rw [upd_ne (ne_of_none e n)]; exact e)
  · by_cases ha : a = p
    · subst ha
      rw [upd_same] at e ⊢
      exact e
    · rw [upd_ne ha] at e ⊢
      exact k.fH.at_ a u e nt
  · by_cases ha : a = p
    · subst ha
      rw [upd_same] at e ⊢
      exact ⟨#[], by rw [Array.append_empty]; exact e⟩
    · rw [upd_ne ha] at e ⊢
      exact k.fH.tb a ps e
  · by_cases ha : a = p
    · subst ha
      exact absurd n h2
    · rw [upd_ne ha] at h1
      exact h1
/-- a tracked object that is nobody's is frozen -/
theorem Ok.frz (k : Ok K pa H0 F0 F H st r) {p : Addr} {o : HO} (h : H p = some o) (n0 : H0 p = none) (nO : ∀ (i : Nat) (s : Sl) (c : Ct), r[i]? = some s → s.own = some c → st[i]? ≠ some (some (.ref p))) (nF : F p = none) : Ok K pa H0 F0 (upd F p o) H st r where
  hH := k.hH
  fF := k.fF.trans (Ex.new nF)
  fH := ⟨fun a u e nt => by
    by_cases ha : a = p
    · subst ha
      rw [upd_same] at e
      rw [h]
      exact e
    · rw [upd_ne ha] at e
      exact k.fH.at_ a u e nt, fun a ps e => by
    by_cases ha : a = p
    · subst ha
      rw [upd_same] at e
      rw [h]
      exact ⟨#[], by rw [Array.append_empty]; exact e⟩
    · rw [upd_ne ha] at e
      exact k.fH.tb a ps e⟩
  sep := fun a h1 h2 => by
    by_cases ha : a = p
    · subst ha
      exact absurd n0 h1
    · rw [upd_ne ha] at h2
      exact k.sep a h1 h2
  len := k.len
  sl := fun i s h1 n => by
    obtain ⟨v, h2, h3⟩ := k.sl i s h1 n
    refine ⟨v, h2, ?_⟩
    cases s with
    | unk => trivial
    | v d => exact dp_mono (Ex.new nF) h3
    | o c =>
      obtain ⟨a, e1, e2, e3, e4⟩ := h3
      have ne : a ≠ p := fun z => nO i _ c h1 rfl (by rw [h2, e1, z])
      exact ⟨a, e1, by rw [upd_ne ne]; exact e2, e3, e4.mono (Ex.new nF) rfl⟩
    | io c =>
      obtain ⟨e1, e2, e3, e4⟩ := h3
      have ne : pa i ≠ p := fun z => nO i _ c h1 rfl (by rw [h2, e1, z])
      exact ⟨e1, by rw [upd_ne ne]; exact e2, e3, e4.mono (Ex.new nF) rfl⟩
  tb := k.tb
  dis := k.dis
/-- a new address is nobody's -/
theorem Ok.nobody (k : Ok K pa H0 F0 F H st r) {p : Addr} (n : H p = none) : ∀ (i : Nat) (s : Sl) (c : Ct), r[i]? = some s → s.own = some c → st[i]? ≠ some (some (.ref p)) := fun i s c h1 h2 h3 => by
  obtain ⟨v, e1, e2⟩ := k.sl i s h1 (by
    intro z
    subst z
    cases h2)
  obtain ⟨a, z1, _, _, z4⟩ := e2.owned h2
  rw [h3] at e1
  cases e1
  cases z1
  obtain ⟨o, ho⟩ := z4.there
  rw [n] at ho
  cases ho
/-- another frame to be kept -/
theorem Ok.frame (k : Ok K pa H0 F0 F H st r) {H0' : Hp} (h1 : Ex H0' H) (h2 : ∀ a, H0' a ≠ none → F a ≠ none → F0 a ≠ none) (h3 : ∀ (i : Nat) (s : Sl) (c : Ct) (a : Addr), r[i]? = some s → s.own = some c → st[i]? = some (some (.ref a)) → H0' a = none) : Ok K pa H0' F0 F H st r where
  hH := h1
  fF := k.fF
  fH := k.fH
  sep := h2
  len := k.len
  sl := fun i s e n => by
    obtain ⟨v, e1, e2⟩ := k.sl i s e n
    refine ⟨v, e1, ?_⟩
    cases s with
    | unk => trivial
    | v d => exact e2
    | o c =>
      obtain ⟨a, z1, z2, z3, z4⟩ := e2
      exact ⟨a, z1, z2, h3 i _ c a e rfl (by rw [e1, z1]), z4⟩
    | io c =>
      obtain ⟨z1, z2, z3, z4⟩ := e2
      exact ⟨z1, z2, h3 i _ c (pa i) e rfl (by rw [e1, z1]), z4⟩
  tb := k.tb
  dis := k.dis
end
end Pu

namespace Pu
open PySem PySem.Spec PyProof.Rows L2
variable [TabT]

/-! ### slots changed -/
def Sl.isIo : Sl → Bool
  | .io _ => true
  | _ => false
def Sl.put (c : Ct) : Sl → Sl
  | .io _ => .io c
  | _ => .o c
section
variable {K : PySem.W.Frag} {pa : Nat → Addr} {H0 F0 F H F' H' : Hp} {st : L2.St} {r : En}
theorem Ok.lookup (k : Ok K pa H0 F0 F H st r) {i : Nat} {s : Sl} (h : r[i]? = some s) (n : s ≠ .unk) : ∃ v, st[i]? = some (some v) ∧ SlOk K (pa i) H0 F H v s := k.sl i s h n
theorem Ok.val (k : Ok K pa H0 F0 F H st r) {i : Nat} {d : D} (h : r[i]? = some (.v d)) : ∃ v, st[i]? = some (some v) ∧ Rp K F v d := k.sl i _ h (fun z => nomatch z)
theorem Ok.ownd (k : Ok K pa H0 F0 F H st r) {i : Nat} {s : Sl} {c : Ct} (h : r[i]? = some s) (hc : s.own = some c) : ∃ a, st[i]? = some (some (.ref a)) ∧ F a = none ∧ H0 a = none ∧ CtOk K F H a c := by
  obtain ⟨v, e1, e2⟩ := k.sl i s h (by
    intro z
    subst z
    cases hc)
  obtain ⟨a, rfl, z⟩ := e2.owned hc
  exact ⟨a, e1, z⟩
/-- a slot is stored -/
theorem Ok.set (k : Ok K pa H0 F0 F H st r) {i : Nat} {v : V} {s : Sl} (hi : ∀ q, r[i]? = some q → q.isIo = false) (hs : s.isIo = false) (ok : SlOk K (pa i) H0 F H v s)
    (hd : ∀ (a : Addr) (c : Ct), s.own = some c → v = .ref a → ∀ (j : Nat) (q : Sl) (c' : Ct), j ≠ i → r[j]? = some q → q.own = some c' → st[j]? ≠ some (some (.ref a))) : Ok K pa H0 F0 F H (st.set i (some v)) (r.set i s) where
  hH := k.hH
  fF := k.fF
  fH := k.fH
  sep := k.sep
  len := by rw [List.length_set, List.length_set, k.len]
  sl := fun j q h n => by
    by_cases e : i = j
    · subst e
      rw [List.getElem?_set_self'] at h
      by_cases hl : i < r.length
      · rw [List.getElem?_eq_getElem hl] at h
        cases h
        refine ⟨v, ?_, ok⟩
        rw [List.getElem?_set_self (by rw [k.len]; exact hl)]
      · rw [List.getElem?_eq_none (by omega)] at h
        cases h
    · rw [List.getElem?_set_ne e] at h
      obtain ⟨w, z1, z2⟩ := k.sl j q h n
      exact ⟨w, by rw [List.getElem?_set_ne e]; exact z1, z2⟩
  tb := k.tb
  dis := fun j1 j2 q1 q2 c1 c2 a ne h1 h2 o1 o2 s1 s2 => by
    by_cases e1 : i = j1
    · subst e1
      have e2 : i ≠ j2 := ne
      rw [List.getElem?_set_ne e2] at h2 s2
      rw [List.getElem?_set_self'] at h1 s1
      by_cases hl : i < r.length
      · rw [List.getElem?_eq_getElem hl] at h1
        rw [List.getElem?_eq_getElem (by rw [k.len]; exact hl)] at s1
        cases h1
        cases s1
        exact hd a c1 o1 rfl j2 q2 c2 (Ne.symm e2) h2 o2 s2
      · rw [List.getElem?_eq_none (by omega)] at h1
        cases h1
    · rw [List.getElem?_set_ne e1] at h1 s1
      by_cases e2 : i = j2
      · subst e2
        rw [List.getElem?_set_self'] at h2 s2
        by_cases hl : i < r.length
        · rw [List.getElem?_eq_getElem hl] at h2
          rw [List.getElem?_eq_getElem (by rw [k.len]; exact hl)] at s2
          cases h2
          cases s2
          exact hd a c2 o2 rfl j1 q1 c1 (fun z => e1 z.symm) h1 o1 s1
        · rw [List.getElem?_eq_none (by omega)] at h2
          cases h2
      · rw [List.getElem?_set_ne e2] at h2 s2
        exact k.dis j1 j2 q1 q2 c1 c2 a ne h1 h2 o1 o2 s1 s2
theorem Ok.setV (k : Ok K pa H0 F0 F H st r) {i : Nat} {v : V} {d : D} (hi : ∀ q, r[i]? = some q → q.isIo = false) (ok : Rp K F v d) : Ok K pa H0 F0 F H (st.set i (some v)) (r.set i (.v d)) :=
  k.set (s := .v d) hi rfl ok fun _ _ z => nomatch z
/-- a slot is forgotten -/
theorem Ok.forget (k : Ok K pa H0 F0 F H st r) {i : Nat} {x : Option V} : Ok K pa H0 F0 F H (st.set i x) (r.set i .unk) where
  hH := k.hH
  fF := k.fF
  fH := k.fH
  sep := k.sep
  len := by rw [List.length_set, List.length_set, k.len]
  sl := fun j q h n => by
    by_cases e : i = j
    · subst e
      rw [List.getElem?_set_self'] at h
      by_cases hl : i < r.length
      · rw [List.getElem?_eq_getElem hl] at h
        cases h
        exact absurd rfl n
      · rw [List.getElem?_eq_none (by omega)] at h
        cases h
    · rw [List.getElem?_set_ne e] at h
      obtain ⟨w, z1, z2⟩ := k.sl j q h n
      exact ⟨w, by rw [List.getElem?_set_ne e]; exact z1, z2⟩
  tb := k.tb
  dis := fun j1 j2 q1 q2 c1 c2 a ne h1 h2 o1 o2 s1 s2 => by
    have no : ∀ (j : Nat) (q : Sl) (c : Ct), (r.set i .unk)[j]? = some q → q.own = some c → i ≠ j := fun j q c h o e => by
      subst e
      rw [List.getElem?_set_self'] at h
      by_cases hl : i < r.length
      · rw [List.getElem?_eq_getElem hl] at h
        cases h
        cases o
      · rw [List.getElem?_eq_none (by omega)] at h
        cases h
    have e1 := no j1 q1 c1 h1 o1
    have e2 := no j2 q2 c2 h2 o2
    rw [List.getElem?_set_ne e1] at h1 s1
    rw [List.getElem?_set_ne e2] at h2 s2
    exact k.dis j1 j2 q1 q2 c1 c2 a ne h1 h2 o1 o2 s1 s2
/-- an owned object is changed -/
theorem Ok.put (k : Ok K pa H0 F0 F H st r) {i : Nat} {s : Sl} {c c' : Ct} {a : Addr} {o : HO} (h : r[i]? = some s) (hc : s.own = some c) (ha : st[i]? = some (some (.ref a))) (new : CtOk K F (upd H a o) a c') : Ok K pa H0 F0 F (upd H a o) st (r.set i (s.put c')) := by
  obtain ⟨a', z1, z2, z3, z4⟩ := k.ownd h hc
  rw [ha] at z1
  cases z1
  have hl : i < r.length := (List.getElem?_eq_some_iff.mp h).1
  have po : (s.put c').own = some c' := by cases s <;> rfl
  have other : ∀ (j : Nat) (q : Sl) (c2 : Ct) (b : Addr), i ≠ j → r[j]? = some q → q.own = some c2 → st[j]? = some (some (.ref b)) → b ≠ a := fun j q c2 b e hq hq2 hb z => by
    subst z
    exact k.dis i j s q c c2 b e h hq hc hq2 ha hb
  refine ⟨k.hH.mut z3, k.fF, k.fH.mut z2, k.sep, by rw [List.length_set, k.len], fun j q hq n => ?_, tabs_put k.tb z4, fun j1 j2 q1 q2 c1 c2 b ne h1 h2 o1 o2 s1 s2 => ?_⟩
  · by_cases e : i = j
    · subst e
      rw [List.getElem?_set_self hl] at hq
      cases hq
      obtain ⟨v, w1, w2⟩ := k.sl i s h (by
        intro z
        subst z
        cases hc)
      rw [ha] at w1
      cases w1
      refine ⟨_, ha, ?_⟩
      cases s with
      | unk => cases hc
      | v d => cases hc
      | o c1 => exact ⟨a, rfl, z2, z3, new⟩
      | io c1 =>
        obtain ⟨y1, y2, y3, y4⟩ := w2
        cases y1
        exact ⟨rfl, z2, z3, new⟩
    · rw [List.getElem?_set_ne e] at hq
      obtain ⟨v, w1, w2⟩ := k.sl j q hq n
      refine ⟨v, w1, ?_⟩
      cases q with
      | unk => trivial
      | v d => exact w2
      | o c1 =>
        obtain ⟨b, y1, y2, y3, y4⟩ := w2
        have nb : b ≠ a := other j _ c1 b e hq rfl (by rw [w1, y1])
        exact ⟨b, y1, y2, y3, y4.mono (Ex.refl F) (upd_ne nb)⟩
      | io c1 =>
        obtain ⟨y1, y2, y3, y4⟩ := w2
        have nb : pa j ≠ a := other j _ c1 (pa j) e hq rfl (by rw [w1, y1])
        exact ⟨y1, y2, y3, y4.mono (Ex.refl F) (upd_ne nb)⟩
  · have get : ∀ (j : Nat) (q : Sl) (c2 : Ct), (r.set i (s.put c'))[j]? = some q → q.own = some c2 → ∃ q' c3, r[j]? = some q' ∧ q'.own = some c3 := fun j q c2 hq ho => by
      by_cases e : i = j
      · subst e
        exact ⟨s, c, h, hc⟩
      · rw [List.getElem?_set_ne e] at hq
        exact ⟨q, c2, hq, ho⟩
    obtain ⟨q1', c1', g1, g2⟩ := get j1 q1 c1 h1 o1
    obtain ⟨q2', c2', g3, g4⟩ := get j2 q2 c2 h2 o2
    exact k.dis j1 j2 q1' q2' c1' c2' b ne g1 g3 g2 g4 s1 s2
/-- an owned list is frozen -/
theorem Ok.freeze (k : Ok K pa H0 F0 F H st r) {i : Nat} {ds : List D} (h : r[i]? = some (.o (.l ds))) : ∃ F', Ok K pa H0 F0 F' H st (r.set i (.v (.list ds))) ∧ Ex F F' := by
  obtain ⟨a, z1, z2, z3, vs, z4, z5⟩ := k.ownd h rfl
  have hl : i < r.length := (List.getElem?_eq_some_iff.mp h).1
  have k2 : Ok K pa H0 F0 F H (st.set i none) (r.set i .unk) := k.forget
  have nO : ∀ (j : Nat) (s : Sl) (c : Ct), (r.set i .unk)[j]? = some s → s.own = some c → (st.set i none)[j]? ≠ some (some (.ref a)) := fun j s c hj hc hst => by
    by_cases e : i = j
    · subst e
      rw [List.getElem?_set_self hl] at hj
      cases hj
      cases hc
    · rw [List.getElem?_set_ne e] at hj hst
      exact k.dis i j _ s _ c a e h hj rfl hc z1 hst
  have k3 := k2.frz z4 z3 nO z2
  refine ⟨upd F a (.lst vs), ?_, Ex.new z2⟩
  have k4 := k3.setV (i := i) (v := .ref a) (d := .list ds) (fun q hq => by
    rw [List.getElem?_set_self hl] at hq
    cases hq
    rfl) (.lst (.inl (.inl upd_same)) (dpa_mono (Ex.new z2) z5))
  rw [List.set_set, List.set_set] at k4
  have e : st.set i (some (.ref a)) = st := by
    apply List.ext_getElem?
    intro j
    by_cases e : i = j
    · subst e
      rw [List.getElem?_set_self (by rw [k.len]; exact hl), z1]
    · rw [List.getElem?_set_ne e]
  rw [e] at k4
  exact k4
end

/-! ### readings -/
structure Cc where
  K : PySem.W.Frag
  mg : Str → Option Value
  W : WX
def ExOk (c : Cc) (F H : Hp) (e : Exn) (cls : Value) (dd : Option Addr) : Prop := cls = .ref (He.ga c.K e.name) ∧
  ((e.flds = [] ∧ dd = none) ∨ ∃ d fs, dd = some d ∧ F d = some (.xd fs) ∧ fs.map (·.1) = e.flds.map (·.1) ∧ RpAll c.K F (fs.map (·.2)) (e.flds.map (·.2)))
def XW (c : Cc) (pa : Nat → Addr) (H0 F0 F : Hp) : Exn → En → Prop := fun e r' => ∀ F' H' st' cls dd, Ok c.K pa H0 F0 F' H' st' r' → Ex F F' → ExOk c F' H' e cls dd → c.W cls dd st' H'
theorem XW.mono {c : Cc} {pa : Nat → Addr} {H0 F0 F F1 : Hp} (e : Ex F F1) : ∀ x r, XW c pa H0 F0 F x r → XW c pa H0 F0 F1 x r := fun x r h F' H' st' cls dd ok ex => h F' H' st' cls dd ok (e.trans ex)
/-- a value, or a new object of one's own -/
def RvOk (K : PySem.W.Frag) (H0 F H : Hp) (st : L2.St) (r : En) (v : V) : RV → Prop
  | .v d => Rp K F v d
  | .o c => ∃ a, v = .ref a ∧ F a = none ∧ H0 a = none ∧ CtOk K F H a c ∧ ∀ (i : Nat) (s : Sl) (c' : Ct), r[i]? = some s → s.own = some c' → st[i]? ≠ some (some (.ref a))
def tM (c : Cc) (m : M D) : TE := fun st H Q => ∃ pa H0 F0 F r, Ok c.K pa H0 F0 F H st r ∧ Po (XW c pa H0 F0 F) (m r) fun d r' => ∀ F' H' v, Ok c.K pa H0 F0 F' H' st r' → Ex F F' → Rp c.K F' v d → Q v H'
def tO (c : Cc) (m : M RV) : TE := fun st H Q => ∃ pa H0 F0 F r, Ok c.K pa H0 F0 F H st r ∧ Po (XW c pa H0 F0 F) (m r) fun d r' => ∀ F' H' v, Ok c.K pa H0 F0 F' H' st r' → Ex F F' → RvOk c.K H0 F' H' st r' v d → Q v H'
def tT (c : Cc) (m : M Bool) : TT := fun st H Q => ∃ pa H0 F0 F r, Ok c.K pa H0 F0 F H st r ∧ Po (XW c pa H0 F0 F) (m r) fun b r' => ∀ F' H', Ok c.K pa H0 F0 F' H' st r' → Ex F F' → Q b H'
def tA (c : Cc) (m : M (List D)) : TA := fun st H Q => ∃ pa H0 F0 F r, Ok c.K pa H0 F0 F H st r ∧ Po (XW c pa H0 F0 F) (m r) fun ds r' => ∀ F' H' vs, Ok c.K pa H0 F0 F' H' st r' → Ex F F' → RpAll c.K F' vs ds → Q vs H'
inductive Fl where
  | nx | bk | ct | rt (r : RV)
def flEnd (K : PySem.W.Frag) (pa : Nat → Addr) (H0 F0 F : Hp) (Dd : Ends) (r' : En) : Fl → Prop
  | .nx => ∀ F' H' st', Ok K pa H0 F0 F' H' st' r' → Ex F F' → Dd.nx st' H'
  | .bk => ∀ F' H' st', Ok K pa H0 F0 F' H' st' r' → Ex F F' → Dd.bk st' H'
  | .ct => ∀ F' H' st', Ok K pa H0 F0 F' H' st' r' → Ex F F' → Dd.ct st' H'
  | .rt rv => ∀ F' H' st' v, Ok K pa H0 F0 F' H' st' r' → Ex F F' → RvOk K H0 F' H' st' r' v rv → Dd.rt v H'
def sM (c : Cc) (m : M Fl) : TS := fun Dd st H => ∃ pa H0 F0 F r, Ok c.K pa H0 F0 F H st r ∧ Po (XW c pa H0 F0 F) (m r) fun fl r' => flEnd c.K pa H0 F0 F Dd r' fl
theorem flEnd.mono {K : PySem.W.Frag} {pa : Nat → Addr} {H0 F0 F F1 : Hp} {Dd : Ends} {r' : En} {fl : Fl} (e : Ex F F1) (h : flEnd K pa H0 F0 F Dd r' fl) : flEnd K pa H0 F0 F1 Dd r' fl := by
  cases fl with
  | nx => exact fun F' H' st' k ex => h F' H' st' k (e.trans ex)
  | bk => exact fun F' H' st' k ex => h F' H' st' k (e.trans ex)
  | ct => exact fun F' H' st' k ex => h F' H' st' k (e.trans ex)
  | rt rv => exact fun F' H' st' v k ex => h F' H' st' v k (e.trans ex)

section
variable {X : Cx} {c : Cc}
theorem pe_cq {e : Expr} {t t' : TE} (h : PE X e t) (i : ∀ st H Q, t' st H Q → t st H Q) : PE X e t' := ⟨fun pins s st H Q I q => h.run pins s st H Q I (i st H Q q)⟩
theorem pt_cq {e : Expr} {t t' : TT} (h : PT X e t) (i : ∀ st H Q, t' st H Q → t st H Q) : PT X e t' := ⟨fun pins s st H Q I q => h.run pins s st H Q I (i st H Q q)⟩
theorem pw_cq {e : Expr} {t t' : TT} (h : PW X e t) (i : ∀ st H Q, t' st H Q → t st H Q) : PW X e t' := ⟨fun wh pins s st H Q I q => h.run wh pins s st H Q I (i st H Q q)⟩
theorem pa_cq {e : List Expr} {t t' : TA} (h : PA X e t) (i : ∀ st H Q, t' st H Q → t st H Q) : PA X e t' := ⟨fun pos pins s st H Q I q => h.run pos pins s st H Q I (i st H Q q)⟩
theorem ps_cq {e : Stmt} {t t' : TS} (h : PS X e t) (i : ∀ Dd st H, t' Dd st H → t Dd st H) : PS X e t' := ⟨fun pins s st H Dd I q => h.run pins s st H Dd I (i Dd st H q)⟩
theorem pss_cq {e : List Stmt} {t t' : TS} (h : PSs X e t) (i : ∀ Dd st H, t' Dd st H → t Dd st H) : PSs X e t' := ⟨fun pins s st H Dd I q => h.run pins s st H Dd I (i Dd st H q)⟩

/-! ### the chaining of two parts -/
theorem seqM {α : Type} {pa : Nat → Addr} {H0 F0 F H : Hp} {st : L2.St} {r : En} {ma : M D} {f : D → M α} {k : α → En → Prop} {Q : VK} (ok : Ok c.K pa H0 F0 F H st r) (po : Po (XW c pa H0 F0 F) (ma.bind f r) k)
    (h : ∀ d r1 F1 H1 v, Ok c.K pa H0 F0 F1 H1 st r1 → Ex F F1 → Rp c.K F1 v d → Po (XW c pa H0 F0 F1) (f d r1) k → Q v H1) : tM c ma st H Q :=
  ⟨pa, H0, F0, F, r, ok, (Po.bind po).mono (fun _ _ x => x) fun d r1 q F1 H1 v k1 e1 dp => h d r1 F1 H1 v k1 e1 dp (q.mono (XW.mono e1) fun _ _ x => x)⟩
theorem seqO {α : Type} {pa : Nat → Addr} {H0 F0 F H : Hp} {st : L2.St} {r : En} {ma : M RV} {f : RV → M α} {k : α → En → Prop} {Q : VK} (ok : Ok c.K pa H0 F0 F H st r) (po : Po (XW c pa H0 F0 F) (ma.bind f r) k)
    (h : ∀ d r1 F1 H1 v, Ok c.K pa H0 F0 F1 H1 st r1 → Ex F F1 → RvOk c.K H0 F1 H1 st r1 v d → Po (XW c pa H0 F0 F1) (f d r1) k → Q v H1) : tO c ma st H Q :=
  ⟨pa, H0, F0, F, r, ok, (Po.bind po).mono (fun _ _ x => x) fun d r1 q F1 H1 v k1 e1 dp => h d r1 F1 H1 v k1 e1 dp (q.mono (XW.mono e1) fun _ _ x => x)⟩
theorem seqT {α : Type} {pa : Nat → Addr} {H0 F0 F H : Hp} {st : L2.St} {r : En} {ma : M Bool} {f : Bool → M α} {k : α → En → Prop} {Q : Bool → Hp → Prop} (ok : Ok c.K pa H0 F0 F H st r) (po : Po (XW c pa H0 F0 F) (ma.bind f r) k)
    (h : ∀ d r1 F1 H1, Ok c.K pa H0 F0 F1 H1 st r1 → Ex F F1 → Po (XW c pa H0 F0 F1) (f d r1) k → Q d H1) : tT c ma st H Q :=
  ⟨pa, H0, F0, F, r, ok, (Po.bind po).mono (fun _ _ x => x) fun d r1 q F1 H1 k1 e1 => h d r1 F1 H1 k1 e1 (q.mono (XW.mono e1) fun _ _ x => x)⟩
theorem seqA {α : Type} {pa : Nat → Addr} {H0 F0 F H : Hp} {st : L2.St} {r : En} {ma : M (List D)} {f : List D → M α} {k : α → En → Prop} {Q : List V → Hp → Prop} (ok : Ok c.K pa H0 F0 F H st r) (po : Po (XW c pa H0 F0 F) (ma.bind f r) k)
    (h : ∀ d r1 F1 H1 vs, Ok c.K pa H0 F0 F1 H1 st r1 → Ex F F1 → RpAll c.K F1 vs d → Po (XW c pa H0 F0 F1) (f d r1) k → Q vs H1) : tA c ma st H Q :=
  ⟨pa, H0, F0, F, r, ok, (Po.bind po).mono (fun _ _ x => x) fun d r1 q F1 H1 v k1 e1 dp => h d r1 F1 H1 v k1 e1 dp (q.mono (XW.mono e1) fun _ _ x => x)⟩

theorem againM {pa : Nat → Addr} {H0 F0 F F1 H : Hp} {st : L2.St} {r : En} {m : M D} {Q : VK} (ok : Ok c.K pa H0 F0 F1 H st r) (e : Ex F F1) (po : Po (XW c pa H0 F0 F1) (m r) fun d r' => ∀ F' H' v, Ok c.K pa H0 F0 F' H' st r' → Ex F F' → Rp c.K F' v d → Q v H') : tM c m st H Q :=
  ⟨pa, H0, F0, F1, r, ok, po.mono (fun _ _ x => x) fun d r' q F' H' v k e' => q F' H' v k (e.trans e')⟩
theorem againO {pa : Nat → Addr} {H0 F0 F F1 H : Hp} {st : L2.St} {r : En} {m : M RV} {Q : VK} (ok : Ok c.K pa H0 F0 F1 H st r) (e : Ex F F1) (po : Po (XW c pa H0 F0 F1) (m r) fun d r' => ∀ F' H' v, Ok c.K pa H0 F0 F' H' st r' → Ex F F' → RvOk c.K H0 F' H' st r' v d → Q v H') : tO c m st H Q :=
  ⟨pa, H0, F0, F1, r, ok, po.mono (fun _ _ x => x) fun d r' q F' H' v k e' => q F' H' v k (e.trans e')⟩
theorem againT {pa : Nat → Addr} {H0 F0 F F1 H : Hp} {st : L2.St} {r : En} {m : M Bool} {Q : Bool → Hp → Prop} (ok : Ok c.K pa H0 F0 F1 H st r) (e : Ex F F1) (po : Po (XW c pa H0 F0 F1) (m r) fun d r' => ∀ F' H', Ok c.K pa H0 F0 F' H' st r' → Ex F F' → Q d H') : tT c m st H Q :=
  ⟨pa, H0, F0, F1, r, ok, po.mono (fun _ _ x => x) fun d r' q F' H' k e' => q F' H' k (e.trans e')⟩
theorem againS {pa : Nat → Addr} {H0 F0 F F1 H : Hp} {st : L2.St} {r : En} {m : M Fl} {Dd : Ends} (ok : Ok c.K pa H0 F0 F1 H st r) (e : Ex F F1) (po : Po (XW c pa H0 F0 F1) (m r) fun fl r' => flEnd c.K pa H0 F0 F Dd r' fl) : sM c m Dd st H :=
  ⟨pa, H0, F0, F1, r, ok, po.mono (fun _ _ x => x) fun d r' q => q.mono e⟩

/-! ### names and constants -/
def getS (i : Nat) : M D := fun r => match r[i]? with
  | some (.v d) => .ok d r
  | _ => .no
theorem getS_ok {i : Nat} {r : En} {d : D} {r' : En} (h : getS i r = .ok d r') : r[i]? = some (.v d) ∧ r' = r := by
  unfold getS at h
  split at h
  · cases h
    exact ⟨by assumption, rfl⟩
  · cases h
theorem getS_po {i : Nat} {r : En} {Xp : Exn → En → Prop} {k : D → En → Prop} (h : Po Xp (getS i r) k) : ∃ d, r[i]? = some (.v d) ∧ k d r := by
  unfold getS at h
  split at h
  · exact ⟨_, by assumption, h⟩
  · exact h.elim
theorem e_var (i : Nat) {x : Str} {pos : Pos} (hN : X.N[i]? = some x := by rfl) (hv : Vis X.env.scope x := by first | exact Or.inl rfl | exact Or.inr (Or.inl rfl) | exact Or.inr (Or.inr rfl)) (hd : (x == ("__debug__" : Str)) = false := by decide)
    (hcd : (x == ("__classdict__" : Str)) = false := by decide) : PE X (.Name x pos) (tM c (getS i)) :=
  pe_cq (pe_var (i := i) hN hv hd hcd) fun st H Q ⟨pa, H0, F0, F, r, ok, po⟩ => by
    obtain ⟨d, h1, h2⟩ := getS_po po
    obtain ⟨v, e1, e2⟩ := ok.val h1
    exact ⟨v, e1, h2 F H v ok (Ex.refl F) e2⟩
theorem e_cst {e : Expr} {v : V} {d : D} (h : PE X e (tC v)) (hr : ∀ F, Rp c.K F v d) : PE X e (tM c (M.ret d)) :=
  pe_cq h fun st H Q ⟨pa, H0, F0, F, r, ok, po⟩ => po F H v ok (Ex.refl F) (hr F)
theorem e_int {i j pos} : PE X (.Constant (.int i) j pos) (tM c (M.ret (.int i))) := e_cst pe_int fun _ => .int i
theorem e_bl {b j pos} : PE X (.Constant (.bool b) j pos) (tM c (M.ret (.bool b))) := e_cst pe_bl fun _ => .bl b
theorem e_non {j pos} : PE X (.Constant .none j pos) (tM c (M.ret .none)) := e_cst pe_non fun _ => .non
theorem e_str {x j pos} : PE X (.Constant (.str x) j pos) (tM c (M.ret (.str x))) := e_cst pe_str fun _ => .str x
theorem e_globI {x : Str} {i : Int} {t : Tok} {pos : Pos} (hm : X.mg x = some (.int i t)) (hg : Gl X x := by rfl) (hd : (x == ("__debug__" : Str)) = false := by decide) : PE X (.Name x pos) (tM c (M.ret (.int i))) := e_cst (pe_glob (v := .int i) hg hm ⟨_, rfl⟩ hd) fun _ => .int i
theorem e_globS {x z : Str} {t : Tok} {pos : Pos} (hm : X.mg x = some (.str z t)) (hg : Gl X x := by rfl) (hd : (x == ("__debug__" : Str)) = false := by decide) : PE X (.Name x pos) (tM c (M.ret (.str z))) := e_cst (pe_glob (v := .str z) hg hm ⟨_, rfl⟩ hd) fun _ => .str z

/-! ### a value from an owned one -/
def RV.data : RV → Option D
  | .v d => some d
  | .o (.l ds) => some (.list ds)
  | .o (.d _) => none
  | .o (.t _) => none
def frzM (m : M RV) : M D := m.bind fun rv => M.opt rv.data
theorem e_val {e : Expr} {m : M RV} (h : PE X e (tO c m)) : PE X e (tM c (frzM m)) :=
  pe_cq h fun st H Q ⟨pa, H0, F0, F, r, ok, po⟩ => seqO ok po fun rv r1 F1 H1 v k1 e1 dp q => by
    cases rv with
    | v d => exact q F1 H1 v k1 e1 dp
    | o ct =>
      cases ct with
      | l ds =>
        obtain ⟨a, rfl, z1, z2, ⟨vs, z3, z4⟩, z5⟩ := dp
        have k2 := k1.frz z3 z2 z5 z1
        exact q _ H1 _ k2 (e1.trans (Ex.new z1)) (.lst (.inl (.inl upd_same)) (dpa_mono (Ex.new z1) z4))
      | t kvs => exact q.elim
      | d kvs => exact q.elim
theorem o_val {e : Expr} {m : M D} (h : PE X e (tM c m)) : PE X e (tO c (m.bind fun d => M.ret (.v d))) :=
  pe_cq h fun st H Q ⟨pa, H0, F0, F, r, ok, po⟩ => seqM ok po fun d r1 F1 H1 v k1 e1 dp q => q F1 H1 v k1 e1 dp

/-! ### argument lists -/
def aNil : M (List D) := M.ret []
def aCons (m : M D) (ms : M (List D)) : M (List D) := m.bind fun d => ms.bind fun ds => M.ret (d :: ds)
theorem a_nil : PA X [] (tA c aNil) := pa_cq pa_nil fun st H Q ⟨pa, H0, F0, F, r, ok, po⟩ => po F H [] ok (Ex.refl F) .nil
theorem a_cons {e : Expr} {es : List Expr} {m : M D} {ms : M (List D)} (h : PE X e (tM c m)) (hr : PA X es (tA c ms)) (hs : starEach (e :: es) X.env = (false, eval e X.env) :: starEach es X.env := by rfl) : PA X (e :: es) (tA c (aCons m ms)) :=
  pa_cq (pa_cons h hr hs) fun st H Q ⟨pa, H0, F0, F, r, ok, po⟩ => seqM ok po fun d r1 F1 H1 v k1 e1 dp q => seqA k1 q fun ds r2 F2 H2 vs k2 e2 dps q2 => q2 F2 H2 _ k2 (e1.trans e2) (.cons (dp_mono e2 dp) dps)

/-! ### displays -/
def szC (n : Nat) {α : Type} (a : α) : Option α := if n ≤ 16777216 then some a else none
theorem szC_po {α : Type} {n : Nat} {a : α} {r : En} {Xp : Exn → En → Prop} {k : α → En → Prop} (h : Po Xp (M.opt (szC n a) r) k) : n ≤ sizeLine ∧ k a r := by
  unfold szC at h
  split at h
  · exact ⟨by rw [sizeLine_eq]; assumption, h⟩
  · exact h.elim
def eTup (ms : M (List D)) : M D := ms.bind fun ds => M.opt (szC ds.length (.tuple ds))
def oLst (ms : M (List D)) : M RV := ms.bind fun ds => M.opt (szC ds.length (.o (.l ds)))
theorem e_tup {es : List Expr} {x1 : Nat} {pos : Pos} {ms : M (List D)} (h : PA X es (tA c ms)) : PE X (.Tuple es x1 pos) (tM c (eTup ms)) :=
  pe_cq (pe_tup h) fun st H Q ⟨pa, H0, F0, F, r, ok, po⟩ => seqA ok po fun ds r1 F1 H1 vs k1 e1 dps q => by
    obtain ⟨hz, q⟩ := szC_po q
    refine ⟨by rw [dpa_len dps]; exact hz, fun p np => ?_⟩
    have nF := k1.fH.nn np
    exact q _ _ _ (k1.layF np) (e1.trans (Ex.new nF)) (.tup upd_same (dpa_mono (Ex.new nF) dps))
theorem o_lst {es : List Expr} {pos : Pos} {ms : M (List D)} (h : PA X es (tA c ms)) : PE X (.List es pos) (tO c (oLst ms)) :=
  pe_cq (pe_lst h) fun st H Q ⟨pa, H0, F0, F, r, ok, po⟩ => seqA ok po fun ds r1 F1 H1 vs k1 e1 dps q => by
    obtain ⟨hz, q⟩ := szC_po q
    refine ⟨by rw [dpa_len dps]; exact hz, fun p np => ?_⟩
    have nF := k1.fH.nn np
    exact q F1 _ _ (k1.lay np) e1 ⟨p, rfl, nF, k1.hH.nn np, ⟨vs, upd_same, dps⟩, k1.nobody np⟩

/-! ### operators on data: g tells the answer -/
/-- nothing new, or one new frozen object -/
def NewF (F H F' H' : Hp) : Prop := (F' = F ∧ H' = H) ∨ ∃ p o, H p = none ∧ F' = upd F p o ∧ H' = upd H p o
theorem NewF.ok {K : PySem.W.Frag} {pa : Nat → Addr} {H0 F0 F H F' H' : Hp} {st : L2.St} {r : En} (n : NewF F H F' H') (k : Ok K pa H0 F0 F H st r) : Ok K pa H0 F0 F' H' st r ∧ Ex F F' := by
  rcases n with ⟨rfl, rfl⟩ | ⟨p, o, np, rfl, rfl⟩
  · exact ⟨k, Ex.refl _⟩
  · exact ⟨k.layF np, Ex.new (k.fH.nn np)⟩
def rD2 (K : PySem.W.Frag) (g : D → D → Option D) : R2 := fun x y H Q => ∃ F d e z, Ex F H ∧ Rp K F x d ∧ Rp K F y e ∧ g d e = some z ∧ ∀ v F' H', NewF F H F' H' → Rp K F' v z → Q v H'
def rD1 (K : PySem.W.Frag) (g : D → Option D) : V → Hp → VK → Prop := fun x H Q => ∃ F d z, Ex F H ∧ Rp K F x d ∧ g d = some z ∧ ∀ v F' H', NewF F H F' H' → Rp K F' v z → Q v H'
def rDA (K : PySem.W.Frag) (g : List D → Option D) : List V → Hp → VK → Prop := fun xs H Q => ∃ F ds z, Ex F H ∧ RpAll K F xs ds ∧ g ds = some z ∧ ∀ v F' H', NewF F H F' H' → Rp K F' v z → Q v H'
/-- .. with a new list of one's own -/
def rDAo (K : PySem.W.Frag) (g : List D → Option (List D)) : List V → Hp → VK → Prop := fun xs H Q => ∃ F ds z, Ex F H ∧ RpAll K F xs ds ∧ g ds = some z ∧ ∀ p vs, H p = none → RpAll K F vs z → Q (.ref p) (upd H p (.lst vs))
def bin (g : D → D → Option D) (ma mb : M D) : M D := ma.bind fun x => mb.bind fun y => M.opt (g x y)
def una (g : D → Option D) (ma : M D) : M D := ma.bind fun x => M.opt (g x)
def nry (g : List D → Option D) (ms : M (List D)) : M D := ms.bind fun ds => M.opt (g ds)
def nryO (g : List D → Option (List D)) (ms : M (List D)) : M RV := ms.bind fun ds => M.opt ((g ds).map fun z => .o (.l z))
theorem opt_po {α : Type} {o : Option α} {r : En} {Xp : Exn → En → Prop} {k : α → En → Prop} (h : Po Xp (M.opt o r) k) : ∃ a, o = some a ∧ k a r := by
  cases o with
  | none => exact h.elim
  | some a => exact ⟨a, rfl, h⟩
theorem op_end {pa : Nat → Addr} {H0 F0 F H : Hp} {st : L2.St} {r r' : En} {d : D} {Q : VK} (k : Ok c.K pa H0 F0 F H st r) (q : ∀ F' H' v, Ok c.K pa H0 F0 F' H' st r → Ex F F' → Rp c.K F' v d → Q v H') :
    ∀ v F' H', NewF F H F' H' → Rp c.K F' v d → Q v H' := fun v F' H' n dp => by
  obtain ⟨k2, e2⟩ := n.ok k
  exact q F' H' v k2 e2 dp
theorem bin_ok {g : D → D → Option D} {ta tb : M D} {st : L2.St} {H : Hp} {Q : VK} (h : tM c (bin g ta tb) st H Q) : tOp (rD2 c.K g) (tM c ta) (tM c tb) st H Q := by
  obtain ⟨pa, H0, F0, F, r, ok, po⟩ := h
  refine seqM ok po fun d r1 F1 H1 v k1 e1 dp q => seqM k1 q fun d2 r2 F2 H2 v2 k2 e2 dp2 q2 => ?_
  obtain ⟨z, hz, q3⟩ := opt_po q2
  exact ⟨F2, d, d2, z, k2.fH, dp_mono e2 dp, dp2, hz, op_end (r' := r2) k2 fun F' H' v ok ex dp => q3 F' H' v ok ((e1.trans e2).trans ex) dp⟩
theorem e_op {op : Operator} {g : D → D → Option D} {a b : Expr} {ma mb : M D} {pos : Pos} (ho : OpR X (binaryOp op) (rD2 c.K g)) (ha : PE X a (tM c ma)) (hb : PE X b (tM c mb)) : PE X (.BinOp a op b pos) (tM c (bin g ma mb)) :=
  pe_cq (pe_op ho ha hb) fun _ _ _ h => bin_ok h
theorem e_cmp {op : CmpOp} {g : D → D → Option D} {a b : Expr} {ma mb : M D} {pos : Pos} (ho : OpR X (compareOp op) (rD2 c.K g)) (ha : PE X a (tM c ma)) (hb : PE X b (tM c mb)) (hm : behindInMarks op b = false := by first | exact nomark _ | rfl) : PE X (.Compare a [op] [b] pos) (tM c (bin g ma mb)) :=
  pe_cq (pe_cmpR ho ha hb hm) fun _ _ _ h => bin_ok h
theorem e_un {op : UnaryOp} {g : D → Option D} {a : Expr} {ma : M D} {pos : Pos} (ho : UnR X (unaryOp op) (rD1 c.K g)) (ha : PE X a (tM c ma)) : PE X (.UnaryOp op a pos) (tM c (una g ma)) :=
  pe_cq (pe_un ho ha) fun _ _ _ ⟨pa, H0, F0, F, r, ok, po⟩ => seqM ok po fun d r1 F1 H1 v k1 e1 dp q => by
    obtain ⟨z, hz, q3⟩ := opt_po q
    exact ⟨F1, d, z, k1.fH, dp, hz, op_end (r' := r1) k1 fun F' H' v ok ex dp => q3 F' H' v ok (e1.trans ex) dp⟩
theorem e_ix {g : D → D → Option D} {a b : Expr} {ma mb : M D} {pos : Pos} (ho : IxR X (rD2 c.K g)) (ha : PE X a (tM c ma)) (hb : PE X b (tM c mb)) (hs : PlainIx b := by exact fun _ _ => rfl) : PE X (.Subscript a b pos) (tM c (bin g ma mb)) :=
  pe_cq (pe_ix ho ha hb hs) fun _ _ _ h => bin_ok h
theorem e_callB {id : String} {g : List D → Option D} {x : Str} {e : Expr} {es : List Expr} {p pos : Pos} {ms : M (List D)} (hc : CallR X (.builtin id) (rDA c.K g)) (hm : X.mg x = none) (ha : PA X (e :: es) (tA c ms)) (hg : Gl X x := by rfl) (hv : bootBuiltins x = some (.builtin id) := by decide +kernel) (hn : x ≠ "__name__" := by decide) (hdb : (x == ("__debug__" : Str)) = false := by decide)
    (he : starEach (e :: es) X.env = (false, eval e X.env) :: starEach es X.env := by rfl) (hpl : (backTo pos (starEach es X.env)).any (·.1) = false := by rfl) : PE X (.Call (.Name x p) (e :: es) [] pos) (tM c (nry g ms)) :=
  pe_cq (pe_callB hc hg hm hv ha hn hdb he hpl) fun _ _ _ ⟨pa, H0, F0, F, r, ok, po⟩ => seqA ok po fun ds r1 F1 H1 vs k1 e1 dps q => by
    obtain ⟨z, hz, q3⟩ := opt_po q
    exact ⟨F1, ds, z, k1.fH, dps, hz, op_end (r' := r1) k1 fun F' H' v ok ex dp => q3 F' H' v ok (e1.trans ex) dp⟩
theorem e_callT {T : String} {g : List D → Option D} {x : Str} {e : Expr} {es : List Expr} {p pos : Pos} {ms : M (List D)} (hc : CallR X (.type T) (rDA c.K g)) (hm : X.mg x = none) (ha : PA X (e :: es) (tA c ms)) (hg : Gl X x := by rfl) (hv : bootBuiltins x = some (.type T) := by decide +kernel) (hn : x ≠ "__name__" := by decide) (hdb : (x == ("__debug__" : Str)) = false := by decide)
    (he : starEach (e :: es) X.env = (false, eval e X.env) :: starEach es X.env := by rfl) (hpl : (backTo pos (starEach es X.env)).any (·.1) = false := by rfl) : PE X (.Call (.Name x p) (e :: es) [] pos) (tM c (nry g ms)) :=
  pe_cq (pe_callTy hc hg hm hv ha hn hdb he hpl) fun _ _ _ ⟨pa, H0, F0, F, r, ok, po⟩ => seqA ok po fun ds r1 F1 H1 vs k1 e1 dps q => by
    obtain ⟨z, hz, q3⟩ := opt_po q
    exact ⟨F1, ds, z, k1.fH, dps, hz, op_end (r' := r1) k1 fun F' H' v ok ex dp => q3 F' H' v ok (e1.trans ex) dp⟩
theorem oA_end {pa : Nat → Addr} {H0 F0 F H : Hp} {st : L2.St} {r : En} {z : List D} {Q : VK} (k : Ok c.K pa H0 F0 F H st r) (q : ∀ F' H' v, Ok c.K pa H0 F0 F' H' st r → Ex F F' → RvOk c.K H0 F' H' st r v (.o (.l z)) → Q v H') :
    ∀ p vs, H p = none → RpAll c.K F vs z → Q (.ref p) (upd H p (.lst vs)) := fun p vs np dp => q F _ _ (k.lay np) (Ex.refl F) ⟨p, rfl, k.fH.nn np, k.hH.nn np, ⟨vs, upd_same, dp⟩, k.nobody np⟩
theorem o_callT {T : String} {g : List D → Option (List D)} {x : Str} {e : Expr} {es : List Expr} {p pos : Pos} {ms : M (List D)} (hc : CallR X (.type T) (rDAo c.K g)) (hm : X.mg x = none) (ha : PA X (e :: es) (tA c ms)) (hg : Gl X x := by rfl) (hv : bootBuiltins x = some (.type T) := by decide +kernel) (hn : x ≠ "__name__" := by decide) (hdb : (x == ("__debug__" : Str)) = false := by decide)
    (he : starEach (e :: es) X.env = (false, eval e X.env) :: starEach es X.env := by rfl) (hpl : (backTo pos (starEach es X.env)).any (·.1) = false := by rfl) : PE X (.Call (.Name x p) (e :: es) [] pos) (tO c (nryO g ms)) :=
  pe_cq (pe_callTy hc hg hm hv ha hn hdb he hpl) fun _ _ _ ⟨pa, H0, F0, F, r, ok, po⟩ => seqA ok po fun ds r1 F1 H1 vs k1 e1 dps q => by
    obtain ⟨z, hz, q3⟩ := opt_po q
    cases hg2 : g ds with
    | none =>
      rw [hg2] at hz
      cases hz
    | some w =>
      rw [hg2] at hz
      cases hz
      exact ⟨F1, ds, w, k1.fH, dps, hg2, oA_end k1 fun F' H' v ok ex dp => q3 F' H' v ok (e1.trans ex) dp⟩
theorem o_callB {id : String} {g : List D → Option (List D)} {x : Str} {e : Expr} {es : List Expr} {p pos : Pos} {ms : M (List D)} (hc : CallR X (.builtin id) (rDAo c.K g)) (hm : X.mg x = none) (ha : PA X (e :: es) (tA c ms)) (hg : Gl X x := by rfl) (hv : bootBuiltins x = some (.builtin id) := by decide +kernel) (hn : x ≠ "__name__" := by decide) (hdb : (x == ("__debug__" : Str)) = false := by decide)
    (he : starEach (e :: es) X.env = (false, eval e X.env) :: starEach es X.env := by rfl) (hpl : (backTo pos (starEach es X.env)).any (·.1) = false := by rfl) : PE X (.Call (.Name x p) (e :: es) [] pos) (tO c (nryO g ms)) :=
  pe_cq (pe_callB hc hg hm hv ha hn hdb he hpl) fun _ _ _ ⟨pa, H0, F0, F, r, ok, po⟩ => seqA ok po fun ds r1 F1 H1 vs k1 e1 dps q => by
    obtain ⟨z, hz, q3⟩ := opt_po q
    cases hg2 : g ds with
    | none =>
      rw [hg2] at hz
      cases hz
    | some w =>
      rw [hg2] at hz
      cases hz
      exact ⟨F1, ds, w, k1.fH, dps, hg2, oA_end k1 fun F' H' v ok ex dp => q3 F' H' v ok (e1.trans ex) dp⟩

/-! ### tests -/
def tru : D → Option Bool
  | .none => some false
  | .bool b => some b
  | .int i => some (i != 0)
  | .str x => if x.length ≤ 16777216 then some ((x.length : Int) != 0) else none
  | .list ds => some (!ds.isEmpty)
  | .tuple ds => some (!ds.isEmpty)
  | .dict _ => none
def tBool (m : M D) : M Bool := m.bind fun d => M.opt (match d with
  | .bool b => some b
  | _ => none)
def tTru (m : M D) : M Bool := m.bind fun d => M.opt (tru d)
def tNotM (m : M Bool) : M Bool := m.bind fun b => M.ret (!b)
def tAndM (m n : M Bool) : M Bool := m.bind fun b => if b = true then n else M.ret false
def tOrM (m n : M Bool) : M Bool := m.bind fun b => if b = true then M.ret true else n
theorem dpa_emp {K : PySem.W.Frag} {F : Hp} : ∀ {vs : List V} {ds : List D}, RpAll K F vs ds → (!ds.isEmpty) = !vs.isEmpty
  | _, _, .nil => rfl
  | _, _, .cons _ _ => rfl
/-- a comparison as a test -/
theorem t_cmp {op : CmpOp} {g : D → D → Option D} {a b : Expr} {ma mb : M D} {pos : Pos} (ho : OpR X (compareOp op) (rD2 c.K g)) (ha : PE X a (tM c ma)) (hb : PE X b (tM c mb)) (hm : behindInMarks op b = false := by first | exact nomark _ | rfl) : PT X (.Compare a [op] [b] pos) (tT c (tBool (bin g ma mb))) :=
  pt_cq (pt_cmpR ho ha hb hm) fun st H Q h => by
    obtain ⟨pa, H0, F0, F, r, ok, po⟩ := h
    refine bin_ok ?_
    refine seqM ok po fun d r1 F1 H1 v k1 e1 dp q => ?_
    obtain ⟨b, hb, q⟩ := opt_po q
    cases dp with
    | bl b' =>
      cases hb
      exact ⟨_, rfl, q F1 H1 k1 e1⟩
    | _ => cases hb
theorem rp_ne_cls {K : PySem.W.Frag} {F : Hp} {v : V} {d : D} (h : Rp K F v d) : True := trivial
theorem t_tru {e : Expr} {m : M D} (h : PE X e (tM c m)) (hK : c.K = X.K := by rfl) (he : ∀ whole, isTrue e X.env whole = (do let v ← whole; standAt e.pos; holding [v] (truthy v)) := by intro _; rfl) : PT X e (tT c (tTru m)) :=
  pt_cq (pt_truth h he) fun st H Q ⟨pa, H0, F0, F, r, ok, po⟩ => seqM ok po fun d r1 F1 H1 v k1 e1 dp q => by
    obtain ⟨b, hb, q⟩ := opt_po q
    have fin := q F1 H1 k1 e1
    cases dp with
    | non => cases hb; exact ⟨_, rfl, fin⟩
    | bl b' => cases hb; exact ⟨_, rfl, fin⟩
    | int i => cases hb; exact ⟨_, rfl, fin⟩
    | str x =>
      have hb : (if x.length ≤ 16777216 then some ((x.length : Int) != 0) else none) = some b := hb
      by_cases hx : x.length ≤ 16777216
      · rw [if_pos hx] at hb
        cases hb
        exact ⟨_, ⟨by rw [sizeLine_eq]; exact hx, rfl⟩, fin⟩
      · rw [if_neg hx] at hb
        cases hb
    | lst h1 h2 =>
      cases hb
      exact ⟨_, .inl ⟨_, by rw [← hK]; exact k1.fH.l h1, dpa_emp h2⟩, fin⟩
    | tup h1 h2 =>
      cases hb
      exact ⟨_, .inr (.inl ⟨_, by rw [← hK]; exact k1.fH.t h1, dpa_emp h2⟩), fin⟩
    | _ => cases hb
theorem t_not {e : Expr} {m : M Bool} {pos : Pos} (h : PT X e (tT c m)) : PT X (.UnaryOp .Not e pos) (tT c (tNotM m)) :=
  pt_cq (pt_not h) fun st H Q ⟨pa, H0, F0, F, r, ok, po⟩ => seqT ok po fun b r1 F1 H1 k1 e1 q => q F1 H1 k1 e1
theorem w_and1 {e : Expr} {m : M Bool} {pos : Pos} (h : PT X e (tT c m)) : PW X (.BoolOp .And [e] pos) (tT c m) := pw_and1 h
theorem w_or1 {e : Expr} {m : M Bool} {pos : Pos} (h : PT X e (tT c m)) : PW X (.BoolOp .Or [e] pos) (tT c m) := pw_or1 h
theorem w_and {a b : Expr} {rest : List Expr} {m n : M Bool} {pos : Pos} (h : PT X a (tT c m)) (h2 : PW X (.BoolOp .And (b :: rest) pos) (tT c n)) : PW X (.BoolOp .And (a :: b :: rest) pos) (tT c (tAndM m n)) :=
  pw_cq (pw_and h h2) fun st H Q ⟨pa, H0, F0, F, r, ok, po⟩ => seqT ok po fun b r1 F1 H1 k1 e1 q => by
    cases b with
    | true => exact againT k1 e1 q
    | false => exact q F1 H1 k1 e1
theorem w_or {a b : Expr} {rest : List Expr} {m n : M Bool} {pos : Pos} (h : PT X a (tT c m)) (h2 : PW X (.BoolOp .Or (b :: rest) pos) (tT c n)) : PW X (.BoolOp .Or (a :: b :: rest) pos) (tT c (tOrM m n)) :=
  pw_cq (pw_or h h2) fun st H Q ⟨pa, H0, F0, F, r, ok, po⟩ => seqT ok po fun b r1 F1 H1 k1 e1 q => by
    cases b with
    | true => exact q F1 H1 k1 e1
    | false => exact againT k1 e1 q
/-! ### and, or, not as values -/
def eBl (m : M D) : M Bool := tBool m
def eNot (m : M D) : M D := (tBool m).bind fun b => M.ret (.bool (!b))
def eAnd (m n : M D) : M D := (tBool m).bind fun b => if b = true then n else M.ret (.bool false)
def eOr (m n : M D) : M D := (tBool m).bind fun b => if b = true then M.ret (.bool true) else n
theorem seqB {α : Type} {pa : Nat → Addr} {H0 F0 F H : Hp} {st : L2.St} {r : En} {ma : M D} {f : Bool → M α} {k : α → En → Prop} {Q : VK} (ok : Ok c.K pa H0 F0 F H st r) (po : Po (XW c pa H0 F0 F) ((tBool ma).bind f r) k)
    (h : ∀ b r1 F1 H1, Ok c.K pa H0 F0 F1 H1 st r1 → Ex F F1 → Po (XW c pa H0 F0 F1) (f b r1) k → Q (.bl b) H1) : tM c ma st H Q := by
  have po2 : Po (XW c pa H0 F0 F) (ma.bind (fun d => (M.opt (match d with
    | .bool b => some b
    | _ => none)).bind f) r) k := by
    unfold tBool M.bind at po
    unfold M.bind
    cases hm : ma r with
    | ok d r1 =>
      rw [hm] at po
      exact po
    | ex e r1 =>
      rw [hm] at po
      exact po
    | no =>
      rw [hm] at po
      exact po
  refine seqM ok po2 fun d r1 F1 H1 v k1 e1 dp q => ?_
  cases dp with
  | bl b => exact h b r1 F1 H1 k1 e1 q
  | _ => exact q.elim
theorem e_not {e : Expr} {m : M D} {pos : Pos} (h : PE X e (tM c m)) : PE X (.UnaryOp .Not e pos) (tM c (eNot m)) :=
  pe_cq (pe_not h) fun st H Q ⟨pa, H0, F0, F, r, ok, po⟩ => seqB ok po fun b r1 F1 H1 k1 e1 q => ⟨b, rfl, q F1 H1 _ k1 e1 (.bl _)⟩
theorem e_one {op} {e : Expr} {m : M D} {pos : Pos} (h : PE X e (tM c m)) : PE X (.BoolOp op [e] pos) (tM c m) := pe_one h
theorem e_and {a b : Expr} {rest : List Expr} {m n : M D} {pos : Pos} (h : PE X a (tM c m)) (h2 : PE X (.BoolOp .And (b :: rest) pos) (tM c n)) : PE X (.BoolOp .And (a :: b :: rest) pos) (tM c (eAnd m n)) :=
  pe_cq (pe_and h h2) fun st H Q ⟨pa, H0, F0, F, r, ok, po⟩ => seqB ok po fun b r1 F1 H1 k1 e1 q => ⟨b, rfl, by
    cases b with
    | true => exact againM k1 e1 q
    | false => exact q F1 H1 _ k1 e1 (.bl _)⟩
theorem e_or {a b : Expr} {rest : List Expr} {m n : M D} {pos : Pos} (h : PE X a (tM c m)) (h2 : PE X (.BoolOp .Or (b :: rest) pos) (tM c n)) : PE X (.BoolOp .Or (a :: b :: rest) pos) (tM c (eOr m n)) :=
  pe_cq (pe_or h h2) fun st H Q ⟨pa, H0, F0, F, r, ok, po⟩ => seqB ok po fun b r1 F1 H1 k1 e1 q => ⟨b, rfl, by
    cases b with
    | true => exact q F1 H1 _ k1 e1 (.bl _)
    | false => exact againM k1 e1 q⟩
/-- a if t else b -/
def eIf (t : M Bool) (m n : M D) : M D := t.bind fun b => if b = true then m else n
theorem e_if {t a b : Expr} {mt : M Bool} {m n : M D} {pos : Pos} (ht : PT X t (tT c mt)) (ha : PE X a (tM c m)) (hb : PE X b (tM c n)) : PE X (.IfExp t a b pos) (tM c (eIf mt m n)) :=
  pe_cq (pe_ifExp ht ha hb) fun st H Q ⟨pa, H0, F0, F, r, ok, po⟩ => seqT ok po fun b r1 F1 H1 k1 e1 q => by
    cases b with
    | true => exact againM k1 e1 q
    | false => exact againM k1 e1 q
end
end Pu

namespace Pu
open PySem PySem.Spec PyProof.Rows L2
variable [TabT]

/-! ### storing -/
def setN (i : Nat) (s : Sl) (r : En) : Option En := match r[i]? with
  | some (.io _) => none
  | some _ => some (r.set i s)
  | none => none
theorem setN_some {i : Nat} {s : Sl} {r r' : En} (h : setN i s r = some r') : r' = r.set i s ∧ ∀ q, r[i]? = some q → q.isIo = false := by
  unfold setN at h
  split at h
  · cases h
  · rename_i q hn hq
    cases h
    refine ⟨rfl, fun q' e => ?_⟩
    rw [hq] at e
    cases e
    cases q with
    | io c => exact absurd rfl (hn c)
    | _ => rfl
  · cases h
def setM (i : Nat) (s : Sl) : M Fl := fun r => match setN i s r with
  | some r' => .ok .nx r'
  | none => .no
theorem setM_po {i : Nat} {s : Sl} {r : En} {Xp : Exn → En → Prop} {k : Fl → En → Prop} (h : Po Xp (setM i s r) k) : k .nx (r.set i s) ∧ ∀ q, r[i]? = some q → q.isIo = false := by
  unfold setM at h
  cases e : setN i s r with
  | none =>
    rw [e] at h
    exact h.elim
  | some r' =>
    rw [e] at h
    obtain ⟨rfl, h2⟩ := setN_some e
    exact ⟨h, h2⟩
def slOf : RV → Sl
  | .v d => .v d
  | .o c => .o c
def sSet (i : Nat) (m : M D) : M Fl := m.bind fun d => setM i (.v d)
def sSetO (i : Nat) (m : M RV) : M Fl := m.bind fun d => setM i (slOf d)
def sNil : M Fl := M.ret .nx
def sSeq (m n : M Fl) : M Fl := m.bind fun fl => match fl with
  | .nx => n
  | f => M.ret f
def sIf (t : M Bool) (a b : M Fl) : M Fl := t.bind fun x => if x = true then a else b
def sRet (m : M RV) : M Fl := m.bind fun d => M.ret (.rt d)
def sDrop (m : M D) : M Fl := m.bind fun _ => M.ret .nx
def sDropO (m : M RV) : M Fl := m.bind fun _ => M.ret .nx
section
variable {X : Cx} {c : Cc} {K : PySem.W.Frag} {pa : Nat → Addr} {H0 F0 F H : Hp} {st0 : L2.St} {r0 : En}
theorem Ok.setRv (k : Ok K pa H0 F0 F H st0 r0) {i : Nat} {v : V} {d : RV} (hi : ∀ q, r0[i]? = some q → q.isIo = false) (h : RvOk K H0 F H st0 r0 v d) : Ok K pa H0 F0 F H (st0.set i (some v)) (r0.set i (slOf d)) := by
  cases d with
  | v d => exact k.setV hi h
  | o ct =>
    obtain ⟨a, rfl, z1, z2, z3, z4⟩ := h
    refine k.set (s := .o ct) hi rfl ⟨a, rfl, z1, z2, z3⟩ fun a' c' _ e j q c2 _ hj hq => ?_
    cases e
    exact z4 j q c2 hj hq
theorem s_set {i : Nat} {x : Str} {e : Expr} {m : M D} {pos pos' : Pos} (he : PE X e (tM c m)) (hN : X.N.Nodup) (hi : X.N[i]? = some x := by rfl) (hx : Loc X.env.scope x := by first | exact Or.inl rfl | exact Or.inr rfl)
    (hs : swapsWith e (some (.Name x pos')) pos.line X.env = pure false := by rfl) (hf : X.fn x = true ∨ X.env.scope.names.lookup x = some .local := by first | exact .inl rfl | exact .inr rfl) : PS X (.Assign [.Name x pos'] e pos) (sM c (sSet i m)) :=
  ps_cq (ps_set hN hi hx he hs hf) fun Dd st H ⟨pa, H0, F0, F, r, ok, po⟩ => seqM ok po fun d r1 F1 H1 v k1 e1 dp q => by
    obtain ⟨q, hi⟩ := setM_po q
    exact q F1 H1 _ (k1.setV hi dp) e1
theorem s_setO {i : Nat} {x : Str} {e : Expr} {m : M RV} {pos pos' : Pos} (he : PE X e (tO c m)) (hN : X.N.Nodup) (hi : X.N[i]? = some x := by rfl) (hx : Loc X.env.scope x := by first | exact Or.inl rfl | exact Or.inr rfl)
    (hs : swapsWith e (some (.Name x pos')) pos.line X.env = pure false := by rfl) (hf : X.fn x = true ∨ X.env.scope.names.lookup x = some .local := by first | exact .inl rfl | exact .inr rfl) : PS X (.Assign [.Name x pos'] e pos) (sM c (sSetO i m)) :=
  ps_cq (ps_set hN hi hx he hs hf) fun Dd st H ⟨pa, H0, F0, F, r, ok, po⟩ => seqO ok po fun d r1 F1 H1 v k1 e1 dp q => by
    obtain ⟨q, hi⟩ := setM_po q
    exact q F1 H1 _ (k1.setRv hi dp) e1
theorem ss_nil : PSs X [] (sM c sNil) := pss_cq pss_nil fun Dd st H ⟨pa, H0, F0, F, r, ok, po⟩ => po F H st ok (Ex.refl F)
theorem seqS {s1 : M Fl} {t : TS} {n : M Fl} {Dd : Ends} {st : L2.St} {H : Hp} (h : sM c (sSeq s1 n) Dd st H) (ht : ∀ Dd st H, sM c n Dd st H → t Dd st H) : sM c s1 { Dd with nx := t Dd } st H := by
  obtain ⟨pa, H0, F0, F, r, ok, po⟩ := h
  refine ⟨pa, H0, F0, F, r, ok, (Po.bind po).mono (fun _ _ x => x) fun fl r1 q => ?_⟩
  cases fl with
  | nx => exact fun F' H' st' k e => ht Dd st' H' (againS k e (q.mono (XW.mono e) fun _ _ x => x))
  | bk => exact q
  | ct => exact q
  | rt rv => exact q
theorem ss_cons {s : Stmt} {rest : List Stmt} {m n : M Fl} (h1 : PS X s (sM c m)) (h2 : PSs X rest (sM c n)) : PSs X (s :: rest) (sM c (sSeq m n)) :=
  pss_cq (pss_cons h1 h2) fun Dd st H h => seqS h fun _ _ _ x => x
theorem ss_one {s : Stmt} {m : M Fl} (h1 : PS X s (sM c m)) : PSs X [s] (sM c m) := pss_one h1
theorem s_pass {pos : Pos} : PS X (.Pass pos) (sM c sNil) := ps_cq ps_pass fun Dd st H ⟨pa, H0, F0, F, r, ok, po⟩ => po F H st ok (Ex.refl F)
theorem s_break {pos : Pos} : PS X (.Break pos) (sM c (M.ret .bk)) := ps_cq ps_break fun Dd st H ⟨pa, H0, F0, F, r, ok, po⟩ => po F H st ok (Ex.refl F)
theorem s_cont {pos : Pos} : PS X (.Continue pos) (sM c (M.ret .ct)) := ps_cq ps_continue fun Dd st H ⟨pa, H0, F0, F, r, ok, po⟩ => po F H st ok (Ex.refl F)
theorem s_if {t : Expr} {a b : List Stmt} {mt : M Bool} {ma mb : M Fl} {pos : Pos} (ht : PT X t (tT c mt)) (ha : PSs X a (sM c ma)) (hb : PSs X b (sM c mb)) : PS X (.If t a b pos) (sM c (sIf mt ma mb)) :=
  ps_cq (ps_if ht ha hb) fun Dd st H ⟨pa, H0, F0, F, r, ok, po⟩ => seqT ok po fun b r1 F1 H1 k1 e1 q => by
    cases b with
    | true => exact againS k1 e1 q
    | false => exact againS k1 e1 q
theorem s_ret {e : Expr} {m : M RV} {pos : Pos} (h : PE X e (tO c m)) : PS X (.Return (some e) pos) (sM c (sRet m)) :=
  ps_cq (ps_ret h) fun Dd st H ⟨pa, H0, F0, F, r, ok, po⟩ => seqO ok po fun d r1 F1 H1 v k1 e1 dp q => q F1 H1 st v k1 e1 dp
theorem s_retN {pos : Pos} : PS X (.Return none pos) (sM c (M.ret (.rt (.v .none)))) :=
  ps_cq ps_retN fun Dd st H ⟨pa, H0, F0, F, r, ok, po⟩ => po F H st .non ok (Ex.refl F) .non
theorem s_expr {e : Expr} {m : M D} {pos : Pos} (h : PE X e (tM c m)) (hs : swapsWith e none pos.line X.env = pure false := by rfl) : PS X (.Expr e pos) (sM c (sDrop m)) :=
  ps_cq (ps_expr h hs) fun Dd st H ⟨pa, H0, F0, F, r, ok, po⟩ => seqM ok po fun d r1 F1 H1 v k1 e1 dp q => q F1 H1 st k1 e1
theorem s_exprO {e : Expr} {m : M RV} {pos : Pos} (h : PE X e (tO c m)) (hs : swapsWith e none pos.line X.env = pure false := by rfl) : PS X (.Expr e pos) (sM c (sDropO m)) :=
  ps_cq (ps_expr h hs) fun Dd st H ⟨pa, H0, F0, F, r, ok, po⟩ => seqO ok po fun d r1 F1 H1 v k1 e1 dp q => q F1 H1 st k1 e1
/-! ### an owned variable frozen, taken -/
def frzE (i : Nat) (r : En) : En := match r[i]? with
  | some (.o (.l ds)) => r.set i (.v (.list ds))
  | _ => r
def frz (i : Nat) {α : Type} (m : M α) : M α := fun r => m (frzE i r)
theorem Ok.frzE (k : Ok K pa H0 F0 F H st0 r0) (i : Nat) : ∃ F', Ok K pa H0 F0 F' H st0 (frzE i r0) ∧ Ex F F' := by
  unfold Pu.frzE
  split
  · exact k.freeze (by assumption)
  · exact ⟨F, k, Ex.refl F⟩
theorem s_frz (i : Nat) {s : Stmt} {m : M Fl} (h : PS X s (sM c m)) : PS X s (sM c (frz i m)) :=
  ps_cq h fun Dd st H ⟨pa, H0, F0, F, r, ok, po⟩ => by
    obtain ⟨F', k, e⟩ := ok.frzE i
    exact ⟨pa, H0, F0, F', _, k, po.mono (XW.mono e) fun _ _ q => q.mono e⟩
theorem t_frz (i : Nat) {s : Expr} {m : M Bool} (h : PT X s (tT c m)) : PT X s (tT c (frz i m)) :=
  pt_cq h fun st H Q ⟨pa, H0, F0, F, r, ok, po⟩ => by
    obtain ⟨F', k, e⟩ := ok.frzE i
    exact againT k e (po.mono (XW.mono e) fun _ _ q => q)
def takeS (i : Nat) : M RV := fun r => match r[i]? with
  | some (.v d) => .ok (.v d) r
  | some (.o ct) => .ok (.o ct) (r.set i .unk)
  | _ => .no
theorem set_same {st : L2.St} {i : Nat} {v : Option V} (h : st[i]? = some v) : st.set i v = st := by
  apply List.ext_getElem?
  intro j
  by_cases e : i = j
  · subst e
    rw [List.getElem?_set_self (List.getElem?_eq_some_iff.mp h).1, h]
  · rw [List.getElem?_set_ne e]
theorem o_take (i : Nat) {x : Str} {pos : Pos} (hN : X.N[i]? = some x := by rfl) (hv : Vis X.env.scope x := by first | exact Or.inl rfl | exact Or.inr (Or.inl rfl) | exact Or.inr (Or.inr rfl)) (hd : (x == ("__debug__" : Str)) = false := by decide)
    (hcd : (x == ("__classdict__" : Str)) = false := by decide) : PE X (.Name x pos) (tO c (takeS i)) :=
  pe_cq (pe_var (i := i) hN hv hd hcd) fun st H Q ⟨pa, H0, F0, F, r, ok, po⟩ => by
    unfold takeS at po
    split at po
    · rename_i d h
      obtain ⟨v, e1, e2⟩ := ok.val h
      exact ⟨v, e1, po F H v ok (Ex.refl F) e2⟩
    · rename_i ct h
      obtain ⟨a, z1, z2, z3, z4⟩ := ok.ownd h rfl
      have k2 := ok.forget (i := i) (x := some (V.ref a))
      rw [set_same z1] at k2
      refine ⟨_, z1, po F H _ k2 (Ex.refl F) ⟨a, rfl, z2, z3, z4, fun j s c' hj hc hst => ?_⟩⟩
      by_cases e : i = j
      · subst e
        rw [List.getElem?_set_self (List.getElem?_eq_some_iff.mp h).1] at hj
        cases hj
        cases hc
      · rw [List.getElem?_set_ne e] at hj
        exact ok.dis i j _ s _ c' a e h hj rfl hc z1 hst
    · exact po.elim
end

/-! ### targets -/
def Agr (is : List Nat) (st st' : L2.St) : Prop := st'.length = st.length ∧ ∀ j, j ∉ is → st'[j]? = st[j]?
/-- what is stored where: a datum to a target -/
abbrev Tg := D → En → Option En
abbrev Tgs := List D → En → Option En
def gM (K : PySem.W.Frag) (is : List Nat) (tg : Tg) : TG := fun v st H Q => ∃ pa H0 F0 F r d r', Ok K pa H0 F0 F H st r ∧ Rp K F v d ∧ tg d r = some r' ∧ ∀ st', Ok K pa H0 F0 F H st' r' → Agr is st st' → Q st' H
def gMs (K : PySem.W.Frag) (is : List Nat) (tg : Tgs) : TGs := fun vs st H Q => ∃ pa H0 F0 F r ds r', Ok K pa H0 F0 F H st r ∧ RpAll K F vs ds ∧ tg ds r = some r' ∧ ∀ st', Ok K pa H0 F0 F H st' r' → Agr is st st' → Q st' H
def gN (i : Nat) : Tg := fun d r => setN i (.v d) r
def gT (tg : Tgs) : Tg := fun d r => match d with
  | .tuple ds => tg ds r
  | .list ds => tg ds r
  | _ => none
def gNl : Tgs := fun ds r => match ds with
  | [] => some r
  | _ => none
def gCn (t : Tg) (ts : Tgs) : Tgs := fun ds r => match ds with
  | d :: ds => (t d r).bind fun r' => ts ds r'
  | _ => none
section
variable {X : Cx} {c : Cc}
theorem pg_cq {e : Expr} {t t' : TG} (h : PG X e t) (i : ∀ v st H Q, t' v st H Q → t v st H Q) : PG X e t' := ⟨fun pins s st H v u Q I rv q => h.run pins s st H v u Q I rv (i v st H Q q)⟩
theorem pgs_cq {e : List Expr} {t t' : TGs} (h : PGs X e t) (i : ∀ v st H Q, t' v st H Q → t v st H Q) : PGs X e t' := ⟨fun pins s st H v u Q I rv q => h.run pins s st H v u Q I rv (i v st H Q q)⟩
theorem g_name (i : Nat) {K : PySem.W.Frag} {x : Str} {pos : Pos} (hN : X.N.Nodup) (hi : X.N[i]? = some x := by rfl) (hx : Loc X.env.scope x := by first | exact Or.inl rfl | exact Or.inr rfl) (hf : X.fn x = true ∨ X.env.scope.names.lookup x = some .local := by first | exact .inl rfl | exact .inr rfl) : PG X (.Name x pos) (gM K [i] (gN i)) :=
  pg_cq (pg_name hN hi hx hf) fun v st H Q ⟨pa, H0, F0, F, r, d, r', ok, dp, e, q⟩ => by
    obtain ⟨rfl, h2⟩ := setN_some e
    exact q _ (ok.setV h2 dp) ⟨List.length_set, fun j hj => List.getElem?_set_ne (fun z => hj (by rw [z]; exact List.mem_singleton.mpr rfl))⟩
theorem g_nil {K : PySem.W.Frag} : PGs X [] (gMs K [] gNl) := pgs_cq pgs_nil fun v st H Q ⟨pa, H0, F0, F, r, ds, r', ok, dp, e, q⟩ => by
  cases dp with
  | nil =>
    cases e
    exact ⟨rfl, q st ok ⟨rfl, fun _ _ => rfl⟩⟩
  | cons _ _ => cases e
theorem g_cons {K : PySem.W.Frag} {e : Expr} {es : List Expr} {is js : List Nat} {t : Tg} {ts : Tgs} (h1 : PG X e (gM K is t)) (h2 : PGs X es (gMs K js ts)) (hs : (assignEach (e :: es) X.env).map (·.2) = assign e X.env :: (assignEach es X.env).map (·.2) := by rfl) : PGs X (e :: es) (gMs K (is ++ js) (gCn t ts)) :=
  pgs_cq (pgs_cons h1 h2 hs) fun v st H Q ⟨pa, H0, F0, F, r, ds, r', ok, dp, e, q⟩ => by
    cases dp with
    | nil => cases e
    | @cons v0 vs d ds d0 dr =>
      have e : (t d r).bind (fun r' => ts ds r') = some r' := e
      cases ht : t d r with
      | none =>
        rw [ht] at e
        cases e
      | some r1 =>
        rw [ht] at e
        refine ⟨v0, vs, rfl, pa, H0, F0, F, r, d, r1, ok, d0, ht, fun st' k1 ag => ⟨pa, H0, F0, F, r1, ds, r', k1, dr, e, fun st2 k2 ag2 => q st2 k2 ⟨ag2.1.trans ag.1, fun j hj => ?_⟩⟩⟩
        rw [ag2.2 j (fun z => hj (List.mem_append_right _ z)), ag.2 j (fun z => hj (List.mem_append_left _ z))]
theorem pg_or' {e : Expr} {t t' : TG} (h : PG X e t) (h' : PG X e t') : PG X e (fun v st H Q => t v st H Q ∨ t' v st H Q) := ⟨fun pins s st H v u Q I rv q => q.elim (h.run pins s st H v u Q I rv) (h'.run pins s st H v u Q I rv)⟩
theorem g_tup {es : List Expr} {k : Nat} {pos : Pos} {is : List Nat} {ts : Tgs} {n : Nat} (h : PGs X es (gMs X.K is ts)) (hl : ∀ ds r r', ts ds r = some r' → ds.length = n) (hc : X.calm = true := by rfl) (hn : (assignEach es X.env).length = n := by rfl) (hst : (assignEach es X.env).findIdx? (·.1) = none := by rfl) : PG X (.Tuple es k pos) (gM X.K is (gT ts)) :=
  pg_cq (pg_or' (pg_tup hc h hn hst) (pg_unl hc h hn hst)) fun v st H Q ⟨pa, H0, F0, F, r, d, r', ok, dp, e, q⟩ => by
    cases dp with
    | @tup a xs ds h1 h2 =>
      have e : ts ds r = some r' := e
      exact .inl ⟨a, xs, rfl, ok.fH.t h1, (dpa_len h2).trans (hl _ _ _ e), pa, H0, F0, F, r, ds, r', ok, h2, e, q⟩
    | @lst a xs ds h1 h2 =>
      have e : ts ds r = some r' := e
      exact .inr ⟨a, xs, rfl, ok.fH.l h1, (dpa_len h2).trans (hl _ _ _ e), pa, H0, F0, F, r, ds, r', ok, h2, e, q⟩
    | _ => cases e
theorem gNl_len : ∀ ds r r', gNl ds r = some r' → ds.length = 0 := fun ds r r' h => by
  cases ds with
  | nil => rfl
  | cons _ _ => cases h
theorem gCn_len {t : Tg} {ts : Tgs} {n : Nat} (h : ∀ ds r r', ts ds r = some r' → ds.length = n) : ∀ ds r r', gCn t ts ds r = some r' → ds.length = n + 1 := fun ds r r' e => by
  cases ds with
  | nil => cases e
  | cons d ds =>
    have e : (t d r).bind (fun r' => ts ds r') = some r' := e
    cases ht : t d r with
    | none =>
      rw [ht] at e
      cases e
    | some r1 =>
      rw [ht] at e
      exact congrArg Nat.succ (h ds r1 r' e)
/-- target = e -/
def sAsg (tg : Tg) (m : M D) : M Fl := m.bind fun d r => match tg d r with
  | some r' => .ok .nx r'
  | none => .no
theorem s_asg {tg e : Expr} {m : M D} {is : List Nat} {t : Tg} {pos : Pos} (he : PE X e (tM c m)) (hg : PG X tg (gM c.K is t)) (hs : swapsWithSole [tg] e pos.line X.env = pure false := by rfl) (hw : swappedStores [tg] e X.env = pure none := by rfl)
    (h1 : (assignEach [tg] X.env).map (·.2) = [assign tg X.env] := by rfl) : PS X (.Assign [tg] e pos) (sM c (sAsg t m)) :=
  ps_cq (ps_asg he hg hs hw h1) fun Dd st H ⟨pa, H0, F0, F, r, ok, po⟩ => seqM ok po fun d r1 F1 H1 v k1 e1 dp q => by
    cases ht : t d r1 with
    | none =>
      rw [ht] at q
      exact q.elim
    | some r2 =>
      rw [ht] at q
      exact ⟨pa, H0, F0, F1, r1, d, r2, k1, dp, ht, fun st' k2 _ => q F1 H1 st' k2 e1⟩
/-- x, y = a, b -/
def sPar (i j : Nat) (ms : M (List D)) : M Fl := ms.bind fun ds => match ds with
  | [a, b] => fun r => match (setN i (.v a) r).bind (setN j (.v b)) with
    | some r' => .ok .nx r'
    | none => .no
  | _ => M.no
theorem s_par {i j : Nat} {x y : Str} {a b : Expr} {ms : M (List D)} {px py pt pos : Pos} {kt k2 pt2} (ha : PA X [a, b] (tA c ms)) (hN : X.N.Nodup) (hc : X.calm = true := by rfl) (hi : X.N[i]? = some x := by rfl) (hj : X.N[j]? = some y := by rfl) (hij : i ≠ j := by decide)
    (hx : X.env.scope.names.lookup x = some .local := by rfl) (hy : X.env.scope.names.lookup y = some .local := by rfl)
    (hw : swappedStores [.Tuple [.Name x px, .Name y py] kt pt] (.Tuple [a, b] k2 pt2) X.env = pure (some [x, y]) := by rfl)
    (hs : swapsWithSole [.Tuple [.Name x px, .Name y py] kt pt] (.Tuple [a, b] k2 pt2) pos.line X.env = pure false := by rfl) :
    PS X (.Assign [.Tuple [.Name x px, .Name y py] kt pt] (.Tuple [a, b] k2 pt2) pos) (sM c (sPar i j ms)) :=
  ps_cq (ps_par hc hN hi hj hij hx hy ha hw hs) fun Dd st H ⟨pa, H0, F0, F, r, ok, po⟩ => seqA ok po fun ds r1 F1 H1 vs k1 e1 dps q => by
    cases dps with
    | nil => exact q.elim
    | @cons v1 _ da _ d1 t1 =>
      cases t1 with
      | nil => exact q.elim
      | @cons v2 _ db _ d2 t2 =>
        cases t2 with
        | cons _ _ => exact q.elim
        | nil =>
          refine ⟨v1, v2, rfl, ?_⟩
          have q : Po (XW c pa H0 F0 F1) (match (setN i (.v da) r1).bind (setN j (.v db)) with
            | some r' => .ok .nx r'
            | none => .no) (fun fl r' => flEnd c.K pa H0 F0 F Dd r' fl) := q
          cases h1 : setN i (.v da) r1 with
          | none =>
            rw [h1] at q
            exact q.elim
          | some r2 =>
            rw [h1] at q
            cases h2 : setN j (.v db) r2 with
            | none =>
              have q : Po (XW c pa H0 F0 F1) (match setN j (.v db) r2 with
                | some r' => .ok .nx r'
                | none => .no) (fun fl r' => flEnd c.K pa H0 F0 F Dd r' fl) := q
              rw [h2] at q
              exact q.elim
            | some r3 =>
              have q : Po (XW c pa H0 F0 F1) (match setN j (.v db) r2 with
                | some r' => .ok .nx r'
                | none => .no) (fun fl r' => flEnd c.K pa H0 F0 F Dd r' fl) := q
              rw [h2] at q
              obtain ⟨rfl, z1⟩ := setN_some h1
              obtain ⟨rfl, z2⟩ := setN_some h2
              exact q F1 H1 _ ((k1.setV z1 d1).setV z2 d2) e1
end

/-! ### loops -/
def forL (tg : Tg) (b : M Fl) : List D → M Fl
  | [], r => .ok .nx r
  | x :: xs, r => match tg x r with
    | none => .no
    | some r1 => match b r1 with
      | .ok .nx r2 => forL tg b xs r2
      | .ok .ct r2 => forL tg b xs r2
      | .ok .bk r2 => .ok .nx r2
      | .ok (.rt v) r2 => .ok (.rt v) r2
      | .ex e r2 => .ex e r2
      | .no => .no
def sFor (src : M (List D)) (tg : Tg) (b : M Fl) : M Fl := src.bind fun xs => forL tg b xs
def wloop (t : M Bool) (b : M Fl) : Nat → M Fl
  | 0, _ => .no
  | n + 1, r => match t r with
    | .ok true r1 => (match b r1 with
      | .ok .nx r2 => wloop t b n r2
      | .ok .ct r2 => wloop t b n r2
      | .ok .bk r2 => .ok .nx r2
      | .ok (.rt v) r2 => .ok (.rt v) r2
      | .ex e r2 => .ex e r2
      | .no => .no)
    | .ok false r1 => .ok .nx r1
    | .ex e r1 => .ex e r1
    | .no => .no
open Classical in
noncomputable def sWhile (t : M Bool) (b : M Fl) : M Fl := fun r => if h : ∃ n, wloop t b n r ≠ .no then wloop t b (Classical.choose h) r else .no
theorem wloop_mono {t : M Bool} {b : M Fl} : ∀ {n : Nat} {r : En}, wloop t b n r ≠ .no → ∀ m, n ≤ m → wloop t b m r = wloop t b n r := by
  intro n
  induction n with
  | zero => intro r h; exact absurd rfl h
  | succ n ih =>
    intro r h m hm
    cases m with
    | zero => omega
    | succ m =>
      have hm : n ≤ m := by omega
      unfold wloop at h ⊢
      cases ht : t r with
      | no => rfl
      | ex e r1 => rfl
      | ok x r1 =>
        rw [ht] at h
        cases x with
        | false => rfl
        | true =>
          have h : (match b r1 with
            | .ok .nx r2 => wloop t b n r2
            | .ok .ct r2 => wloop t b n r2
            | .ok .bk r2 => .ok .nx r2
            | .ok (.rt v) r2 => .ok (.rt v) r2
            | .ex e r2 => .ex e r2
            | .no => .no) ≠ .no := h
          show (match b r1 with
            | .ok .nx r2 => wloop t b m r2
            | .ok .ct r2 => wloop t b m r2
            | .ok .bk r2 => .ok .nx r2
            | .ok (.rt v) r2 => .ok (.rt v) r2
            | .ex e r2 => .ex e r2
            | .no => .no) = (match b r1 with
            | .ok .nx r2 => wloop t b n r2
            | .ok .ct r2 => wloop t b n r2
            | .ok .bk r2 => .ok .nx r2
            | .ok (.rt v) r2 => .ok (.rt v) r2
            | .ex e r2 => .ex e r2
            | .no => .no)
          cases hb : b r1 with
          | no => rfl
          | ex e r2 => rfl
          | ok fl r2 =>
            rw [hb] at h
            cases fl with
            | nx => exact ih h m hm
            | ct => exact ih h m hm
            | bk => rfl
            | rt v => rfl
theorem sWhile_of {t : M Bool} {b : M Fl} {n : Nat} {r : En} {x : Re Fl} (h : wloop t b n r = x) (hx : x ≠ .no) : sWhile t b r = x := by
  have ex : ∃ n, wloop t b n r ≠ .no := ⟨n, by rw [h]; exact hx⟩
  have e : sWhile t b r = wloop t b (Classical.choose ex) r := by
    unfold sWhile
    rw [dif_pos ex]
  have sp := Classical.choose_spec ex
  rw [e]
  rcases Nat.le_total n (Classical.choose ex) with l | l
  · rw [wloop_mono (by rw [h]; exact hx) _ l, h]
  · rw [← wloop_mono sp _ l, h]
theorem sWhile_ex {t : M Bool} {b : M Fl} {r : En} {Xp : Exn → En → Prop} {k : Fl → En → Prop} (h : Po Xp (sWhile t b r) k) : ∃ n, Po Xp (wloop t b n r) k := by
  unfold sWhile at h
  split at h
  · exact ⟨_, h⟩
  · exact h.elim
/-- what is walked: its items -/
structure Yl (K : PySem.W.Frag) (F1 : Hp) (J : It) (xs : List D) : Prop where
  go : ∀ i H, i < xs.length → Ex F1 H → J.go i H
  stop : ∀ H, Ex F1 H → J.stop xs.length H
  yld : ∀ (i : Nat) (H : Hp) (x : V) (H' : Hp) (d : D), xs[i]? = some d → Ex F1 H → J.yld i H x H' → (H' = H ∧ Rp K F1 x d) ∨ ∃ T vs ds, x = .ref T ∧ H T = none ∧ H' = upd H T (.tup vs) ∧ d = .tuple ds ∧ RpAll K F1 vs ds
def iM (c : Cc) (m : M (List D)) : TI := fun st H R => ∃ pa H0 F0 F r, Ok c.K pa H0 F0 F H st r ∧ Po (XW c pa H0 F0 F) (m r) fun xs r' => ∀ F' H' J, Ok c.K pa H0 F0 F' H' st r' → Ex F F' → Yl c.K F' J xs → R J H'
theorem Yl.step {K : PySem.W.Frag} {F1 : Hp} {J : It} {xs : List D} (y : Yl K F1 J xs) {pa : Nat → Addr} {H0 F0 F H : Hp} {st : L2.St} {r : En} (k : Ok K pa H0 F0 F H st r) (e : Ex F1 F) {i : Nat} {x : V} {H' : Hp} {d : D} (hd : xs[i]? = some d) (hy : J.yld i H x H') :
    ∃ F', Ok K pa H0 F0 F' H' st r ∧ Ex F F' ∧ Rp K F' x d := by
  rcases y.yld i H x H' d hd (e.trans k.fH) hy with ⟨rfl, dp⟩ | ⟨T, vs, ds, rfl, nT, rfl, rfl, dps⟩
  · exact ⟨F, k, Ex.refl F, dp_mono e dp⟩
  · have nF := k.fH.nn nT
    exact ⟨_, k.layF nT, Ex.new nF, .tup upd_same (dpa_mono (e.trans (Ex.new nF)) dps)⟩
theorem drop_cons {α : Type} {xs : List α} {i : Nat} {x : α} (h : xs[i]? = some x) : xs.drop i = x :: xs.drop (i + 1) := by
  obtain ⟨hl, e⟩ := List.getElem?_eq_some_iff.mp h
  rw [List.drop_eq_getElem_cons hl, e]
section
variable {X : Cx} {c : Cc}
theorem pi_cq {tg e : Expr} {t t' : TI} (h : PI X tg e t) (i : ∀ st H R, t' st H R → t st H R) : PI X tg e t' := ⟨fun pins s st H R I q => h.run pins s st H R I (i st H R q)⟩
theorem s_for {tg iter : Expr} {body : List Stmt} {src : M (List D)} {is : List Nat} {t : Tg} {mb : M Fl} {pos : Pos} (hi : PI X tg iter (iM c src)) (hg : PG X tg (gM c.K is t)) (hb : PSs X body (sM c mb)) (hp : PassesOwn (model X.prog X.w) X.A X.env X.xe) (hc : X.calm = true := by rfl)
    (hs : ∀ x, foldedSetIterable iter X.env x = pure x := by intro _; rfl) : PS X (.For tg iter body [] pos) (sM c (sFor src t mb)) :=
  ps_cq (ps_for hp hc hi hg hb hs) fun Dd st H ⟨pa, H0, F0, F, r, ok, po⟩ => by
    refine ⟨pa, H0, F0, F, r, ok, (Po.bind po).mono (fun _ _ x => x) fun xs r1 q F1 H1 J k1 e1 y => ?_⟩
    refine ⟨fun i m st H => i + m = xs.length ∧ ∃ F' r', Ok c.K pa H0 F0 F' H st r' ∧ Ex F1 F' ∧ Po (XW c pa H0 F0 F') (forL t mb (xs.drop i) r') (fun fl r' => flEnd c.K pa H0 F0 F' Dd r' fl), ⟨xs.length, by omega, F1, r1, k1, Ex.refl F1, q.mono (XW.mono e1) fun _ _ x => x.mono e1⟩, fun i m st H hW => ?_⟩
    obtain ⟨hm, F', r', k, e, po⟩ := hW
    by_cases hl : i < xs.length
    · have hx : xs[i]? = some xs[i] := List.getElem?_eq_getElem hl
      rw [drop_cons hx] at po
      refine .inr ⟨y.go i H hl (e.trans k.fH), fun st2 H2 => ∃ F2 r2, Ok c.K pa H0 F0 F2 H2 st2 r2 ∧ Ex F1 F2 ∧ Po (XW c pa H0 F0 F2) (forL t mb (xs.drop (i + 1)) r2) (fun fl r' => flEnd c.K pa H0 F0 F2 Dd r' fl), fun st2 H2 ⟨F2, r2, a1, a2, a3⟩ => ⟨m - 1, by omega, by omega, F2, r2, a1, a2, a3⟩, fun x H2 hy => ?_⟩
      obtain ⟨F2, k2, e2, dp2⟩ := y.step k e hx hy
      unfold forL at po
      cases ht : t xs[i] r' with
      | none =>
        rw [ht] at po
        exact po.elim
      | some r2 =>
        rw [ht] at po
        refine ⟨pa, H0, F0, F2, r', xs[i], r2, k2, dp2, ht, fun st3 k3 _ => ?_⟩
        refine ⟨pa, H0, F0, F2, r2, k3, ?_⟩
        have po : Po (XW c pa H0 F0 F') (match mb r2 with
          | .ok .nx r2 => forL t mb (xs.drop (i + 1)) r2
          | .ok .ct r2 => forL t mb (xs.drop (i + 1)) r2
          | .ok .bk r2 => .ok .nx r2
          | .ok (.rt v) r2 => .ok (.rt v) r2
          | .ex e r2 => .ex e r2
          | .no => .no) (fun fl r' => flEnd c.K pa H0 F0 F' Dd r' fl) := po
        cases hb : mb r2 with
        | no =>
          rw [hb] at po
          exact po.elim
        | ex ee r3 =>
          rw [hb] at po
          exact XW.mono e2 _ _ po
        | ok fl r3 =>
          rw [hb] at po
          cases fl with
          | nx => exact fun F4 H4 st4 k4 e4 => ⟨F4, r3, k4, (e.trans e2).trans e4, po.mono (XW.mono (e2.trans e4)) fun _ _ x => x.mono (e2.trans e4)⟩
          | ct => exact fun F4 H4 st4 k4 e4 => ⟨F4, r3, k4, (e.trans e2).trans e4, po.mono (XW.mono (e2.trans e4)) fun _ _ x => x.mono (e2.trans e4)⟩
          | bk => exact fun F4 H4 st4 k4 e4 => po F4 H4 st4 k4 (e2.trans e4)
          | rt rv => exact fun F4 H4 st4 v k4 e4 => po F4 H4 st4 v k4 (e2.trans e4)
    · have ei : i = xs.length := by omega
      subst ei
      rw [List.drop_length] at po
      exact .inl ⟨y.stop H (e.trans k.fH), po F' H st k (Ex.refl F')⟩
theorem s_while {t : Expr} {body : List Stmt} {mt : M Bool} {mb : M Fl} {pos : Pos} (ht : PT X t (tT c mt)) (hb : PSs X body (sM c mb)) (hp : PassesOwn (model X.prog X.w) X.A X.env X.xe) : PS X (.While t body [] pos) (sM c (sWhile mt mb)) :=
  ps_cq (ps_while hp ht hb) fun Dd st H ⟨pa, H0, F0, F, r, ok, po⟩ => by
    obtain ⟨n, po⟩ := sWhile_ex po
    refine ⟨fun m st H => ∃ F' r', Ok c.K pa H0 F0 F' H st r' ∧ Ex F F' ∧ Po (XW c pa H0 F0 F') (wloop mt mb m r') (fun fl r' => flEnd c.K pa H0 F0 F' Dd r' fl), ⟨n, F, r, ok, Ex.refl F, po⟩, fun m st H hW => ?_⟩
    obtain ⟨F', r', k, e, po⟩ := hW
    cases m with
    | zero => exact po.elim
    | succ m =>
      unfold wloop at po
      refine ⟨pa, H0, F0, F', r', k, ?_⟩
      cases h1 : mt r' with
      | no =>
        rw [h1] at po
        exact po.elim
      | ex ee r1 =>
        rw [h1] at po
        exact po
      | ok x r1 =>
        rw [h1] at po
        intro F2 H2 k2 e2
        cases x with
        | false =>
          show Dd.nx st H2
          exact po F2 H2 st k2 e2
        | true =>
          show ∃ N : L2.St → Hp → Prop, _
          refine ⟨fun st2 H2 => ∃ F2 r2, Ok c.K pa H0 F0 F2 H2 st2 r2 ∧ Ex F F2 ∧ Po (XW c pa H0 F0 F2) (wloop mt mb m r2) (fun fl r' => flEnd c.K pa H0 F0 F2 Dd r' fl), fun st2 H2 ⟨F2, r2, a1, a2, a3⟩ => ⟨m, Nat.lt_succ_self m, F2, r2, a1, a2, a3⟩, ?_⟩
          refine ⟨pa, H0, F0, F2, r1, k2, ?_⟩
          have po : Po (XW c pa H0 F0 F') (match mb r1 with
            | .ok .nx r2 => wloop mt mb m r2
            | .ok .ct r2 => wloop mt mb m r2
            | .ok .bk r2 => .ok .nx r2
            | .ok (.rt v) r2 => .ok (.rt v) r2
            | .ex e r2 => .ex e r2
            | .no => .no) (fun fl r' => flEnd c.K pa H0 F0 F' Dd r' fl) := po
          cases hb : mb r1 with
          | no =>
            rw [hb] at po
            exact po.elim
          | ex ee r3 =>
            rw [hb] at po
            exact XW.mono e2 _ _ po
          | ok fl r3 =>
            rw [hb] at po
            cases fl with
            | nx => exact fun F4 H4 st4 k4 e4 => ⟨F4, r3, k4, (e.trans e2).trans e4, po.mono (XW.mono (e2.trans e4)) fun _ _ x => x.mono (e2.trans e4)⟩
            | ct => exact fun F4 H4 st4 k4 e4 => ⟨F4, r3, k4, (e.trans e2).trans e4, po.mono (XW.mono (e2.trans e4)) fun _ _ x => x.mono (e2.trans e4)⟩
            | bk => exact fun F4 H4 st4 k4 e4 => po F4 H4 st4 k4 (e2.trans e4)
            | rt rv => exact fun F4 H4 st4 v k4 e4 => po F4 H4 st4 v k4 (e2.trans e4)
end
end Pu

namespace Pu
open PySem PySem.Spec PyProof.Rows L2
variable [TabT]

/-! ### what is walked -/
theorem pi_or {X : Cx} {tg e : Expr} {t t' : TI} (h : PI X tg e t) (h' : PI X tg e t') : PI X tg e (fun st H R => t st H R ∨ t' st H R) :=
  ⟨fun pins s st H R I q => q.elim (h.run pins s st H R I) (h'.run pins s st H R I)⟩
def seqOf : D → Option (List D)
  | .list ds => some ds
  | .tuple ds => some ds
  | _ => none
def iSeq (m : M D) : M (List D) := m.bind fun d => M.opt (seqOf d)
theorem yl_list {K : PySem.W.Frag} {F : Hp} {a : Addr} {vs : List V} {ds : List D} (h : SqL K F a vs) (hr : RpAll K F vs ds) : Yl K F (Itl K a) ds where
  go := fun i H hi e => by
    have hl := dpa_len hr
    exact ⟨vs, vs[i]'(by omega), e.l h, List.getElem?_eq_getElem (by omega)⟩
  stop := fun H e => ⟨vs, e.l h, by rw [dpa_len hr]; exact Nat.le_refl _⟩
  yld := fun i H x H' d hd e hy => by
    obtain ⟨rfl, q⟩ := hy
    obtain ⟨v, h1, h2⟩ := dpa_get hr hd
    have z := q vs (e.l h)
    rw [h1] at z
    cases z
    exact .inl ⟨rfl, h2⟩
theorem yl_tup {K : PySem.W.Frag} {F : Hp} {a : Addr} {vs : List V} {ds : List D} (h : SqT K F a vs) (hr : RpAll K F vs ds) : Yl K F (Itt K a) ds where
  go := fun i H hi e => by
    have hl := dpa_len hr
    exact ⟨vs, vs[i]'(by omega), e.t h, List.getElem?_eq_getElem (by omega)⟩
  stop := fun H e => ⟨vs, e.t h, by rw [dpa_len hr]; exact Nat.le_refl _⟩
  yld := fun i H x H' d hd e hy => by
    obtain ⟨rfl, q⟩ := hy
    obtain ⟨v, h1, h2⟩ := dpa_get hr hd
    have z := q vs (e.t h)
    rw [h1] at z
    cases z
    exact .inl ⟨rfl, h2⟩
section
variable {X : Cx} {c : Cc}
theorem i_seq {tg e : Expr} {m : M D} (h : PE X e (tM c m)) (hK : c.K = X.K := by rfl) : PI X tg e (iM c (iSeq m)) :=
  pi_cq (pi_or (pi_list h) (pi_tup h)) fun st H R ⟨pa, H0, F0, F, r, ok, po⟩ => by
    have po : Po (XW c pa H0 F0 F) ((m r).bind fun d => M.opt (seqOf d)) _ := po
    cases hm : m r with
    | no =>
      rw [hm] at po
      exact po.elim
    | ex e r1 =>
      rw [hm] at po
      exact .inl ⟨pa, H0, F0, F, r, ok, by rw [hm]; exact po⟩
    | ok d r1 =>
      rw [hm] at po
      obtain ⟨xs, hx, q⟩ := opt_po (show Po (XW c pa H0 F0 F) (M.opt (seqOf d) r1) _ from po)
      cases d with
      | list ds =>
        cases hx
        refine .inl ⟨pa, H0, F0, F, r, ok, ?_⟩
        rw [hm]
        intro F' H' v k e dp
        cases dp with
        | @lst a vs _ h1 h2 => exact ⟨a, rfl, ⟨vs, by rw [← hK]; exact k.fH.l h1⟩, q F' H' _ k e (by rw [← hK]; exact yl_list h1 h2)⟩
      | tuple ds =>
        cases hx
        refine .inr ⟨pa, H0, F0, F, r, ok, ?_⟩
        rw [hm]
        intro F' H' v k e dp
        cases dp with
        | @tup a vs _ h1 h2 => exact ⟨a, rfl, ⟨vs, by rw [← hK]; exact k.fH.t h1⟩, q F' H' _ k e (by rw [← hK]; exact yl_tup h1 h2)⟩
      | _ => cases hx
/-! range -/
def rngD (lo : Int) (n : Nat) : List D := (List.range n).map fun k => .int (lo + (k : Nat))
/-- a choice that nothing can reckon out -/
noncomputable def cI {α : Type} (p : Prop) (a b : α) : α := @ite α p (Classical.propDecidable p) a b
theorem cI_eq {α : Type} (p : Prop) [Decidable p] (a b : α) : cI p a b = if p then a else b := by
  unfold cI
  by_cases h : p
  · rw [if_pos h, if_pos h]
  · rw [if_neg h, if_neg h]
noncomputable def cd (p : Prop) : Bool := @decide p (Classical.propDecidable p)
theorem cd_eq (p : Prop) [Decidable p] : cd p = decide p := by
  unfold cd
  by_cases h : p
  · exact (@decide_eq_true p (Classical.propDecidable p) h).trans (decide_eq_true h).symm
  · exact (@decide_eq_false p (Classical.propDecidable p) h).trans (decide_eq_false h).symm
noncomputable def rng1 : List D → Option (List D)
  | [.int j] => cI (-(2 ^ 62) ≤ j ∧ j < 2 ^ 62) (some (rngD 0 j.toNat)) none
  | _ => none
noncomputable def rng2 : List D → Option (List D)
  | [.int i, .int j] => cI ((-(2 ^ 62) ≤ i ∧ i < 2 ^ 62) ∧ (-(2 ^ 62) ≤ j ∧ j < 2 ^ 62)) (some (rngD i (j - i).toNat)) none
  | _ => none
def iBy (g : List D → Option (List D)) (ms : M (List D)) : M (List D) := ms.bind fun ds => M.opt (g ds)
theorem rng1_some {ds xs : List D} (h : rng1 ds = some xs) : ∃ j : Int, ds = [.int j] ∧ (-(2 ^ 62) ≤ j ∧ j < 2 ^ 62) ∧ xs = rngD 0 j.toNat := by
  unfold rng1 at h
  split at h
  · rw [cI_eq] at h
    split at h
    · cases h
      exact ⟨_, rfl, by assumption, rfl⟩
    · cases h
  · cases h
theorem rng2_some {ds xs : List D} (h : rng2 ds = some xs) : ∃ i j : Int, ds = [.int i, .int j] ∧ ((-(2 ^ 62) ≤ i ∧ i < 2 ^ 62) ∧ (-(2 ^ 62) ≤ j ∧ j < 2 ^ 62)) ∧ xs = rngD i (j - i).toNat := by
  unfold rng2 at h
  split at h
  · rw [cI_eq] at h
    split at h
    · cases h
      exact ⟨_, _, rfl, by assumption, rfl⟩
    · cases h
  · cases h
theorem rpa_one {K : PySem.W.Frag} {F : Hp} {vs : List V} {d : D} (h : RpAll K F vs [d]) : ∃ v, vs = [v] ∧ Rp K F v d := by
  cases h with
  | cons h t =>
    cases t
    exact ⟨_, rfl, h⟩
theorem rpa_two {K : PySem.W.Frag} {F : Hp} {vs : List V} {d e : D} (h : RpAll K F vs [d, e]) : ∃ v w, vs = [v, w] ∧ Rp K F v d ∧ Rp K F w e := by
  cases h with
  | cons h t =>
    obtain ⟨w, rfl, h2⟩ := rpa_one t
    exact ⟨_, w, rfl, h, h2⟩
theorem rp_int {K : PySem.W.Frag} {F : Hp} {v : V} {i : Int} (h : Rp K F v (.int i)) : v = .int i := by
  cases h
  rfl
theorem rngD_len (lo : Int) (n : Nat) : (rngD lo n).length = n := by simp [rngD]
theorem yl_rng {K : PySem.W.Frag} {F : Hp} (lo : Int) (n : Nat) : Yl K F (Itr lo n) (rngD lo n) where
  go := fun i H hi e => by
    rw [rngD_len] at hi
    exact hi
  stop := fun H e => by
    rw [rngD_len]
    exact Nat.le_refl _
  yld := fun i H x H' d hd e hy => by
    obtain ⟨rfl, rfl⟩ := hy
    refine .inl ⟨rfl, ?_⟩
    unfold rngD at hd
    rw [List.getElem?_map] at hd
    cases hr : (List.range n)[i]? with
    | none =>
      rw [hr] at hd
      cases hd
    | some k =>
      rw [hr] at hd
      cases hd
      obtain ⟨h1, h2⟩ := List.getElem?_eq_some_iff.mp hr
      rw [List.getElem_range] at h2
      subst h2
      exact .int _
theorem i_rng1 {tg a : Expr} {ms : M (List D)} {p pos : Pos} (ha : PA X [a] (tA c ms)) (hm : X.mg "range" = none) (hg : Gl X "range" := by rfl) (hs : starEach [a] X.env = [(false, eval a X.env)] := by rfl) : PI X tg (.Call (.Name "range" p) [a] [] pos) (iM c (iBy rng1 ms)) :=
  pi_cq (pi_range1 hg hm ha hs) fun st H R ⟨pa, H0, F0, F, r, ok, po⟩ => seqA ok po fun ds r1 F1 H1 vs k1 e1 dps q => by
    obtain ⟨xs, hx, q⟩ := opt_po q
    obtain ⟨j, rfl, hj, rfl⟩ := rng1_some hx
    obtain ⟨v, rfl, d⟩ := rpa_one dps
    cases rp_int d
    exact ⟨j, rfl, hj.1, hj.2, q F1 H1 _ k1 e1 (yl_rng 0 j.toNat)⟩
theorem i_rng2 {tg a b : Expr} {ms : M (List D)} {p pos : Pos} (ha : PA X [a, b] (tA c ms)) (hm : X.mg "range" = none) (hg : Gl X "range" := by rfl) (hs : starEach [a, b] X.env = [(false, eval a X.env), (false, eval b X.env)] := by rfl) (hs2 : starEach [b] X.env = [(false, eval b X.env)] := by rfl) : PI X tg (.Call (.Name "range" p) [a, b] [] pos) (iM c (iBy rng2 ms)) :=
  pi_cq (pi_range2 hg hm ha hs hs2) fun st H R ⟨pa, H0, F0, F, r, ok, po⟩ => seqA ok po fun ds r1 F1 H1 vs k1 e1 dps q => by
    obtain ⟨xs, hx, q⟩ := opt_po q
    obtain ⟨i, j, rfl, hj, rfl⟩ := rng2_some hx
    obtain ⟨v, w, rfl, d, d2⟩ := rpa_two dps
    cases rp_int d
    cases rp_int d2
    exact ⟨i, j, rfl, ⟨hj.1.1, hj.1.2, hj.2.1, hj.2.2⟩, q F1 H1 _ k1 e1 (yl_rng i (j - i).toNat)⟩
end

/-! ### enumerate -/
/-- the tuple at a, each item in a new pair -/
def ItE (K : PySem.W.Frag) (a : Addr) : It where
  go := fun i H => ∃ (xs : List V) (x : V), SqT K H a xs ∧ xs[i]? = some x
  yld := fun i H v H' => ∃ T x, v = .ref T ∧ H T = none ∧ H' = upd H T (.tup [.int (i : Nat), x]) ∧ ∀ xs, SqT K H a xs → xs[i]? = some x
  stop := fun i H => ∃ xs : List V, SqT K H a xs ∧ xs.length ≤ i
theorem turn_en {P : Program} {w : World} {K : PySem.W.Frag} {elts : List Expr} {kk : Nat} {tpos : Pos} (a q it : Addr) :
    Turn P w K (.Tuple elts kk tpos) (ItE K a) [q, it] q (fun i h => (∃ old, IsEnum h q it ((i : Nat) : Int) old) ∧ h.IsTupleIter it a i ∧ q ≠ it ∧ a ≠ it ∧ a ≠ q) where
  mem := List.mem_cons_self
  obj := fun i h hst b hb => by
    obtain ⟨⟨old, h1⟩, ⟨o, h2, h3, h4⟩, _⟩ := hst
    rcases List.mem_cons.mp hb with rfl | hb
    · exact ⟨_, h1, fun v z => nomatch z⟩
    · rw [List.mem_singleton.mp hb]
      exact ⟨o, h2, fun v z => by rw [h4] at z; cases z⟩
  keep := fun i h h' hst kp => by
    obtain ⟨⟨old, h1⟩, h2, h3⟩ := hst
    exact ⟨⟨old, kp q List.mem_cons_self _ h1⟩, h2.at fun o z => kp it (List.mem_cons_of_mem _ (List.mem_singleton.mpr rfl)) o z, h3⟩
  item := by
    intro X hP hw hK hc i pins s st H E I hf hst hg
    subst hP hw hK
    obtain ⟨⟨old, h1⟩, h2, h3, h4, h5⟩ := hst
    obtain ⟨xs, x, hq, hx⟩ := hg
    obtain ⟨us, rv, ht, hz⟩ := I.tuple hq
    obtain ⟨u, hu, ru⟩ := rv.get hx
    have lq : q < s.heap.objs.size := Heap.lt_size h1
    have li : it < s.heap.objs.size := by
      obtain ⟨o, z, _⟩ := h2
      exact Heap.lt_size z
    have dr : Draws X.prog X.w X.A.in1 it [it, a] us.toArray.size (fun i v => us.toArray[i]? = some v) (fun i h => h.IsTupleIter it a i ∧ h.IsTuple a us.toArray) := Draws.tuple (A := X.A.in1) (show X.A.in1.handled = none from I.ok.hd hc) it a h4 us.toArray
    have hlt : i < us.toArray.size := by
      have := (List.getElem?_eq_some_iff.mp hu).1
      simpa using this
    have nq : q ∉ [it, a] := fun z => by
      rcases List.mem_cons.mp z with z | z
      · exact h3 z
      · exact h5 (List.mem_singleton.mp z).symm
    refine wpAny_pyNext_enum_itemD dr h1 ⟨h2, ht⟩ hlt h3 nq fun y h' tk hy out hs' hT hsz hk => ?_
    have ey : y = u := by
      have z : us.toArray[i]? = some y := hy
      rw [show us.toArray[i]? = us[i]? by simp, hu] at z
      cases z
      rfl
    subst ey
    refine ⟨_, rfl, wpAny_letOwnedTupleGo_enum (s := { s with heap := h', toks := tk + 1 }) out fun h2' hen sb => ?_⟩
    have hT2 : h2'.get? s.heap.objs.size = some { cls := .type "tuple", data := .seq #[.int i tk, y] } := (sb.2 _ (Nat.ne_of_gt lq)).trans hT
    have new : ObjOk X.prog X.w (upd H s.heap.objs.size (.tup [.int (i : Nat), x])) h2' s.heap.objs.size (.tup [.int (i : Nat), x]) := by
      refine ⟨?_, [.int i tk, y], .cons ⟨_, rfl⟩ (.cons ru .nil), ⟨_, hT2, rfl, _, rfl⟩⟩
      show 2 ≤ sizeLine
      decide
    have kp : ∀ b o, b ∉ [q, it] → s.heap.get? b = some o → h2'.get? b = some o := fun b o hb z => by
      have b1 : b ≠ q := fun z => hb (by rw [z]; exact List.mem_cons_self)
      have b2 : b ≠ it := fun z => hb (by rw [z]; exact List.mem_cons_of_mem _ (List.mem_singleton.mpr rfl))
      exact (sb.2 b b1).trans (hk b o b1 b2 z)
    have J := I.turnedNew (t' := tk + 1) kp hf (Nat.le_refl _) new
    refine ⟨.ref s.heap.objs.size, _, J, rfl, ⟨_, x, rfl, I.hok.fresh (Nat.le_refl _), rfl, fun ys hy2 => by rw [I.tuple_inj hy2 hq]; exact hx⟩, ⟨⟨y, ?_⟩, ?_, h3, h4, h5⟩, fun b hb => ?_⟩
    · rw [show ((i + 1 : Nat) : Int) = (i : Int) + 1 by omega]
      exact hen
    · exact hs'.1.at fun o z => (sb.2 it (Ne.symm h3)).trans z
    · have lb : b < s.heap.objs.size := by
        rcases List.mem_cons.mp hb with z | z
        · rw [z]
          exact lq
        · rw [List.mem_singleton.mp z]
          exact li
      rw [upd_ne (Nat.ne_of_lt lb)]
      exact (hf b hb).1
  done := by
    intro X hP hw hK hc i pins s st H E I hf hst hg
    subst hP hw hK
    obtain ⟨⟨old, h1⟩, h2, h3, h4, h5⟩ := hst
    obtain ⟨xs, hq, hx⟩ := hg
    obtain ⟨us, rv, ht, hz⟩ := I.tuple hq
    obtain ⟨f0, f1, f2, f3, f4, f5⟩ := hf it (List.mem_cons_of_mem _ (List.mem_singleton.mpr rfl))
    have hl := rv.length
    have hT : s.TypeIs (.ref q) "enumerate" := ⟨_, h1, rfl⟩
    unfold pyNext
    refine wpAny_bind (wpAny_attempt (wpAny_callSpecial?_slot (name := Str.ofString "__next__") hT F.slot_enumerate_next (wpAny_call_entry F.slot_enumerate_next hT F.entry_enumerate_next ?_ (F.args_enumerate_next_1 _))))
    show wpAny _ _ (field (.ref q) 2 >>= _) _ _ _
    refine wpAny_bind (wpAny_field h1 rfl (x := .ref it) rfl ?_)
    refine wpAny_bind (wpAny_nextOf_tuple_end (I.ok.hd hc) h2 ht (by simp; omega) fun h' x he' hx' => ?_)
    obtain ⟨o, ho, hcl⟩ := hx'
    refine wpAny_bind (wpAny_isInstance (T := "StopIteration") (b := true) ⟨o, ho, hcl⟩ isSubtype_stop ?_)
    exact wpAny_pure ⟨rfl, I.turned (t' := s.toks) (fun b o hb z => he' b o hb z) f0 f1 f3 f4 f5⟩
  self := fun A i s Q E hst h => by
    obtain ⟨⟨_, h1⟩, _⟩ := hst
    exact wpAny_pyIter_enum h1 h
end Pu

namespace Pu
open PySem PySem.Spec PyProof.Rows L2 RZ
variable [TabT]
set_option maxHeartbeats 1000000 in
theorem meets_en1 {v : Value} {o : Obj} {Hh : Heap → Prop} (B : Begins v o Hh) : Meets (Builtin.«enumerate.__new__» ⟨[.type "enumerate", v], []⟩) (fun _ R s => Hh s.heap ∧
    R (.ok (.ret (.ref (s.heap.push o).objs.size))) { s with heap := (s.heap.push o).push { cls := .type "enumerate", data := .fields #[.none, .bool false, .ref s.heap.objs.size, rawInt 0, .none, .none] } }) :=
  .of_wp fun prog w A R s h => by
    obtain ⟨hp, gg, dd, tk, os⟩ := s
    obtain ⟨h1, h⟩ := h
    have hsub := sub_enumerate
    have q1 : ∀ {A' : Around} {E : Value → Shared → Prop} {Q : Value → Shared → Prop}, Q (.ref hp.objs.size) ⟨hp.push o, gg, dd, tk, os⟩ → wpAny (model prog w) A' (pyIter v) Q E ⟨hp, gg, dd, tk, os⟩ :=
      fun q => B.iter prog w _ _ ⟨hp, gg, dd, tk, os⟩ _ h1 q
    wp_walk using q1
    refine wpAny_stack_any fun sk => wpAny_pure ?_
    split
    · rename_i cc _ _ _ _ _
      cases (cc == Value.type "enumerate")
      · wp_walk using q1
        exact ⟨_, rfl, h⟩
      · wp_walk using q1
        exact ⟨_, rfl, h⟩
    · wp_walk using q1
      exact ⟨_, rfl, h⟩
theorem call_en {prog : Program} {w : World} {A : Around} {E : Value → Shared → Prop} {s : Shared} {v : Value} {o : Obj} {Hh : Heap → Prop} {Q : Value → Shared → Prop} (B : Begins v o Hh) (h1 : Hh s.heap)
    (h : ∀ h', IsEnum h' (s.heap.objs.size + 1) s.heap.objs.size 0 .none → h'.get? s.heap.objs.size = some o → (∀ b o, s.heap.get? b = some o → h'.get? b = some o) → Q (.ref (s.heap.objs.size + 1)) { s with heap := h' }) :
    wpAny (model prog w) A (call (.type "enumerate") [v]) Q E s := by
  refine callType_new F.called_enumerate (by decide) (F.typeCall_enumerate_1 _) (F.newCall_enumerate_1 _) (fun obj => F.args_object_init_2 obj _) F.entry_enumerate_new (meets_en1 B) ⟨h1, ?_⟩
  have hz : (s.heap.push o).objs.size = s.heap.objs.size + 1 := Heap.size_push ..
  show _ ∧ _
  rw [hz]
  have he : IsEnum ((s.heap.push o).push { cls := .type "enumerate", data := .fields #[.none, .bool false, .ref s.heap.objs.size, rawInt 0, .none, .none] }) (s.heap.objs.size + 1) s.heap.objs.size 0 .none := by
    have z := Heap.get?_push_size (s.heap.push o) (o := { cls := .type "enumerate", data := .fields #[.none, .bool false, .ref s.heap.objs.size, rawInt 0, .none, .none] }) rfl
    rw [hz] at z
    exact z
  exact ⟨⟨_, he, rfl⟩, h _ he (Heap.get?_push_of_some _ (Heap.get?_push_size _ B.free)) fun b o x => Heap.get?_push_of_some _ (Heap.get?_push_of_some _ x)⟩
def iEnT (K : PySem.W.Frag) (ta : TA) : TI := fun st H R => ta st H fun vs H1 => ∃ a xs, vs = [.ref a] ∧ SqT K H1 a xs ∧ R (ItE K a) H1
theorem pi_enT {X : Cx} {e : Expr} {ta : TA} {p pos tpos : Pos} {elts : List Expr} {kk : Nat} (hg : Gl X "enumerate") (hm : X.mg "enumerate" = none) (ha : PA X [e] ta) (hs : starEach [e] X.env = [(false, eval e X.env)] := by rfl) :
    PI X (.Tuple elts kk tpos) (.Call (.Name "enumerate" p) [e] [] pos) (iEnT X.K ta) := by
  refine ⟨fun pins s st H R I h => ?_⟩
  refine Call_ (ld_blt I hg hm boot_enumerate (PyProof.Rows.callWith_type1 (thn (ha.run pos pins s st H _ I h) fun us s1 hh => ?_) hs rfl))
  obtain ⟨vs, H1, I1, r1, a, xs, ex, hq, q⟩ := hh
  subst ex
  cases r1 with
  | cons ra rr =>
    cases rr
    cases ra
    obtain ⟨its, rv, ht, hz⟩ := I1.tuple hq
    have la : a < s1.heap.objs.size := ht.lt
    refine call_en (begins_tuple a its.toArray) ht fun h' hen hit kp => wpAny_pyIter_enum hen ?_
    have I2 : Inv X pins st H1 { s1 with heap := h' } := I1.kept (t' := s1.toks) kp
    refine ⟨s1.heap.objs.size + 1, [s1.heap.objs.size + 1, s1.heap.objs.size], _, _, H1, rfl, I2, turn_en a (s1.heap.objs.size + 1) s1.heap.objs.size, ⟨⟨.none, hen⟩, ⟨_, hit, rfl, rfl⟩, Nat.succ_ne_self _, Nat.ne_of_lt la, Nat.ne_of_lt (Nat.lt_succ_of_lt la)⟩, fun b hb => ?_, q⟩
    have lb : s1.heap.objs.size ≤ b := by
      rcases List.mem_cons.mp hb with z | z
      · rw [z]
        exact Nat.le_succ _
      · rw [List.mem_singleton.mp z]
        exact Nat.le_refl _
    exact I1.fpOk lb (I1.hok.fresh lb)
/-- the pairs (k, d) -/
def enF : Nat → List D → List D
  | _, [] => []
  | k, d :: ds => .tuple [.int (k : Nat), d] :: enF (k + 1) ds
theorem enF_len : ∀ (k : Nat) (ds : List D), (enF k ds).length = ds.length
  | _, [] => rfl
  | k, d :: ds => congrArg Nat.succ (enF_len (k + 1) ds)
theorem enF_get : ∀ (k : Nat) (ds : List D) (i : Nat), (enF k ds)[i]? = (ds[i]?).map fun d => .tuple [.int ((k + i : Nat) : Int), d]
  | _, [], _ => rfl
  | k, d :: ds, 0 => rfl
  | k, d :: ds, i + 1 => by
    show (enF (k + 1) ds)[i]? = (ds[i]?).map _
    rw [enF_get (k + 1) ds i, show k + 1 + i = k + (i + 1) by omega]
def enOf : List D → Option (List D)
  | [d] => (seqOf d).map (enF 0)
  | _ => none
theorem enF_some {ds : List D} {i : Nat} {d : D} (h : (enF 0 ds)[i]? = some d) : ∃ x, ds[i]? = some x ∧ d = .tuple [.int (i : Nat), x] := by
  rw [enF_get, Nat.zero_add] at h
  cases hd : ds[i]? with
  | none =>
    rw [hd] at h
    cases h
  | some x =>
    rw [hd] at h
    cases h
    exact ⟨x, rfl, rfl⟩
theorem yl_enL {K : PySem.W.Frag} {F : Hp} {a : Addr} {vs : List V} {ds : List D} (h : SqL K F a vs) (hr : RpAll K F vs ds) : Yl K F (Ite K a) (enF 0 ds) where
  go := fun i H hi e => by
    rw [enF_len] at hi
    have hl := dpa_len hr
    exact ⟨vs, vs[i]'(by omega), e.l h, List.getElem?_eq_getElem (by omega)⟩
  stop := fun H e => ⟨vs, e.l h, by rw [enF_len, dpa_len hr]; exact Nat.le_refl _⟩
  yld := fun i H x H' d hd e hy => by
    obtain ⟨T, y, rfl, nT, rfl, q⟩ := hy
    obtain ⟨dx, h1, rfl⟩ := enF_some hd
    obtain ⟨v, h2, h3⟩ := dpa_get hr h1
    have z := q vs (e.l h)
    rw [h2] at z
    cases z
    exact .inr ⟨T, _, _, rfl, nT, rfl, rfl, .cons (.int _) (.cons h3 .nil)⟩
theorem yl_enT {K : PySem.W.Frag} {F : Hp} {a : Addr} {vs : List V} {ds : List D} (h : SqT K F a vs) (hr : RpAll K F vs ds) : Yl K F (ItE K a) (enF 0 ds) where
  go := fun i H hi e => by
    rw [enF_len] at hi
    have hl := dpa_len hr
    exact ⟨vs, vs[i]'(by omega), e.t h, List.getElem?_eq_getElem (by omega)⟩
  stop := fun H e => ⟨vs, e.t h, by rw [enF_len, dpa_len hr]; exact Nat.le_refl _⟩
  yld := fun i H x H' d hd e hy => by
    obtain ⟨T, y, rfl, nT, rfl, q⟩ := hy
    obtain ⟨dx, h1, rfl⟩ := enF_some hd
    obtain ⟨v, h2, h3⟩ := dpa_get hr h1
    have z := q vs (e.t h)
    rw [h2] at z
    cases z
    exact .inr ⟨T, _, _, rfl, nT, rfl, rfl, .cons (.int _) (.cons h3 .nil)⟩
section
variable {X : Cx} {c : Cc}
theorem i_enum {e : Expr} {ms : M (List D)} {p pos tpos : Pos} {elts : List Expr} {kk : Nat} (ha : PA X [e] (tA c ms)) (hm : X.mg "enumerate" = none) (hK : c.K = X.K := by rfl) (hg : Gl X "enumerate" := by rfl) (hs : starEach [e] X.env = [(false, eval e X.env)] := by rfl) :
    PI X (.Tuple elts kk tpos) (.Call (.Name "enumerate" p) [e] [] pos) (iM c (iBy enOf ms)) :=
  pi_cq (pi_or (pi_enum hg hm ha hs) (pi_enT hg hm ha hs)) fun st H R ⟨pa, H0, F0, F, r, ok, po⟩ => by
    have po : Po (XW c pa H0 F0 F) ((ms r).bind fun ds => M.opt (enOf ds)) _ := po
    cases hm : ms r with
    | no =>
      rw [hm] at po
      exact po.elim
    | ex e r1 =>
      rw [hm] at po
      exact .inl ⟨pa, H0, F0, F, r, ok, by rw [hm]; exact po⟩
    | ok ds r1 =>
      rw [hm] at po
      obtain ⟨xs, hx, q⟩ := opt_po (show Po (XW c pa H0 F0 F) (M.opt (enOf ds) r1) _ from po)
      unfold enOf at hx
      split at hx
      · rename_i d
        cases d with
        | list ys =>
          cases hx
          refine .inl ⟨pa, H0, F0, F, r, ok, ?_⟩
          rw [hm]
          intro F' H' vs k e dps
          obtain ⟨v, rfl, dp⟩ := rpa_one dps
          cases dp with
          | @lst a us _ h1 h2 => exact ⟨a, us, rfl, by rw [← hK]; exact k.fH.l h1, q F' H' _ k e (by rw [← hK]; exact yl_enL h1 h2)⟩
        | tuple ys =>
          cases hx
          refine .inr ⟨pa, H0, F0, F, r, ok, ?_⟩
          rw [hm]
          intro F' H' vs k e dps
          obtain ⟨v, rfl, dp⟩ := rpa_one dps
          cases dp with
          | @tup a us _ h1 h2 => exact ⟨a, us, rfl, by rw [← hK]; exact k.fH.t h1, q F' H' _ k e (by rw [← hK]; exact yl_enT h1 h2)⟩
        | _ => cases hx
      · cases hx
/-! zip of two lists, of two tuples -/
def zipD (xs ys : List D) : List D := List.zipWith (fun x y => .tuple [x, y]) xs ys
def zipOf : List D → Option (List D)
  | [.list xs, .list ys] => some (zipD xs ys)
  | [.tuple xs, .tuple ys] => some (zipD xs ys)
  | _ => none
theorem zipD_some {xs ys : List D} {i : Nat} {d : D} (h : (zipD xs ys)[i]? = some d) : ∃ x y, xs[i]? = some x ∧ ys[i]? = some y ∧ d = .tuple [x, y] := by
  unfold zipD at h
  rw [List.getElem?_zipWith] at h
  cases h1 : xs[i]? with
  | none =>
    rw [h1] at h
    cases h
  | some x =>
    cases h2 : ys[i]? with
    | none =>
      rw [h1, h2] at h
      cases h
    | some y =>
      rw [h1, h2] at h
      cases h
      exact ⟨x, y, rfl, rfl, rfl⟩
theorem zipD_len (xs ys : List D) : (zipD xs ys).length = min xs.length ys.length := List.length_zipWith
theorem yl_zipL {K : PySem.W.Frag} {F : Hp} {a b : Addr} {vs ws : List V} {ds es : List D} (h : SqL K F a vs) (hr : RpAll K F vs ds) (h' : SqL K F b ws) (hr' : RpAll K F ws es) : Yl K F (Itz K a b) (zipD ds es) where
  go := fun i H hi e => by
    rw [zipD_len] at hi
    have hl := dpa_len hr
    have hl' := dpa_len hr'
    exact ⟨vs, ws, vs[i]'(by omega), ws[i]'(by omega), e.l h, e.l h', List.getElem?_eq_getElem (by omega), List.getElem?_eq_getElem (by omega)⟩
  stop := fun H e => ⟨vs, ws, e.l h, e.l h', by rw [zipD_len, dpa_len hr, dpa_len hr']; omega⟩
  yld := fun i H x H' d hd e hy => by
    obtain ⟨T, y1, y2, rfl, nT, rfl, q1, q2⟩ := hy
    obtain ⟨d1, d2, g1, g2, rfl⟩ := zipD_some hd
    obtain ⟨v, h2, h3⟩ := dpa_get hr g1
    obtain ⟨w, h4, h5⟩ := dpa_get hr' g2
    have z1 := q1 vs (e.l h)
    have z2 := q2 ws (e.l h')
    rw [h2] at z1
    rw [h4] at z2
    cases z1
    cases z2
    exact .inr ⟨T, _, _, rfl, nT, rfl, rfl, .cons h3 (.cons h5 .nil)⟩
theorem yl_zipT {K : PySem.W.Frag} {F : Hp} {a b : Addr} {vs ws : List V} {ds es : List D} (h : SqT K F a vs) (hr : RpAll K F vs ds) (h' : SqT K F b ws) (hr' : RpAll K F ws es) : Yl K F (ItzT K a b) (zipD ds es) where
  go := fun i H hi e => by
    rw [zipD_len] at hi
    have hl := dpa_len hr
    have hl' := dpa_len hr'
    exact ⟨vs, ws, vs[i]'(by omega), ws[i]'(by omega), e.t h, e.t h', List.getElem?_eq_getElem (by omega), List.getElem?_eq_getElem (by omega)⟩
  stop := fun H e => ⟨vs, ws, e.t h, e.t h', by rw [zipD_len, dpa_len hr, dpa_len hr']; omega⟩
  yld := fun i H x H' d hd e hy => by
    obtain ⟨T, y1, y2, rfl, nT, rfl, q1, q2⟩ := hy
    obtain ⟨d1, d2, g1, g2, rfl⟩ := zipD_some hd
    obtain ⟨v, h2, h3⟩ := dpa_get hr g1
    obtain ⟨w, h4, h5⟩ := dpa_get hr' g2
    have z1 := q1 vs (e.t h)
    have z2 := q2 ws (e.t h')
    rw [h2] at z1
    rw [h4] at z2
    cases z1
    cases z2
    exact .inr ⟨T, _, _, rfl, nT, rfl, rfl, .cons h3 (.cons h5 .nil)⟩
theorem i_zip {e e2 : Expr} {ms : M (List D)} {p pos tpos : Pos} {elts : List Expr} {kk : Nat} (ha : PA X [e, e2] (tA c ms)) (hm : X.mg "zip" = none) (hK : c.K = X.K := by rfl) (hg : Gl X "zip" := by rfl) (hs : starEach [e, e2] X.env = (false, eval e X.env) :: starEach [e2] X.env := by rfl) (hpl : (backTo pos (starEach [e2] X.env)).any (·.1) = false := by rfl) :
    PI X (.Tuple elts kk tpos) (.Call (.Name "zip" p) [e, e2] [] pos) (iM c (iBy zipOf ms)) :=
  pi_cq (pi_zipA hg hm ha hs hpl) fun st H R ⟨pa, H0, F0, F, r, ok, po⟩ => seqA ok po fun ds r1 F1 H1 vs k1 e1 dps q => by
    obtain ⟨xs, hx, q⟩ := opt_po q
    unfold zipOf at hx
    split at hx
    · cases hx
      obtain ⟨v, w, rfl, d, d2⟩ := rpa_two dps
      cases d with
      | @lst a us _ h1 h2 =>
        cases d2 with
        | @lst b ws _ h3 h4 => exact ⟨a, b, us, ws, rfl, .inl ⟨by rw [← hK]; exact k1.fH.l h1, by rw [← hK]; exact k1.fH.l h3, q F1 H1 _ k1 e1 (by rw [← hK]; exact yl_zipL h1 h2 h3 h4)⟩⟩
    · cases hx
      obtain ⟨v, w, rfl, d, d2⟩ := rpa_two dps
      cases d with
      | @tup a us _ h1 h2 =>
        cases d2 with
        | @tup b ws _ h3 h4 => exact ⟨a, b, us, ws, rfl, .inr ⟨by rw [← hK]; exact k1.fH.t h1, by rw [← hK]; exact k1.fH.t h3, q F1 H1 _ k1 e1 (by rw [← hK]; exact yl_zipT h1 h2 h3 h4)⟩⟩
    · cases hx
end

/-! ### list comprehensions -/
def wipeE (r : En) : List Nat → En
  | [] => r
  | i :: is => (wipeE r is).set i .unk
/-- behind the block: the block's own slots as they were -/
def backE (r : En) (q : En) : List Nat → En
  | [] => q
  | i :: is => (backE r q is).set i (r.getD i .unk)
def noOwn (r : En) (is : List Nat) : Bool := is.all fun i => match r[i]? with
  | some s => s.own.isNone
  | none => false
def compL (is : List Nat) (tg : Tg) (tt : M Bool) (te : M D) : List D → List D → M (List D)
  | [], acc, r => .ok acc r
  | x :: xs, acc, r => match tg x (wipeE r is) with
    | none => .no
    | some r1 => match tt r1 with
      | .ok true r2 => (match te r2 with
        | .ok y r3 => if acc.length < 16777216 then compL is tg tt te xs (acc ++ [y]) r3 else .no
        | _ => .no)
      | .ok false r2 => compL is tg tt te xs acc r2
      | _ => .no
def oComp (src : M (List D)) (is : List Nat) (tg : Tg) (tt : M Bool) (te : M D) : M RV := src.bind fun xs r => if noOwn r is = true then (match compL is tg tt te xs [] r with
  | .ok ys q => .ok (.o (.l ys)) (backE r (wipeE q is) is)
  | _ => .no) else .no
def yes : M Bool := M.ret true
theorem wipe_get {st : L2.St} {j : Nat} : ∀ {is : List Nat}, (wipe st is)[j]? = if j ∈ is then (if j < st.length then some none else none) else st[j]?
  | [] => by simp [wipe]
  | i :: is => by
    unfold wipe
    by_cases e : i = j
    · subst e
      rw [if_pos (List.mem_cons_self), List.getElem?_set_self']
      by_cases hl : i < st.length
      · rw [if_pos hl, List.getElem?_eq_getElem (by rw [wipe_length]; exact hl)]
        rfl
      · rw [if_neg hl, List.getElem?_eq_none (by rw [wipe_length]; omega)]
        rfl
    · rw [List.getElem?_set_ne e, wipe_get (is := is)]
      have : (j ∈ i :: is) ↔ j ∈ is := by
        rw [List.mem_cons]
        exact ⟨fun h => h.elim (fun z => absurd z.symm e) id, .inr⟩
      by_cases hj : j ∈ is
      · rw [if_pos hj, if_pos (this.mpr hj)]
      · rw [if_neg hj, if_neg (fun z => hj (this.mp z))]
theorem wipeE_len (r : En) : ∀ is : List Nat, (wipeE r is).length = r.length
  | [] => rfl
  | i :: is => by
    unfold wipeE
    rw [List.length_set, wipeE_len r is]
theorem wipeE_get {r : En} {j : Nat} : ∀ {is : List Nat}, (wipeE r is)[j]? = if j ∈ is then (if j < r.length then some .unk else none) else r[j]?
  | [] => by simp [wipeE]
  | i :: is => by
    unfold wipeE
    by_cases e : i = j
    · subst e
      rw [if_pos (List.mem_cons_self), List.getElem?_set_self']
      by_cases hl : i < r.length
      · rw [if_pos hl, List.getElem?_eq_getElem (by rw [wipeE_len]; exact hl)]
        rfl
      · rw [if_neg hl, List.getElem?_eq_none (by rw [wipeE_len]; omega)]
        rfl
    · rw [List.getElem?_set_ne e, wipeE_get (is := is)]
      have : (j ∈ i :: is) ↔ j ∈ is := by
        rw [List.mem_cons]
        exact ⟨fun h => h.elim (fun z => absurd z.symm e) id, .inr⟩
      by_cases hj : j ∈ is
      · rw [if_pos hj, if_pos (this.mpr hj)]
      · rw [if_neg hj, if_neg (fun z => hj (this.mp z))]
theorem backE_len (r q : En) : ∀ is : List Nat, (backE r q is).length = q.length
  | [] => rfl
  | i :: is => by
    unfold backE
    rw [List.length_set, backE_len r q is]
theorem backE_get {r q : En} {j : Nat} : ∀ {is : List Nat}, (backE r q is)[j]? = if j ∈ is then (if j < q.length then some (r.getD j .unk) else none) else q[j]?
  | [] => by simp [backE]
  | i :: is => by
    unfold backE
    by_cases e : i = j
    · subst e
      rw [if_pos (List.mem_cons_self), List.getElem?_set_self']
      by_cases hl : i < q.length
      · rw [if_pos hl, List.getElem?_eq_getElem (by rw [backE_len]; exact hl)]
        rfl
      · rw [if_neg hl, List.getElem?_eq_none (by rw [backE_len]; omega)]
        rfl
    · rw [List.getElem?_set_ne e, backE_get (is := is)]
      have : (j ∈ i :: is) ↔ j ∈ is := by
        rw [List.mem_cons]
        exact ⟨fun h => h.elim (fun z => absurd z.symm e) id, .inr⟩
      by_cases hj : j ∈ is
      · rw [if_pos hj, if_pos (this.mpr hj)]
      · rw [if_neg hj, if_neg (fun z => hj (this.mp z))]
section
variable {K : PySem.W.Frag} {pa : Nat → Addr} {H0 F0 F H : Hp} {st : L2.St} {r : En}
theorem Ok.wiped (k : Ok K pa H0 F0 F H st r) : ∀ is : List Nat, Ok K pa H0 F0 F H (wipe st is) (wipeE r is)
  | [] => k
  | i :: is => (Ok.wiped k is).forget
/-- an object that is nobody's changes -/
theorem Ok.aside (k : Ok K pa H0 F0 F H st r) {p : Addr} {o : HO} (n0 : H0 p = none) (nF : F p = none) (nO : ∀ (i : Nat) (s : Sl) (c : Ct), r[i]? = some s → s.own = some c → st[i]? ≠ some (some (.ref p))) (tb : LamX.Tabs (TabT.T K) (upd H p o)) : Ok K pa H0 F0 F (upd H p o) st r where
  hH := k.hH.mut n0
  fF := k.fF
  fH := k.fH.mut nF
  sep := k.sep
  len := k.len
  sl := fun i s h n => by
    obtain ⟨v, h1, h2⟩ := k.sl i s h n
    refine ⟨v, h1, ?_⟩
    cases s with
    | unk => trivial
    | v d => exact h2
    | o ct =>
      obtain ⟨a, rfl, z1, z2, z3⟩ := h2
      have ne : a ≠ p := fun z => nO i _ ct h rfl (by rw [h1, z])
      exact ⟨a, rfl, z1, z2, z3.mono (Ex.refl F) (upd_ne ne)⟩
    | io ct =>
      obtain ⟨rfl, z1, z2, z3⟩ := h2
      have ne : pa i ≠ p := fun z => nO i _ ct h rfl (by rw [h1, z])
      exact ⟨rfl, z1, z2, z3.mono (Ex.refl F) (upd_ne ne)⟩
  tb := tb
  dis := k.dis
/-- the block's end -/
theorem Ok.back (k : Ok K pa H0 F0 F H st r) {F' H' : Hp} {q : En} {is : List Nat} (hn : noOwn r is = true) (e : Ex F F') (k2 : Ok K pa H0 F0 F' H' (wipe st is) (wipeE q is)) : Ok K pa H0 F0 F' H' st (backE r (wipeE q is) is) := by
  have l1 : st.length = q.length := by
    have := k2.len
    rw [wipe_length, wipeE_len] at this
    exact this
  have l2 := k.len
  have own : ∀ (j : Nat) (s : Sl) (c : Ct), (backE r (wipeE q is) is)[j]? = some s → s.own = some c → j ∉ is ∧ (wipeE q is)[j]? = some s := fun j s c h hc => by
    rw [backE_get] at h
    by_cases hj : j ∈ is
    · rw [if_pos hj] at h
      have hz := List.all_eq_true.mp hn j hj
      split at h
      · cases h
        rw [List.getD_eq_getElem?_getD] at hc
        cases hr : r[j]? with
        | none =>
          rw [hr] at hz
          cases hz
        | some x =>
          rw [hr] at hz hc
          have hz : x.own.isNone = true := hz
          have hc : x.own = some c := hc
          rw [hc] at hz
          cases hz
      · cases h
    · rw [if_neg hj] at h
      exact ⟨hj, h⟩
  refine ⟨k2.hH, k2.fF, k2.fH, k2.sep, by rw [backE_len, wipeE_len]; exact l1, fun j s h n => ?_, k2.tb, fun i j s q2 c c' a ne h1 h2 o1 o2 s1 s2 => ?_⟩
  · by_cases hj : j ∈ is
    · rw [backE_get, if_pos hj] at h
      split at h
      · cases h
        rw [List.getD_eq_getElem?_getD] at n ⊢
        have hz := List.all_eq_true.mp hn j hj
        cases hr : r[j]? with
        | none =>
          rw [hr] at hz
          cases hz
        | some x =>
          rw [hr] at n
          have n : x ≠ .unk := n
          obtain ⟨v, z1, z2⟩ := k.sl j x hr n
          refine ⟨v, z1, ?_⟩
          rw [hr] at hz
          show SlOk K (pa j) H0 F' H' v x
          cases x with
          | unk => trivial
          | v d => exact dp_mono e z2
          | o ct => cases hz
          | io ct => cases hz
      · cases h
    · have h2 := h
      rw [backE_get, if_neg hj] at h2
      obtain ⟨v, z1, z2⟩ := k2.sl j s h2 n
      rw [wipe_get, if_neg hj] at z1
      exact ⟨v, z1, z2⟩
  · obtain ⟨g1, g2⟩ := own i s c h1 o1
    obtain ⟨g3, g4⟩ := own j q2 c' h2 o2
    exact k2.dis i j s q2 c c' a ne g2 g4 o1 o2 (by rw [wipe_get, if_neg g1]; exact s1) (by rw [wipe_get, if_neg g3]; exact s2)
end
theorem wipe_eq {st st' : L2.St} {is : List Nat} (hl : st'.length = st.length) (h : ∀ j, j ∉ is → st'[j]? = (wipe st is)[j]?) : wipe st' is = wipe st is := by
  apply List.ext_getElem?
  intro j
  rw [wipe_get]
  by_cases hj : j ∈ is
  · rw [if_pos hj, wipe_get, if_pos hj, hl]
  · rw [if_neg hj, h j hj]
theorem compL_cons {is : List Nat} {tg : Tg} {tt : M Bool} {te : M D} {x : D} {xs acc ys : List D} {r q : En} (h : compL is tg tt te (x :: xs) acc r = .ok ys q) :
    ∃ r1, tg x (wipeE r is) = some r1 ∧ ((∃ r2 y r3, tt r1 = .ok true r2 ∧ te r2 = .ok y r3 ∧ acc.length < 16777216 ∧ compL is tg tt te xs (acc ++ [y]) r3 = .ok ys q) ∨ ∃ r2, tt r1 = .ok false r2 ∧ compL is tg tt te xs acc r2 = .ok ys q) := by
  unfold compL at h
  split at h
  · cases h
  · rename_i r1 h1
    refine ⟨r1, h1, ?_⟩
    split at h
    · rename_i r2 h2
      split at h
      · rename_i y r3 h3
        split at h
        · exact .inl ⟨r2, y, r3, h2, h3, by assumption, h⟩
        · cases h
      · cases h
    · rename_i r2 h2
      exact .inr ⟨r2, h2, h⟩
    · cases h
abbrev Cc.nox (c : Cc) : Cc := { c with W := fun _ _ _ _ => False }
section
variable {X : Cx} {c : Cc}
/-- the block's reading from the mirror -/
theorem lc_ok {src : M (List D)} {is js : List Nat} {t : Tg} {tt : M Bool} {te : M D} {st : L2.St} {H : Hp} {Q : VK} (hjs : ∀ j ∈ js, j ∈ is) (h : tO c (oComp src is t tt te) st H Q) :
    tLc (iM c src) (gM c.K js t) (tT c.nox tt) (tM c.nox te) is st H Q := by
  obtain ⟨pa, H0, F0, F, r, ok, po⟩ := h
  refine ⟨pa, H0, F0, F, r, ok, (Po.bind po).mono (fun _ _ x => x) fun xs r1 q F1 H1 J k1 e1 y Dd nD => ?_⟩
  by_cases hn : noOwn r1 is = true
  case neg =>
    rw [if_neg hn] at q
    exact q.elim
  rw [if_pos hn] at q
  cases hcl : compL is t tt te xs [] r1 with
  | no =>
    rw [hcl] at q
    exact q.elim
  | ex ee rr =>
    rw [hcl] at q
    exact q.elim
  | ok ys qe =>
    rw [hcl] at q
    have n0 : H0 Dd = none := k1.hH.nn nD
    have nF1 : F1 Dd = none := k1.fH.nn nD
    have nF0 : F0 Dd = none := k1.fF.nn nF1
    have kw := (k1.wiped is)
    refine ⟨fun i m H => i + m = xs.length ∧ ∃ F' q acc vs, Ok c.K pa H0 F0 F' H (wipe st is) (wipeE q is) ∧ Ex F1 F' ∧ H Dd = some (.lst vs) ∧ RpAll c.K F' vs acc ∧ F' Dd = none ∧ (∀ (i : Nat) (s : Sl) (ct : Ct), (wipeE q is)[i]? = some s → s.own = some ct → (wipe st is)[i]? ≠ some (some (.ref Dd))) ∧ compL is t tt te (xs.drop i) acc q = .ok ys qe,
      ⟨xs.length, by omega, F1, r1, [], [], kw.aside n0 nF1 (kw.nobody nD) (tabs_new kw.tb nD), Ex.refl F1, upd_same, .nil, nF1, kw.nobody nD, hcl⟩, fun i m H hW => ?_⟩
    obtain ⟨hm, F', q', acc, vs, k, e, hD, hv, nF, nO, hc⟩ := hW
    by_cases hl : i < xs.length
    · have hx : xs[i]? = some xs[i] := List.getElem?_eq_getElem hl
      rw [drop_cons hx] at hc
      obtain ⟨r2, ht, hrest⟩ := compL_cons hc
      refine .inr ⟨y.go i H hl (e.trans k.fH), fun H2 => ∃ F' q acc vs, Ok c.K pa H0 F0 F' H2 (wipe st is) (wipeE q is) ∧ Ex F1 F' ∧ H2 Dd = some (.lst vs) ∧ RpAll c.K F' vs acc ∧ F' Dd = none ∧ (∀ (i : Nat) (s : Sl) (ct : Ct), (wipeE q is)[i]? = some s → s.own = some ct → (wipe st is)[i]? ≠ some (some (.ref Dd))) ∧ compL is t tt te (xs.drop (i + 1)) acc q = .ok ys qe,
        fun H2 z => ⟨m - 1, by omega, by omega, z⟩, fun x H2 hy => ?_⟩
      -- the frame with the list that is made
      have kf : Ok c.K pa (upd H0 Dd (.lst vs)) F0 F' H (wipe st is) (wipeE q' is) := k.frame ⟨fun a o z nt => by
          by_cases ha : a = Dd
          · subst ha
            rw [upd_same] at z
            rw [hD]
            exact z
          · rw [upd_ne ha] at z
            exact k.hH.at_ a o z nt, fun a ps z => by
          by_cases ha : a = Dd
          · subst ha
            rw [upd_same] at z
            cases z
          · rw [upd_ne ha] at z
            exact k.hH.tb a ps z⟩ (fun a z1 z2 => by
          by_cases ha : a = Dd
          · subst ha
            exact absurd nF z2
          · rw [upd_ne ha] at z1
            exact k.sep a z1 z2) (fun j s ct a hj hct hst => by
          have na : a ≠ Dd := fun z => nO j s ct hj hct (by rw [hst, z])
          rw [upd_ne na]
          obtain ⟨a', g1, g2, g3, g4⟩ := k.ownd hj hct
          rw [hst] at g1
          cases g1
          exact g3)
      obtain ⟨F2, k2, e2, dp2⟩ := y.step kf e hx hy
      -- back to the old frame
      have unframe : ∀ {F3 H3 : Hp} {st3 : L2.St} {r3 : En}, Ok c.K pa (upd H0 Dd (.lst vs)) F0 F3 H3 st3 r3 → Ok c.K pa H0 F0 F3 H3 st3 r3 ∧ H3 Dd = some (.lst vs) ∧ F3 Dd = none ∧ (∀ (i : Nat) (s : Sl) (ct : Ct), r3[i]? = some s → s.own = some ct → st3[i]? ≠ some (some (.ref Dd))) := fun {F3 H3 st3 r3} k3 => by
        have h0 : Ex H0 (upd H0 Dd (.lst vs)) := Ex.new n0
        refine ⟨k3.frame (h0.trans k3.hH) (fun a z1 z2 => k3.sep a (by
          cases hz : H0 a with
          | none => exact absurd hz z1
          | some o => exact (h0.some hz).elim fun _ q => ne_none q) z2) (fun j s ct a hj hct hst => ?_), k3.hH.at_ Dd _ upd_same (fun ps z => nomatch z), none_of_not fun z => k3.sep Dd (ne_none upd_same) z nF0, fun j s ct hj hct hst => ?_⟩
        · obtain ⟨a', g1, g2, g3, g4⟩ := k3.ownd hj hct
          rw [hst] at g1
          cases g1
          exact h0.nn g3
        · obtain ⟨a', g1, g2, g3, g4⟩ := k3.ownd hj hct
          rw [hst] at g1
          cases g1
          rw [upd_same] at g3
          cases g3
      refine ⟨pa, _, F0, F2, _, xs[i], r2, k2, dp2, ht, fun st3 k3 ag => ?_⟩
      have hw : wipe st3 is = wipe st is := wipe_eq (by rw [ag.1, wipe_length]) fun j hj => ag.2 j fun z => hj (hjs j z)
      refine ⟨hw, ?_⟩
      rcases hrest with ⟨r3, yv, r4, h1, h2, h3, h4⟩ | ⟨r3, h1, h4⟩
      · refine ⟨pa, _, F0, F2, r2, k3, ?_⟩
        rw [h1]
        intro F4 H4 k4 e4
        show tM c.nox te st3 H4 _
        refine ⟨pa, _, F0, F4, r3, k4, ?_⟩
        rw [h2]
        intro F5 H5 v k5 e5 dp5
        obtain ⟨k6, hD6, nF6, nO6⟩ := unframe k5
        refine ⟨vs, hD6, by rw [dpa_len hv, sizeLine_eq]; exact h3, F5, r4, acc ++ [yv], vs ++ [v], ?_, ((e.trans e2).trans e4).trans e5, upd_same, dpa_app (dpa_mono ((e2.trans e4).trans e5) hv) (.cons dp5 .nil), nF6, ?_, h4⟩
        · have k7 := (k6.aside n0 nF6 nO6 (o := .lst (vs ++ [v])) (tabs_lst k6.tb hD6)).wiped is
          rw [hw] at k7
          exact k7
        · intro j s ct hj hct hst
          rw [wipeE_get] at hj
          by_cases hji : j ∈ is
          · rw [if_pos hji] at hj
            split at hj
            · cases hj
              cases hct
            · cases hj
          · rw [if_neg hji] at hj
            refine nO6 j s ct hj hct ?_
            rw [← hw, wipe_get, if_neg hji] at hst
            exact hst
      · refine ⟨pa, _, F0, F2, r2, k3, ?_⟩
        rw [h1]
        intro F4 H4 k4 e4
        obtain ⟨k6, hD6, nF6, nO6⟩ := unframe k4
        show ∃ F' q acc vs, _
        refine ⟨F4, r3, acc, vs, ?_, (e.trans e2).trans e4, hD6, dpa_mono (e2.trans e4) hv, nF6, ?_, h4⟩
        · have k7 := k6.wiped is
          rw [hw] at k7
          exact k7
        · intro j s ct hj hct hst
          rw [wipeE_get] at hj
          by_cases hji : j ∈ is
          · rw [if_pos hji] at hj
            split at hj
            · cases hj
              cases hct
            · cases hj
          · rw [if_neg hji] at hj
            refine nO6 j s ct hj hct ?_
            rw [← hw, wipe_get, if_neg hji] at hst
            exact hst
    · have ei : i = xs.length := by omega
      subst ei
      rw [List.drop_length] at hc
      cases hc
      have kb := k1.back hn e k
      refine .inl ⟨y.stop H (e.trans k.fH), q F' H _ kb (e1.trans e) ⟨Dd, rfl, nF, n0, ⟨vs, hD, hv⟩, fun j s ct hj hct hst => ?_⟩⟩
      rw [backE_get] at hj
      by_cases hji : j ∈ is
      · rw [if_pos hji] at hj
        split at hj
        · cases hj
          have hz := List.all_eq_true.mp hn j hji
          rw [List.getD_eq_getElem?_getD] at hct
          cases hr : r1[j]? with
          | none =>
            rw [hr] at hz
            cases hz
          | some x =>
            rw [hr] at hz hct
            have hz : x.own.isNone = true := hz
            have hct : x.own = some ct := hct
            rw [hct] at hz
            cases hz
        · cases hj
      · rw [if_neg hji] at hj
        exact nO j s ct hj hct (by rw [wipe_get, if_neg hji]; exact hst)
theorem o_lc {elt tg iter : Expr} {ifs : List Expr} {scope : Scope} {own : List (Str × Nat)} {pos : Pos} {src : M (List D)} {js : List Nat} {t : Tg} {tt : M Bool} {te : M D} (hi : PI X tg iter (iM c src)) (ok : BlkOk X.N X.env.scope scope own)
    (hg : ∀ (s : Shared) (H : Hp) (C : Addr) (cl : List (Str × Addr)) (fp : List Addr), PG (X.blk s H scope (compEnvC scope cl C X.env) fp) tg (gM c.K js t)) (ht : ∀ (s : Shared) (H : Hp) (C : Addr) (cl : List (Str × Addr)) (fp : List Addr), PTs (X.blk s H scope (compEnvC scope cl C X.env) fp) ifs (tT c.nox tt))
    (he : ∀ (s : Shared) (H : Hp) (C : Addr) (cl : List (Str × Addr)) (fp : List Addr), PE (X.blk s H scope (compEnvC scope cl C X.env) fp) elt (tM c.nox te)) (hN : X.N.Nodup) (hjs : ∀ j ∈ js, j ∈ own.map (·.2) := by decide) (hc : X.calm = true := by rfl) (hs : ∀ x, foldedSetIterable iter X.env x = pure x := by intro _; rfl) :
    PE X (.ListComp elt [⟨tg, iter, ifs, 0⟩] scope pos) (tO c (oComp src (own.map (·.2)) t tt te)) :=
  pe_cq (pe_lc hc hN hi ok hg ht he hs) fun st H Q h => lc_ok hjs h
/-- x = [..] -/
theorem s_setLc {i : Nat} {y : Str} {py : Pos} {elt tg iter : Expr} {ifs : List Expr} {scope : Scope} {own : List (Str × Nat)} {pos spos : Pos} {src : M (List D)} {js : List Nat} {t : Tg} {tt : M Bool} {te : M D} (hi : PI X tg iter (iM c src)) (ok : BlkOk X.N X.env.scope scope own)
    (hg : ∀ (s : Shared) (H : Hp) (C : Addr) (cl : List (Str × Addr)) (fp : List Addr), PG (X.blk s H scope (compEnvC scope cl C X.env) fp) tg (gM c.K js t)) (ht : ∀ (s : Shared) (H : Hp) (C : Addr) (cl : List (Str × Addr)) (fp : List Addr), PTs (X.blk s H scope (compEnvC scope cl C X.env) fp) ifs (tT c.nox tt))
    (he : ∀ (s : Shared) (H : Hp) (C : Addr) (cl : List (Str × Addr)) (fp : List Addr), PE (X.blk s H scope (compEnvC scope cl C X.env) fp) elt (tM c.nox te)) (hN : X.N.Nodup) (hjs : ∀ j ∈ js, j ∈ own.map (·.2) := by decide) (hc : X.calm = true := by rfl) (hy : X.N[i]? = some y := by rfl) (hyl : X.env.scope.names.lookup y = some .local := by rfl)
    (hsw : swapsWith (.ListComp elt [⟨tg, iter, ifs, 0⟩] scope pos) (some (.Name y py)) spos.line X.env = pure true := by exact sw_true rfl rfl rfl (by decide +kernel)) (hs : ∀ x, foldedSetIterable iter X.env x = pure x := by intro _; rfl) :
    PS X (.Assign [.Name y py] (.ListComp elt [⟨tg, iter, ifs, 0⟩] scope pos) spos) (sM c (sSetO i (oComp src (own.map (·.2)) t tt te))) :=
  ps_cq (ps_setLc hc hN hy hyl hsw hi ok hg ht he hs) fun Dd st H ⟨pa, H0, F0, F, r, okk, po⟩ => lc_ok hjs (seqO okk po fun d r1 F1 H1 v k1 e1 dp q => by
    obtain ⟨q, hi⟩ := setM_po q
    exact q F1 H1 _ (k1.setRv hi dp) e1)
theorem ts_nil : PTs X [] (tT c yes) := ⟨fun pins s st H Q I h => (pts_nil (X := X)).run pins s st H Q I (by
  obtain ⟨pa, H0, F0, F, r, ok, po⟩ := h
  exact po F H ok (Ex.refl F))⟩
theorem ts_one {e : Expr} {m : M Bool} (h : PT X e (tT c m)) : PTs X [e] (tT c m) := pts_one h
end
end Pu

namespace Pu
open PySem PySem.Spec PyProof.Rows L2
variable [TabT]

/-! ### what a def promises -/
def ArgsOk (rs : List Sl) : Prop := ∀ s ∈ rs, (∃ d, s = .v d) ∨ ∃ ct, s = .io ct
def spG (K : PySem.W.Frag) (mg : Str → Option Value) (n : Nat) (f : List Sl → Re RV) : Sp := fun vs H Q E => vs.length = n ∧ ∃ pa Hk F rs, Ok K pa Hk F F H (vs.map some) rs ∧ ArgsOk rs ∧
  Po (fun e rs' => ∀ F' H' cls dd, Ok K pa Hk F F' H' (vs.map some) rs' → ExOk ⟨K, mg, fun _ _ _ _ => True⟩ F' H' e cls dd → E cls dd H') (f rs)
    fun rv rs' => ∀ F' H' v, Ok K pa Hk F F' H' (vs.map some) rs' → RvOk K Hk F' H' (vs.map some) rs' v rv → Q v H'
def backA : List Sl → En → Option (List Sl)
  | [], _ => some []
  | .io _ :: ss, .io ct :: q => (backA ss q).map fun z => .io ct :: z
  | .io _ :: _, _ => none
  | s :: ss, _ :: q => (backA ss q).map fun z => s :: z
  | _ :: _, [] => none
def backR {α : Type} (rs : List Sl) (x : Re α) : Re α := match x with
  | .ok a r => (match backA rs r with
    | some z => .ok a z
    | none => .no)
  | .ex e r => (match backA rs r with
    | some z => .ex e z
    | none => .no)
  | .no => .no
def flRv : M Fl → M RV := fun m r => match m r with
  | .ok (.rt rv) r => .ok rv r
  | .ok .nx r => .ok (.v .none) r
  | .ok _ _ => .no
  | .ex e r => .ex e r
  | .no => .no
/-- a def: n slots, its body -/
@[irreducible] def fnOf (n : Nat) (m : M Fl) : List Sl → Re RV := fun rs => backR rs (flRv m (rs ++ List.replicate (n - rs.length) .unk))
theorem backA_len : ∀ {rs : List Sl} {q : En} {z : List Sl}, backA rs q = some z → z.length = rs.length
  | [], _, _, h => by
    cases h
    rfl
  | .io _ :: ss, .io ct :: q, z, h => by
    have h : (backA ss q).map (fun z => Sl.io ct :: z) = some z := h
    cases hb : backA ss q with
    | none =>
      rw [hb] at h
      cases h
    | some y =>
      rw [hb] at h
      cases h
      exact congrArg Nat.succ (backA_len hb)
  | .io _ :: _, .unk :: _, _, h => by cases h
  | .io _ :: _, .v _ :: _, _, h => by cases h
  | .io _ :: _, .o _ :: _, _, h => by cases h
  | .io _ :: _, [], _, h => by cases h
  | .unk :: ss, _ :: q, z, h => by
    have h : (backA ss q).map (fun z => Sl.unk :: z) = some z := h
    cases hb : backA ss q with
    | none =>
      rw [hb] at h
      cases h
    | some y =>
      rw [hb] at h
      cases h
      exact congrArg Nat.succ (backA_len hb)
  | .v d :: ss, _ :: q, z, h => by
    have h : (backA ss q).map (fun z => Sl.v d :: z) = some z := h
    cases hb : backA ss q with
    | none =>
      rw [hb] at h
      cases h
    | some y =>
      rw [hb] at h
      cases h
      exact congrArg Nat.succ (backA_len hb)
  | .o d :: ss, _ :: q, z, h => by
    have h : (backA ss q).map (fun z => Sl.o d :: z) = some z := h
    cases hb : backA ss q with
    | none =>
      rw [hb] at h
      cases h
    | some y =>
      rw [hb] at h
      cases h
      exact congrArg Nat.succ (backA_len hb)
  | .unk :: _, [], _, h => by cases h
  | .v _ :: _, [], _, h => by cases h
  | .o _ :: _, [], _, h => by cases h
/-- place by place: the caller's object as it is now, all else as it was -/
theorem backA_get : ∀ {rs : List Sl} {q : En} {z : List Sl}, backA rs q = some z → ∀ (i : Nat) (s : Sl), z[i]? = some s → (∃ ct ct', rs[i]? = some (.io ct) ∧ s = .io ct' ∧ q[i]? = some (.io ct')) ∨ (rs[i]? = some s ∧ s.isIo = false)
  | [], _, _, h, i, s, hs => by
    cases h
    cases hs
  | .io c0 :: ss, .io ct :: q, z, h, i, s, hs => by
    have h : (backA ss q).map (fun z => Sl.io ct :: z) = some z := h
    cases hb : backA ss q with
    | none =>
      rw [hb] at h
      cases h
    | some y =>
      rw [hb] at h
      cases h
      cases i with
      | zero =>
        cases hs
        exact .inl ⟨c0, ct, rfl, rfl, rfl⟩
      | succ i => exact backA_get hb i s hs
  | .io _ :: _, .unk :: _, _, h, _, _, _ => by cases h
  | .io _ :: _, .v _ :: _, _, h, _, _, _ => by cases h
  | .io _ :: _, .o _ :: _, _, h, _, _, _ => by cases h
  | .io _ :: _, [], _, h, _, _, _ => by cases h
  | .unk :: ss, _ :: q, z, h, i, s, hs => by
    have h : (backA ss q).map (fun z => Sl.unk :: z) = some z := h
    cases hb : backA ss q with
    | none =>
      rw [hb] at h
      cases h
    | some y =>
      rw [hb] at h
      cases h
      cases i with
      | zero =>
        cases hs
        exact .inr ⟨rfl, rfl⟩
      | succ i => exact backA_get hb i s hs
  | .v d :: ss, _ :: q, z, h, i, s, hs => by
    have h : (backA ss q).map (fun z => Sl.v d :: z) = some z := h
    cases hb : backA ss q with
    | none =>
      rw [hb] at h
      cases h
    | some y =>
      rw [hb] at h
      cases h
      cases i with
      | zero =>
        cases hs
        exact .inr ⟨rfl, rfl⟩
      | succ i => exact backA_get hb i s hs
  | .o d :: ss, _ :: q, z, h, i, s, hs => by
    have h : (backA ss q).map (fun z => Sl.o d :: z) = some z := h
    cases hb : backA ss q with
    | none =>
      rw [hb] at h
      cases h
    | some y =>
      rw [hb] at h
      cases h
      cases i with
      | zero =>
        cases hs
        exact .inr ⟨rfl, rfl⟩
      | succ i => exact backA_get hb i s hs
  | .unk :: _, [], _, h, _, _, _ => by cases h
  | .v _ :: _, [], _, h, _, _, _ => by cases h
  | .o _ :: _, [], _, h, _, _, _ => by cases h
section
variable {K : PySem.W.Frag} {pa : Nat → Addr} {Hk F F' H H' : Hp} {vs : List V} {rs : List Sl} {st' : L2.St} {r' : En}
/-- the arguments behind the call -/
theorem Ok.ended (k : Ok K pa Hk F F H (vs.map some) rs) (ao : ArgsOk rs) (k' : Ok K pa Hk F F' H' st' r') {z : List Sl} (hz : backA rs r' = some z) : Ok K pa Hk F F' H' (vs.map some) z where
  hH := k'.hH
  fF := k'.fF
  fH := k'.fH
  sep := k'.sep
  len := by rw [k.len, backA_len hz]
  sl := fun i s hs n => by
    rcases backA_get hz i s hs with ⟨ct, ct', h1, rfl, h2⟩ | ⟨h1, h2⟩
    · obtain ⟨v, g1, g2⟩ := k.sl i _ h1 (fun z => nomatch z)
      obtain ⟨w, g3, g4⟩ := k'.sl i _ h2 (fun z => nomatch z)
      obtain ⟨rfl, _⟩ := g2
      obtain ⟨rfl, g5⟩ := g4
      exact ⟨_, g1, rfl, g5⟩
    · obtain ⟨v, g1, g2⟩ := k.sl i s h1 n
      refine ⟨v, g1, ?_⟩
      rcases ao s (List.mem_of_getElem? h1) with ⟨d, rfl⟩ | ⟨ct, rfl⟩
      · exact dp_mono k'.fF g2
      · cases h2
  tb := k'.tb
  dis := fun i j s q c c' a ne h1 h2 o1 o2 s1 s2 => by
    have orig : ∀ (j : Nat) (s : Sl) (c : Ct), z[j]? = some s → s.own = some c → ∃ s' c', rs[j]? = some s' ∧ s'.own = some c' := fun j s c hj hc => by
      rcases backA_get hz j s hj with ⟨ct, ct', h1, rfl, h2⟩ | ⟨h1, h2⟩
      · exact ⟨_, ct, h1, rfl⟩
      · exact ⟨s, c, h1, hc⟩
    obtain ⟨s', c1, g1, g2⟩ := orig i s c h1 o1
    obtain ⟨q', c2, g3, g4⟩ := orig j q c' h2 o2
    exact k.dis i j s' q' c1 c2 a ne g1 g3 g2 g4 s1 s2
theorem RvOk.ended (k : Ok K pa Hk F F H (vs.map some) rs) (ao : ArgsOk rs) (k' : Ok K pa Hk F F' H' st' r') {z : List Sl} (hz : backA rs r' = some z) {v : V} {rv : RV} (h : RvOk K Hk F' H' st' r' v rv) : RvOk K Hk F' H' (vs.map some) z v rv := by
  cases rv with
  | v d => exact h
  | o ct =>
    obtain ⟨a, rfl, z1, z2, z3, z4⟩ := h
    refine ⟨a, rfl, z1, z2, z3, fun i s c hs hc hst => ?_⟩
    rcases backA_get hz i s hs with ⟨ct0, ct', h1, rfl, h2⟩ | ⟨h1, h2⟩
    · obtain ⟨v, g1, g2⟩ := k.sl i _ h1 (fun z => nomatch z)
      obtain ⟨w, g3, g4⟩ := k'.sl i _ h2 (fun z => nomatch z)
      obtain ⟨rfl, _⟩ := g2
      obtain ⟨rfl, g5⟩ := g4
      rw [hst] at g1
      cases g1
      exact z4 i _ ct' h2 rfl g3
    · rcases ao s (List.mem_of_getElem? h1) with ⟨d, rfl⟩ | ⟨ct, rfl⟩
      · cases hc
      · cases h2
/-- the slots at the start -/
theorem Ok.begin (k : Ok K pa Hk F F H (vs.map some) rs) (n : Nat) : Ok K pa Hk F F H (vs.map some ++ List.replicate n none) (rs ++ List.replicate n .unk) := by
  have hl : vs.length = rs.length := by
    have := k.len
    rw [List.length_map] at this
    exact this
  have get : ∀ (i : Nat) (s : Sl), (rs ++ List.replicate n Sl.unk)[i]? = some s → s ≠ .unk → rs[i]? = some s ∧ i < rs.length := fun i s h ne => by
    by_cases hi : i < rs.length
    · rw [List.getElem?_append_left hi] at h
      exact ⟨h, hi⟩
    · rw [List.getElem?_append_right (by omega), List.getElem?_replicate] at h
      split at h
      · cases h
        exact absurd rfl ne
      · cases h
  refine ⟨k.hH, k.fF, k.fH, k.sep, by simp [hl], fun i s h ne => ?_, k.tb, fun i j s q c c' a ne h1 h2 o1 o2 s1 s2 => ?_⟩
  · obtain ⟨h1, h2⟩ := get i s h ne
    obtain ⟨v, g1, g2⟩ := k.sl i s h1 ne
    exact ⟨v, by rw [List.getElem?_append_left (by rw [List.length_map]; omega)]; exact g1, g2⟩
  · obtain ⟨g1, l1⟩ := get i s h1 (by intro z; subst z; cases o1)
    obtain ⟨g2, l2⟩ := get j q h2 (by intro z; subst z; cases o2)
    rw [List.getElem?_append_left (by rw [List.length_map]; omega)] at s1 s2
    exact k.dis i j s q c c' a ne g1 g2 o1 o2 s1 s2
end
abbrev ccOf (K : PySem.W.Frag) (mg : Str → Option Value) (E : XK) : Cc := ⟨K, mg, fun cls d _ H => E cls d H⟩
/-! ### room, with no guard of a text under way -/
/-- a frame of a def: no generator -/
structure Tpe (env : Env) : Prop where
  gen : env.scope.isGenerator = false
  co : env.scope.isCoroutine = false
  bl : env.builtins = builtinsNs
  gl : env.globals = mainGlobals
/-- the room of a caller -/
structure RmC (k : Nat) (A : Around) : Prop where
  room : Room k A
  gd : A.guards = some []
  dl : A.depth + 3 * k + 150 < recursionLimit
structure Rm (k : Nat) (A : Around) : Prop where
  room : Room k A
  gd : A.guards = some []
  dl : A.depth + 3 * k + 150 < recursionLimit
  top : ∃ env l, A.frames = some (env :: l) ∧ Tpe env
omit [TabT] in
theorem Rm.c {k : Nat} {A : Around} (r : Rm k A) : RmC k A := ⟨r.room, r.gd, r.dl⟩
omit [TabT] in
theorem RmC.deeper {k : Nat} {A : Around} {l : List Env} (r : RmC (k + 1) A) (hf : A.frames = some l) (env : Env) (t : Tpe env) : Rm k (A.deeper env) :=
  ⟨r.room.deeper _, r.gd, by have := r.dl; show A.depth + 1 + 3 * k + 150 < _; omega, ⟨env, l, by show A.frames.map _ = _; rw [hf]; rfl, t⟩⟩
omit [TabT] in
theorem Rm.deeper {k : Nat} {A : Around} (r : Rm (k + 1) A) (env : Env) (t : Tpe env) : Rm k (A.deeper env) := by
  obtain ⟨e0, l, hf, _⟩ := r.top
  exact r.c.deeper hf env t
theorem Rm.mono {j k : Nat} {A : Around} (r : Rm k A) (h : j ≤ k) : Rm j A := ⟨r.room.mono h, r.gd, by have := r.dl; omega, r.top⟩
theorem Rm.units {k : Nat} {A : Around} (r : Rm k A) : A.units + 64 < cLine := r.room.units
theorem Rm.u1 {k : Nat} {A : Around} (r : Rm k A) : A.units + 1 < cLine := by
  have := r.room.units
  omega
theorem Rm.in65 {k : Nat} {A : Around} (r : Rm k A) : A.units + 65 < cLine := by
  have := r.room.un
  omega
theorem Rm.u150 {k : Nat} {A : Around} (r : Rm k A) : A.units + 150 < cLine := by
  have := r.room.un
  omega
/-- what the heap at the start is like, where a long division may go by a module -/
structure SeerK (P : Program) (base : Heap) : Prop where
  tree : P.given.tree = none
  ns : base.NoSeer
/-- what a def does, where no guard is under way -/
structure FnG (P : Program) (w : World) (K : PySem.W.Frag) (mg : Str → Option Value) (base : Heap) (k : Nat) (f : Addr) (fd : FuncData) (ps : List Str) (sp : Sp) : Prop where
  len : ∀ us H Q E, sp us H Q E → us.length = ps.length
  run : ∀ (A : Around) (ou : List Env) (s : Shared) (H : Hp) (ar : Args) (us : List Value) (xs : List V) (Q : VK) (E : XK), RmC k A → Env0 P w K mg base A ou s H → BindsTo s fd ar (ps.zip us) → Vals xs us → sp xs H Q E → codeAny (model P w) A (.call (.ref f) ar) (CR (L2.CX P w) ou P w H s Q E) s
/-- cdv is the code of the def at f -/
def CodeAt (K : PySem.W.Frag) (f : Addr) (cdv : Value) : Prop := ∃ oc od fd osl, K.lookup f = some ⟨oc, od, .func fd, osl⟩ ∧ fd.code = cdv
theorem fnG_of {P : Program} {w : World} {K : PySem.W.Frag} {mg : Str → Option Value} {base : Heap} {x qual : Str} {params : Arguments} {body : List Stmt} {scope : Scope} {f : Addr} {fd : FuncData} {N ps : List Str} {k : Nat} {sp : Sp}
    (F : FunD K x qual params body scope [] [] f fd) (S : FnScope N ps scope) (len : ∀ us H Q E, sp us H Q E → us.length = ps.length)
    (hB : ∀ (cdv : Value) (A : Around) (ou : List Env) (s : Shared) (H : Hp) (xs : List V) (Q : VK) (E : XK), CodeAt K f cdv → Rm k (A.deeper (envOfC qual scope s.heap.objs.size f cdv)) → sp xs H Q E → ∃ t, PSs (cxOf (L2.CX P w) P w K mg base N qual scope f cdv A ou s H E) body t ∧ t { nx := fun _ G => Q .non G, rt := Q } (start N xs) H) :
    FnG P w K mg base (k + 1) f fd ps sp := by
  obtain ⟨oc, od, dV, kV, doc, pm, an, cdv, ct, osl, rfl, lk, hcd, -, -⟩ := F.ex
  refine ⟨len, fun A ou s H ar us xs Q E hr e0 hb rv hsp => ?_⟩
  have inK : K.In s.heap := e0.mod.kin.keeps fun c o q => (e0.bs c o q).1
  have nol : s.heap.NoLimit := e0.mod.nolimit.keeps fun c o q => (e0.bs c o q).1
  have kinds : ∀ y ∈ ps.zip us, scope.names.lookup y.1 = some .local ∨ (scope.names.lookup y.1 = some .cell ∧ ((cellsFrom (s.heap.objs.size + 1) scope.names []).lookup y.1).isSome = true) := fun y hy => (S.par y.1 (List.of_mem_zip (a := y.1) (b := y.2) hy).1).imp id fun q => ⟨q, PySem.W.cellsFrom_some _ _ _ (.inl q)⟩
  refine codeAny_call_function hr.room.depth (inK _ _ lk) rfl S.co S.gen rfl (PySem.W.codeRec_of inK hcd) (hb _ _ _ _ ?_)
  refine wpAny_newFunctionEnv_cells S.kind kinds fun env he s1 z => ?_
  subst he
  refine ⟨nol.keeps z.toInCall.keep, codeAny_func ?_⟩
  obtain ⟨t, ht, hq⟩ := hB cdv A ou s H xs Q E ⟨_, _, _, _, lk, rfl⟩ (hr.deeper e0.frames _ ⟨S.gen, S.co, rfl, rfl⟩) hsp
  have st0 : Inv (cxOf (L2.CX P w) P w K mg base N qual scope f cdv A ou s H E) [] (start N xs) H s1 := inv_start S hr.room.hd e0 (len _ _ _ _ hsp) rv z
  refine wpAny_mono (ht.run [] s1 _ H _ st0 hq) (fun fl s2 h => ?_) fun _ _ h => h
  cases fl with
  | ret u =>
    obtain ⟨v, _, H2, J, rv2, q⟩ := h
    exact ⟨v, H2, J.os, J.bare, J.base, J.hok, rv2, q⟩
  | next =>
    obtain ⟨_, H2, J, q⟩ := h
    exact ⟨.non, H2, J.os, J.bare, J.base, J.hok, rfl, q⟩
  | brk => exact h.elim fun _ h => h.elim fun _ h => h.2.elim
  | cont => exact h.elim fun _ h => h.elim fun _ h => h.2.elim
section
variable {X : Cx} {k : Nat} {f : Addr} {fd : FuncData} {ps : List Str} {sp : Sp} {Ew : L2.St → XK} {x : Str} {p pos : Pos} {e : Expr} {es : List Expr} {t : TA}
def tCallG (sp : Sp) (Ew : L2.St → XK) (t : TA) : TE := fun st H Q => t st H fun xs H1 => sp xs H1 Q (Ew st)
theorem runG {pins : List (Addr × Obj)} {st : L2.St} {H : Hp} {s : Shared} {Q : VK} {us : List Value} {xs : List V} (F : FnG X.prog X.w X.K X.mg X.base k f fd ps sp) (hr : Rm k X.A) (hb : Binds X.K fd ps []) (hx : PassesAt (L2.CX X.prog X.w) X st (Ew st)) (I : Inv X pins st H s) (rv : Vals xs us) (h : sp xs H Q (Ew st)) :
    wpAny (model X.prog X.w) X.A (call (.ref f) us) (EP X pins st Q) X.xe s := by
  have hb2 := hb s us I.kIn
  rw [List.append_nil] at hb2
  refine wpAny_call (codeAny_mono (F.run X.A X.stack s H ⟨us, []⟩ us xs Q (Ew st) hr.c I.env0 (hb2 (by rw [← rv.length]; exact F.len _ _ _ _ h)) rv h) fun o s2 q => ?_)
  rcases o with er | fl
  · exact hx pins H s er s2 I q
  · cases fl with
    | ret u => exact I.after q
    | next => exact False.elim q
    | brk => exact False.elim q
    | cont => exact False.elim q
theorem pe_callG (F : FnG X.prog X.w X.K X.mg X.base k f fd ps sp) (hr : Rm k X.A) (hg : Gl X x) (hm : X.mg x = some (.ref f)) (hk : PySem.W.keepIn X.K (.ref f) = true) (hb : Binds X.K fd ps []) (hx : ∀ st, PassesAt (L2.CX X.prog X.w) X st (Ew st)) (ha : PA X (e :: es) t)
    (hdb : (x == ("__debug__" : Str)) = false := by decide) (he : starEach (e :: es) X.env = (false, eval e X.env) :: starEach es X.env := by rfl) (hpl : (backTo pos (starEach es X.env)).any (·.1) = false := by rfl) : PE X (.Call (.Name x p) (e :: es) [] pos) (tCallG sp Ew t) :=
  ⟨fun pins s st H Q I h => wpAny_Call_Name_kw (ld_glob I hg hm (PySem.W.callWith_K (h₀ := X.base) I.ok.mod.kin hk (thn (ha.run pos pins s st H _ I h) fun us s1 ⟨xs, H1, I1, rv, q⟩ => ⟨I1.kIn, runG F hr hb (hx st) I1 rv q⟩) he hpl) hdb)⟩
theorem pe_callG0 (F : FnG X.prog X.w X.K X.mg X.base k f fd ps sp) (hr : Rm k X.A) (hg : Gl X x) (hm : X.mg x = some (.ref f)) (hk : PySem.W.keepIn X.K (.ref f) = true) (hb : Binds X.K fd ps []) (hx : ∀ st, PassesAt (L2.CX X.prog X.w) X st (Ew st))
    (hdb : (x == ("__debug__" : Str)) = false := by decide) : PE X (.Call (.Name x p) [] [] pos) (fun st H Q => sp [] H Q (Ew st)) :=
  ⟨fun pins s st H Q I h => wpAny_Call_Name_kw (ld_glob I hg hm (PySem.W.callWith_K0 I.kIn hk (runG (us := []) F hr hb (hx st) I .nil h)) hdb)⟩
end
/-- a def keeps its promise -/
theorem mk_fnC {P : Program} {w : World} {K : PySem.W.Frag} {mg : Str → Option Value} {base : Heap} {x qual : Str} {params : Arguments} {body : List Stmt} {scope : Scope} {f : Addr} {fd : FuncData} {N ps : List Str} {k : Nat} {m : M Fl}
    (F : FunD K x qual params body scope [] [] f fd) (S : FnScope N ps scope)
    (hb : ∀ (cdv : Value), CodeAt K f cdv → ∀ (A : Around) (outer : List Env) (s : Shared) (H : Hp) (E : XK), Rm k (A.deeper (envOfC qual scope s.heap.objs.size f cdv)) → PSs (cxOf (L2.CX P w) P w K mg base N qual scope f cdv A outer s H E) body (sM (ccOf K mg E) m)) :
    FnG P w K mg base (k + 1) f fd ps (spG K mg ps.length (fnOf N.length m)) := by
  refine fnG_of F S (fun vs H Q E h => h.1) fun cdv A outer s H vs Q E hc hr h => ⟨_, hb cdv hc A outer s H E hr, ?_⟩
  obtain ⟨hl, pa, Hk, F1, rs, ok, ao, po⟩ := h
  have hlr : rs.length = vs.length := by
    have := ok.len
    rw [List.length_map] at this
    exact this.symm
  have ok2 := ok.begin (N.length - vs.length)
  show sM (ccOf K mg E) m _ (vs.map some ++ List.replicate (N.length - vs.length) none) H
  refine ⟨pa, Hk, F1, F1, rs ++ List.replicate (N.length - vs.length) .unk, ok2, ?_⟩
  rw [← hlr]
  unfold fnOf flRv at po
  cases hm : m (rs ++ List.replicate (N.length - rs.length) .unk) with
  | no =>
    rw [hm] at po
    exact po.elim
  | ex e r1 =>
    rw [hm] at po
    intro F' H' st' cls dd k' e' xo
    have po : Po _ (backR rs (.ex e r1)) _ := po
    unfold backR at po
    cases hz : backA rs r1 with
    | none =>
      have po : Po _ (match backA rs r1 with
        | some z => (.ex e z : Re RV)
        | none => .no) _ := po
      rw [hz] at po
      exact po.elim
    | some z =>
      have po : Po _ (match backA rs r1 with
        | some z => (.ex e z : Re RV)
        | none => .no) _ := po
      rw [hz] at po
      exact po F' H' cls dd (ok.ended ao k' hz) xo
  | ok fl r1 =>
    rw [hm] at po
    have fin : ∀ rv, Po (fun e rs' => ∀ F' H' cls dd, Ok K pa Hk F1 F' H' (vs.map some) rs' → ExOk ⟨K, mg, fun _ _ _ _ => True⟩ F' H' e cls dd → E cls dd H') (backR rs (.ok rv r1)) (fun rv rs' => ∀ F' H' v, Ok K pa Hk F1 F' H' (vs.map some) rs' → RvOk K Hk F' H' (vs.map some) rs' v rv → Q v H') →
        ∀ F' H' st' v, Ok K pa Hk F1 F' H' st' r1 → RvOk K Hk F' H' st' r1 v rv → Q v H' := fun rv po F' H' st' v k' hv => by
      have po : Po _ (match backA rs r1 with
        | some z => (.ok rv z : Re RV)
        | none => .no) _ := po
      cases hz : backA rs r1 with
      | none =>
        rw [hz] at po
        exact po.elim
      | some z =>
        rw [hz] at po
        exact po F' H' v (ok.ended ao k' hz) (RvOk.ended ok ao k' hz hv)
    cases fl with
    | nx => exact fun F' H' st' k' e' => fin (.v .none) po F' H' st' .non k' .non
    | bk => exact po.elim
    | ct => exact po.elim
    | rt rv => exact fun F' H' st' v k' e' hv => fin rv po F' H' st' v k' hv

theorem mk_fn {P : Program} {w : World} {K : PySem.W.Frag} {mg : Str → Option Value} {base : Heap} {x qual : Str} {params : Arguments} {body : List Stmt} {scope : Scope} {f : Addr} {fd : FuncData} {N ps : List Str} {k : Nat} {m : M Fl}
    (F : FunD K x qual params body scope [] [] f fd) (S : FnScope N ps scope)
    (hb : ∀ (cdv : Value) (A : Around) (outer : List Env) (s : Shared) (H : Hp) (E : XK), Rm k (A.deeper (envOfC qual scope s.heap.objs.size f cdv)) → PSs (cxOf (L2.CX P w) P w K mg base N qual scope f cdv A outer s H E) body (sM (ccOf K mg E) m)) :
    FnG P w K mg base (k + 1) f fd ps (spG K mg ps.length (fnOf N.length m)) := mk_fnC F S fun cdv _ => hb cdv

/-! ### calls -/
/-- the def x of the text, its mirror -/
structure Fn (P : Program) (w : World) (K : PySem.W.Frag) (mg : Str → Option Value) (base : Heap) (k : Nat) (x : Str) (n : Nat) (f : List Sl → Re RV) : Prop where
  ex : ∃ (a : Addr) (fd : FuncData) (ps : List Str), mg x = some (.ref a) ∧ PySem.W.keepIn K (.ref a) = true ∧ Binds K fd ps [] ∧ FnG P w K mg base k a fd ps (spG K mg n f)
def cCall (f : List Sl → Re RV) (ms : M (List D)) : M RV := ms.bind fun ds r => match f (ds.map .v) with
  | .ok rv _ => .ok rv r
  | .ex e _ => .ex e r
  | .no => .no
def getC (i : Nat) (r : En) : Option Ct := (r[i]?).bind Sl.own
def putC (i : Nat) (ct : Ct) (r : En) : En := match r[i]? with
  | some s => r.set i (s.put ct)
  | none => r
/-- f(x, ..): the object x is the callee's to change -/
def cCallI (i : Nat) (f : List Sl → Re RV) (ms : M (List D)) : M RV := fun r => match getC i r with
  | none => .no
  | some _ => (ms r).bind fun ds r => match getC i r with
    | some ct => (match f (.io ct :: ds.map .v) with
      | .ok rv (.io ct' :: _) => .ok rv (putC i ct' r)
      | .ex e (.io ct' :: _) => .ex e (putC i ct' r)
      | _ => .no)
    | none => .no
section
variable {K : PySem.W.Frag} {pa : Nat → Addr} {H0 F0 F H : Hp} {st : L2.St} {r : En}
theorem getC_some {i : Nat} {r : En} {ct : Ct} (h : getC i r = some ct) : ∃ s, r[i]? = some s ∧ s.own = some ct := by
  unfold getC at h
  cases e : r[i]? with
  | none =>
    rw [e] at h
    cases h
  | some s =>
    rw [e] at h
    exact ⟨s, rfl, h⟩
theorem Ok.putC (k : Ok K pa H0 F0 F H st r) {i : Nat} {c c' : Ct} {a : Addr} {o : HO} (h : getC i r = some c) (ha : st[i]? = some (some (.ref a))) (new : CtOk K F (upd H a o) a c') : Ok K pa H0 F0 F (upd H a o) st (putC i c' r) := by
  obtain ⟨s, h1, h2⟩ := getC_some h
  unfold Pu.putC
  rw [h1]
  exact k.put h1 h2 ha new
theorem argsV {vs : List V} {ds : List D} (hr : RpAll K F vs ds) (fh : Ex F H) (tb : LamX.Tabs (TabT.T K) H) : Ok K pa H F F H (vs.map some) (ds.map Sl.v) where
  hH := Ex.refl H
  fF := Ex.refl F
  fH := fh
  sep := fun _ _ h => h
  len := by rw [List.length_map, List.length_map, dpa_len hr]
  sl := fun i s h n => by
    rw [List.getElem?_map] at h
    cases hd : ds[i]? with
    | none =>
      rw [hd] at h
      cases h
    | some d =>
      rw [hd] at h
      cases h
      obtain ⟨v, h1, h2⟩ := dpa_get hr hd
      exact ⟨v, by rw [List.getElem?_map, h1]; rfl, h2⟩
  tb := tb
  dis := fun i j s q c c' a ne h1 h2 o1 => by
    rw [List.getElem?_map] at h1
    cases hd : ds[i]? with
    | none =>
      rw [hd] at h1
      cases h1
    | some d =>
      rw [hd] at h1
      cases h1
      cases o1
theorem argsOkV (ds : List D) : ArgsOk (ds.map Sl.v) := fun s hs => by
  obtain ⟨d, _, rfl⟩ := List.mem_map.mp hs
  exact .inl ⟨d, rfl⟩
end
section
variable {X : Cx} {c : Cc} {k n : Nat} {x : Str} {f : List Sl → Re RV} {e : Expr} {es : List Expr} {p pos : Pos} {ms : M (List D)}
theorem callV {F H : Hp} {st : L2.St} {r : En} {pa : Nat → Addr} {H0 F0 F00 : Hp} {vs : List V} {ds : List D} {Q : VK} (hn : ds.length = n) (k1 : Ok c.K pa H0 F0 F H st r) (dps : RpAll c.K F vs ds)
    (e0 : Ex F00 F) (q : Po (XW c pa H0 F0 F) (match f (ds.map .v) with
      | .ok rv _ => .ok rv r
      | .ex e _ => .ex e r
      | .no => .no) fun rv r' => ∀ F' H' v, Ok c.K pa H0 F0 F' H' st r' → Ex F00 F' → RvOk c.K H0 F' H' st r' v rv → Q v H') : spG c.K c.mg n f vs H Q (fun cls d H' => c.W cls d st H') := by
  refine ⟨by rw [dpa_len dps]; exact hn, pa, H, F, ds.map .v, argsV dps k1.fH k1.tb, argsOkV ds, ?_⟩
  have grow : ∀ {F' H' : Hp} {z : List Sl}, Ok c.K pa H F F' H' (vs.map some) z → Ok c.K pa H0 F0 F' H' st r := fun {F' H' z} k2 => k1.grow k2.hH k2.fF k2.fH (fun a h1 h2 => k2.sep a h2 h1) k2.tb
  cases hf : f (ds.map .v) with
  | no =>
    rw [hf] at q
    exact q.elim
  | ex ee z =>
    rw [hf] at q
    exact fun F' H' cls dd k2 xo => q F' H' st cls dd (grow k2) k2.fF xo
  | ok rv z =>
    rw [hf] at q
    refine fun F' H' v k2 hv => q F' H' v (grow k2) (e0.trans k2.fF) ?_
    cases rv with
    | v d => exact hv
    | o ct =>
      obtain ⟨a, rfl, z1, z2, z3, z4⟩ := hv
      exact ⟨a, rfl, z1, k1.hH.nn z2, z3, k1.nobody z2⟩
theorem o_call (G : Fn X.prog X.w X.K X.mg X.base k x n f) (hr : Rm k X.A) (tk : Takes X c.W) (ha : PA X (e :: es) (tA c ms)) (hK : c.K = X.K := by rfl) (hM : c.mg = X.mg := by rfl) (hg : Gl X x := by rfl) (hnm : ∀ r ds r', ms r = .ok ds r' → ds.length = n)
    (hdb : (x == ("__debug__" : Str)) = false := by decide) (he : starEach (e :: es) X.env = (false, eval e X.env) :: starEach es X.env := by rfl) (hpl : (backTo pos (starEach es X.env)).any (·.1) = false := by rfl) :
    PE X (.Call (.Name x p) (e :: es) [] pos) (tO c (cCall f ms)) := by
  obtain ⟨a, fd, ps, g1, g2, g3, g4⟩ := G.ex
  refine pe_cq (pe_callG (Ew := fun st cls d H' => c.W cls d st H') g4 hr hg g1 g2 g3 (fun σ => passAt tk σ) ha hdb he hpl) fun st H Q ⟨pa, H0, F0, F, r, ok, po⟩ => ?_
  refine ⟨pa, H0, F0, F, r, ok, ?_⟩
  have po : Po (XW c pa H0 F0 F) ((ms r).bind _) _ := po
  cases hm : ms r with
  | no =>
    rw [hm] at po
    exact po.elim
  | ex ee r1 =>
    rw [hm] at po
    exact po
  | ok ds r1 =>
    rw [hm] at po
    intro F1 H1 vs k1 e1 dps
    rw [← hK, ← hM]
    exact callV (hnm r ds r1 hm) k1 dps e1 (po.mono (XW.mono e1) fun _ _ x => x)
theorem aNil_len : ∀ (r : En) (ds : List D) (r' : En), aNil r = .ok ds r' → ds.length = 0 := fun r ds r' h => by
  cases h
  rfl
theorem aCons_len {m : M D} {ms : M (List D)} {n : Nat} (h : ∀ (r : En) (ds : List D) (r' : En), ms r = .ok ds r' → ds.length = n) : ∀ (r : En) (ds : List D) (r' : En), aCons m ms r = .ok ds r' → ds.length = n + 1 := fun r ds r' e => by
  have e : (m r).bind (fun d => ms.bind fun ds => M.ret (d :: ds)) = .ok ds r' := e
  cases hm : m r with
  | no =>
    rw [hm] at e
    cases e
  | ex ee r1 =>
    rw [hm] at e
    cases e
  | ok d r1 =>
    rw [hm] at e
    have e : (ms r1).bind (fun ds => M.ret (d :: ds)) = .ok ds r' := e
    cases hs : ms r1 with
    | no =>
      rw [hs] at e
      cases e
    | ex ee r2 =>
      rw [hs] at e
      cases e
    | ok ds2 r2 =>
      rw [hs] at e
      cases e
      exact congrArg Nat.succ (h r1 ds2 _ hs)
/-- a name whose object is handed on -/
def tSlot (i : Nat) : TE := tVar i
/-- f(x, e, ..): x in slot i is the callee's to change -/
theorem callI {i : Nat} {F H : Hp} {st : L2.St} {r : En} {pa : Nat → Addr} {H0 F0 F00 : Hp} {v0 : V} {vs : List V} {ds : List D} {Q : VK} (hn : ds.length + 1 = n) (k1 : Ok c.K pa H0 F0 F H st r) (hv0 : st[i]? = some (some v0)) (dps : RpAll c.K F vs ds)
    (e0 : Ex F00 F) (q : Po (XW c pa H0 F0 F) (match getC i r with
      | some ct => (match f (.io ct :: ds.map .v) with
        | .ok rv (.io ct' :: _) => .ok rv (putC i ct' r)
        | .ex e (.io ct' :: _) => .ex e (putC i ct' r)
        | _ => .no)
      | none => .no) fun rv r' => ∀ F' H' v, Ok c.K pa H0 F0 F' H' st r' → Ex F00 F' → RvOk c.K H0 F' H' st r' v rv → Q v H') : spG c.K c.mg n f (v0 :: vs) H Q (fun cls d H' => c.W cls d st H') := by
  cases hg : getC i r with
  | none =>
    rw [hg] at q
    exact q.elim
  | some ct =>
    rw [hg] at q
    obtain ⟨s, hs, hso⟩ := getC_some hg
    obtain ⟨a, ha, nF, n0, hct⟩ := k1.ownd hs hso
    rw [hv0] at ha
    cases ha
    obtain ⟨oa, hoa⟩ := hct.there
    -- all but that object
    let Hk : Hp := fun b => if b = a then none else H b
    have hk_a : Hk a = none := if_pos rfl
    have hk_ne : ∀ b, b ≠ a → Hk b = H b := fun b hb => if_neg hb
    have exk : Ex Hk H := .of fun b o z => by
      by_cases hb : b = a
      · subst hb
        rw [hk_a] at z
        cases z
      · rw [hk_ne b hb] at z
        exact z
    have okA : Ok c.K (fun _ => a) Hk F F H ((V.ref a :: vs).map some) (.io ct :: ds.map Sl.v) := by
      have base := argsV (pa := fun _ => a) dps k1.fH k1.tb
      refine ⟨exk, Ex.refl F, k1.fH, fun _ _ h => h, ?_, fun j s' h n => ?_, k1.tb, fun j1 j2 s1 s2 c1 c2 b ne h1 h2 o1 o2 _ _ => ?_⟩
      · have := base.len
        simp only [List.map_cons, List.length_cons] at this ⊢
        omega
      · cases j with
        | zero =>
          cases h
          exact ⟨.ref a, rfl, rfl, nF, hk_a, hct⟩
        | succ j =>
          obtain ⟨v, g1, g2⟩ := base.sl j s' h n
          refine ⟨v, g1, ?_⟩
          have h : (ds.map Sl.v)[j]? = some s' := h
          rw [List.getElem?_map] at h
          cases hd : ds[j]? with
          | none =>
            rw [hd] at h
            cases h
          | some d =>
            rw [hd] at h
            cases h
            exact g2
      · have noV : ∀ (j : Nat) (s' : Sl) (c' : Ct), (Sl.io ct :: ds.map Sl.v)[j]? = some s' → s'.own = some c' → j = 0 := fun j s' c' h o => by
          cases j with
          | zero => rfl
          | succ j =>
            have h : (ds.map Sl.v)[j]? = some s' := h
            rw [List.getElem?_map] at h
            cases hd : ds[j]? with
            | none =>
              rw [hd] at h
              cases h
            | some d =>
              rw [hd] at h
              cases h
              cases o
        exact ne ((noV j1 s1 c1 h1 o1).trans (noV j2 s2 c2 h2 o2).symm)
    have ao : ArgsOk (.io ct :: ds.map Sl.v) := fun s' hs' => by
      rcases List.mem_cons.mp hs' with rfl | hs'
      · exact .inr ⟨ct, rfl⟩
      · exact argsOkV ds s' hs'
    refine ⟨by rw [List.length_cons, dpa_len dps]; exact hn, fun _ => a, Hk, F, _, okA, ao, ?_⟩
    -- the caller's state behind the call
    have grow : ∀ {F' H' : Hp} {ct' : Ct} {z : List Sl}, Ok c.K (fun _ => a) Hk F F' H' ((V.ref a :: vs).map some) (.io ct' :: z) → Ok c.K pa H0 F0 F' H' st (putC i ct' r) := fun {F' H' ct' z} k2 => by
      obtain ⟨w, g1, g2⟩ := k2.sl 0 (.io ct') rfl (fun z => nomatch z)
      obtain ⟨_, nF', _, hct'⟩ := g2
      have hb0 : ∀ b o, H0 b = some o → b ≠ a := fun b o z e => by
        rw [e, n0] at z
        cases z
      have h0 : Ex H0 Hk := ⟨fun b o z nt => by
        rw [hk_ne b (hb0 b o z)]
        exact k1.hH.at_ b o z nt, fun b ps z => by
        rw [hk_ne b (hb0 b _ z)]
        exact k1.hH.tb b ps z⟩
      have put : putC i ct' r = r.set i (s.put ct') := by
        unfold putC
        rw [hs]
      have hl : i < r.length := (List.getElem?_eq_some_iff.mp hs).1
      have po : (s.put ct').own = some ct' := by cases s <;> rfl
      have nb : ∀ (j : Nat) (s' : Sl) (c' : Ct) (b : Addr), i ≠ j → r[j]? = some s' → s'.own = some c' → st[j]? = some (some (.ref b)) → b ≠ a := fun j s' c' b e h o hb z => by
        rw [z] at hb
        exact k1.dis i j s s' ct c' a e hs h hso o hv0 hb
      have kept : ∀ (b : Addr) (c' : Ct), b ≠ a → F b = none → CtOk c.K F H b c' → F' b = none ∧ CtOk c.K F' H' b c' := fun b c' hb hf hc => by
        obtain ⟨ob, hob, hnt⟩ := hc.there'
        have z : Hk b = some ob := by
          rw [hk_ne b hb]
          exact hob
        exact ⟨none_of_not fun y => k2.sep b (ne_none z) y hf, hc.mono k2.fF ((k2.hH.at_ b ob z hnt).trans hob.symm)⟩
      rw [put]
      refine ⟨h0.trans k2.hH, k1.fF.trans k2.fF, k2.fH, fun b z1 z2 => k1.sep b z1 (k2.sep b (by
        cases hz : H0 b with
        | none => exact absurd hz z1
        | some o => exact (h0.some hz).elim fun _ q => ne_none q) z2), by rw [List.length_set, k1.len], fun j s' h n => ?_, k2.tb, fun j1 j2 s1 s2 c1 c2 b ne h1 h2 o1 o2 st1 st2 => ?_⟩
      · by_cases e : i = j
        · subst e
          rw [List.getElem?_set_self hl] at h
          cases h
          refine ⟨_, hv0, ?_⟩
          cases s with
          | unk => cases hso
          | v d => cases hso
          | o c1 => exact ⟨a, rfl, nF', n0, hct'⟩
          | io c1 =>
            obtain ⟨w, y1, y2⟩ := k1.sl i _ hs (fun z => nomatch z)
            obtain ⟨rfl, _⟩ := y2
            rw [hv0] at y1
            cases y1
            exact ⟨rfl, nF', n0, hct'⟩
        · rw [List.getElem?_set_ne e] at h
          obtain ⟨w, y1, y2⟩ := k1.sl j s' h n
          refine ⟨w, y1, ?_⟩
          cases s' with
          | unk => trivial
          | v d => exact dp_mono k2.fF y2
          | o c1 =>
            obtain ⟨b, rfl, z1, z2, z3⟩ := y2
            obtain ⟨w1, w2⟩ := kept b c1 (nb j _ c1 b e h rfl y1) z1 z3
            exact ⟨b, rfl, w1, z2, w2⟩
          | io c1 =>
            obtain ⟨rfl, z1, z2, z3⟩ := y2
            obtain ⟨w1, w2⟩ := kept (pa j) c1 (nb j _ c1 (pa j) e h rfl y1) z1 z3
            exact ⟨rfl, w1, z2, w2⟩
      · have get : ∀ (j : Nat) (s' : Sl) (c' : Ct), (r.set i (s.put ct'))[j]? = some s' → s'.own = some c' → ∃ s2 c3, r[j]? = some s2 ∧ s2.own = some c3 := fun j s' c' h o => by
          by_cases e : i = j
          · subst e
            exact ⟨s, ct, hs, hso⟩
          · rw [List.getElem?_set_ne e] at h
            exact ⟨s', c', h, o⟩
        obtain ⟨q1, c3, w1, w2⟩ := get j1 s1 c1 h1 o1
        obtain ⟨q2, c4, w3, w4⟩ := get j2 s2 c2 h2 o2
        exact k1.dis j1 j2 q1 q2 c3 c4 b ne w1 w3 w2 w4 st1 st2
    dsimp only at q
    cases hf : f (.io ct :: ds.map .v) with
    | no =>
      rw [hf] at q
      exact q.elim
    | ex ee z =>
      rw [hf] at q
      cases z with
      | nil => exact q.elim
      | cons z0 zr =>
        cases z0 with
        | io ct' => exact fun F' H' cls dd k2 xo => q F' H' st cls dd (grow k2) k2.fF xo
        | _ => exact q.elim
    | ok rv z =>
      rw [hf] at q
      cases z with
      | nil => exact q.elim
      | cons z0 zr =>
        cases z0 with
        | io ct' =>
          refine fun F' H' v k2 hv => q F' H' v (grow k2) (e0.trans k2.fF) ?_
          cases rv with
          | v d => exact hv
          | o c2 =>
            obtain ⟨b, rfl, z1, z2, z3, z4⟩ := hv
            have hb : b ≠ a := fun e => z4 0 _ ct' rfl rfl (by rw [e]; rfl)
            have hb2 : H b = none := by
              rw [hk_ne b hb] at z2
              exact z2
            refine ⟨b, rfl, z1, k1.hH.nn hb2, z3, fun j s' c' hj ho hst => ?_⟩
            by_cases e : i = j
            · subst e
              rw [hv0] at hst
              cases hst
              exact hb rfl
            · unfold putC at hj
              rw [hs] at hj
              have hj : (r.set i (s.put ct'))[j]? = some s' := hj
              rw [List.getElem?_set_ne e] at hj
              exact k1.nobody hb2 j s' c' hj ho hst
        | _ => exact q.elim
theorem o_callI (i : Nat) {y : Str} {py : Pos} (G : Fn X.prog X.w X.K X.mg X.base k x n f) (hr : Rm k X.A) (tk : Takes X c.W) (ha : PA X es (tA c ms)) (hnm : ∀ r ds r', ms r = .ok ds r' → ds.length + 1 = n) (hK : c.K = X.K := by rfl) (hM : c.mg = X.mg := by rfl) (hg : Gl X x := by rfl)
    (hN : X.N[i]? = some y := by rfl) (hv : Vis X.env.scope y := by first | exact Or.inl rfl | exact Or.inr (Or.inl rfl) | exact Or.inr (Or.inr rfl)) (hd : (y == ("__debug__" : Str)) = false := by decide) (hcd : (y == ("__classdict__" : Str)) = false := by decide)
    (hdb : (x == ("__debug__" : Str)) = false := by decide) (he : starEach (.Name y py :: es) X.env = (false, eval (.Name y py) X.env) :: starEach es X.env := by rfl) (hpl : (backTo pos (starEach es X.env)).any (·.1) = false := by rfl) :
    PE X (.Call (.Name x p) (.Name y py :: es) [] pos) (tO c (cCallI i f ms)) := by
  obtain ⟨a, fd, ps, g1, g2, g3, g4⟩ := G.ex
  refine pe_cq (pe_callG (Ew := fun st cls d H' => c.W cls d st H') g4 hr hg g1 g2 g3 (fun σ => passAt tk σ) (pa_cons (pe_var (i := i) hN hv hd hcd) ha he) hdb he hpl) fun st H Q ⟨pa, H0, F0, F, r, ok, po⟩ => ?_
  unfold cCallI at po
  cases hgc : getC i r with
  | none =>
    rw [hgc] at po
    exact po.elim
  | some ct0 =>
  rw [hgc] at po
  dsimp only at po
  obtain ⟨s0, hs0, hso0⟩ := getC_some hgc
  obtain ⟨a0, hv0, _⟩ := ok.ownd hs0 hso0
  refine ⟨_, hv0, pa, H0, F0, F, r, ok, ?_⟩
  cases hm : ms r with
  | no =>
    rw [hm] at po
    exact po.elim
  | ex ee r1 =>
    rw [hm] at po
    exact po
  | ok ds r1 =>
    rw [hm] at po
    intro F1 H1 vs k1 e1 dps
    rw [← hK, ← hM]
    show spG c.K c.mg n f ((V.ref a0 :: vs)) H1 Q _
    exact callI (hnm r ds r1 hm) k1 hv0 dps e1 (po.mono (XW.mono e1) fun _ _ x => x)
end
end Pu

namespace Pu
open PySem PySem.Spec PyProof.Rows L2
variable [TabT]

/-! ### tables of data -/
def keyD : D → Option Key
  | .int i => some (.inl i)
  | .str x => some (.inr x)
  | _ => none
def vK {κ : Type} [DecidableEq κ] (kvs : List (κ × D)) (k : κ) : Option D := (kvs.find? fun kv => decide (kv.1 = k)).map (·.2)
def pK {κ : Type} [DecidableEq κ] (kvs : List (κ × D)) (k : κ) (d : D) : List (κ × D) :=
  if (kvs.any fun kv => decide (kv.1 = k)) = true then kvs.map (fun kv => if kv.1 = k then (kv.1, d) else kv) else kvs ++ [(k, d)]
section
variable {K : PySem.W.Frag} {F : Hp} {κ : Type} [DecidableEq κ]
omit [DecidableEq κ] in
theorem kv_len : ∀ {ks : List (κ × V)} {kvs : List (κ × D)}, KvAll K F ks kvs → ks.length = kvs.length
  | _, _, .nil => rfl
  | _, _, .cons _ t => congrArg Nat.succ (kv_len t)
theorem kv_any (k : κ) : ∀ {ks : List (κ × V)} {kvs : List (κ × D)}, KvAll K F ks kvs → (ks.any fun kv => decide (kv.1 = k)) = (kvs.any fun kv => decide (kv.1 = k))
  | _, _, .nil => rfl
  | _, _, .cons _ t => by
    rw [List.any_cons, List.any_cons, kv_any k t]
theorem kv_get {k : κ} {d : D} : ∀ {ks : List (κ × V)} {kvs : List (κ × D)}, KvAll K F ks kvs → vK kvs k = some d → ∃ v, valV ks k = some v ∧ Rp K F v d
  | _, _, .nil, h => by cases h
  | _, _, .cons (k := k') (v := v') (d := d') (ks := ks) (kvs := kvs) r t, h => by
    by_cases e : k' = k
    · have h1 : vK ((k', d') :: kvs) k = some d' := by simp [vK, List.find?_cons, e]
      rw [h1] at h
      cases h
      exact ⟨v', valV_pos e, r⟩
    · have h1 : vK ((k', d') :: kvs) k = vK kvs k := by simp [vK, List.find?_cons, e]
      rw [h1] at h
      obtain ⟨v, g1, g2⟩ := kv_get t h
      exact ⟨v, (valV_neg e).trans g1, g2⟩
theorem kv_none {k : κ} : ∀ {ks : List (κ × V)} {kvs : List (κ × D)}, KvAll K F ks kvs → vK kvs k = none → valV ks k = none
  | _, _, .nil, _ => rfl
  | _, _, .cons (k := k') (v := v') (d := d') (ks := ks) (kvs := kvs) r t, h => by
    by_cases e : k' = k
    · have h1 : vK ((k', d') :: kvs) k = some d' := by simp [vK, List.find?_cons, e]
      rw [h1] at h
      cases h
    · have h1 : vK ((k', d') :: kvs) k = vK kvs k := by simp [vK, List.find?_cons, e]
      rw [h1] at h
      exact (valV_neg e).trans (kv_none t h)
theorem kv_map {k : κ} {v : V} {d : D} (r : Rp K F v d) : ∀ {ks : List (κ × V)} {kvs : List (κ × D)}, KvAll K F ks kvs → KvAll K F (ks.map fun kv => if kv.1 = k then (kv.1, v) else kv) (kvs.map fun kv => if kv.1 = k then (kv.1, d) else kv)
  | _, _, .nil => .nil
  | _, _, .cons (k := k') (v := v') (d := d') (ks := ks) (kvs := kvs) r' t => by
    rw [List.map_cons, List.map_cons]
    by_cases e : k' = k
    · rw [if_pos e, if_pos e]
      exact .cons r (kv_map r t)
    · rw [if_neg e, if_neg e]
      exact .cons r' (kv_map r t)
omit [DecidableEq κ] in
theorem kv_app : ∀ {ks ls : List (κ × V)} {kvs lvs : List (κ × D)}, KvAll K F ks kvs → KvAll K F ls lvs → KvAll K F (ks ++ ls) (kvs ++ lvs)
  | _, _, _, _, .nil, h => h
  | _, _, _, _, .cons r t, h => .cons r (kv_app t h)
theorem kv_put {k : κ} {v : V} {d : D} {ks : List (κ × V)} {kvs : List (κ × D)} (h : KvAll K F ks kvs) (r : Rp K F v d) : KvAll K F (putK ks k v) (pK kvs k d) := by
  unfold putK pK
  rw [kv_any k h]
  split
  · exact kv_map r h
  · exact kv_app h (.cons r .nil)
omit [DecidableEq κ] in
theorem kv_merge : ∀ {ls : List (Key × V)} {lvs : List (Key × D)}, KvAll K F ls lvs → ∀ {ks : List (Key × V)} {kvs : List (Key × D)}, KvAll K F ks kvs → KvAll K F (mergeK ks ls) (lvs.foldl (fun acc kv => pK acc kv.1 kv.2) kvs)
  | _, _, .nil, _, _, h => h
  | _, _, .cons r t, _, _, h => kv_merge t (kv_put h r)
theorem rp_key {v : V} {d : D} {k : Key} (h : Rp K F v d) (e : keyD d = some k) : v = kV k := by
  cases h with
  | int i =>
    cases e
    rfl
  | str x =>
    cases e
    rfl
  | _ => cases e
end

/-! ### lists and dicts of one's own -/
def sAppend (i : Nat) (m : M D) : M Fl := fun r => match getC i r with
  | some (.l _) => (m r).bind fun d r => match getC i r with
    | some (.l ds) => if ds.length < 16777216 then .ok .nx (putC i (.l (ds ++ [d])) r) else .no
    | _ => .no
  | _ => .no
/-- x.extend(a new list) -/
def sExtend (i : Nat) (m : M RV) : M Fl := fun r => match getC i r with
  | some (.l _) => (m r).bind fun rv r => match rv, getC i r with
    | .o (.l es), some (.l ds) => if ds.length + es.length ≤ 16777216 then .ok .nx (putC i (.l (ds ++ es)) r) else .no
    | _, _ => .no
  | _ => .no
section
variable {X : Cx} {c : Cc}
theorem s_append (i : Nat) {x : Str} {e : Expr} {m : M D} {px apos cpos pos : Pos} (h : PE X e (tM c m)) (hK : c.K = X.K := by rfl) (hN : X.N[i]? = some x := by rfl) (hv : Vis X.env.scope x := by first | exact Or.inl rfl | exact Or.inr (Or.inl rfl) | exact Or.inr (Or.inr rfl)) (hd : (x == ("__debug__" : Str)) = false := by decide)
    (hcd : (x == ("__classdict__" : Str)) = false := by decide) (hs1 : starEach [e] X.env = [(false, eval e X.env)] := by rfl)
    (hbase : attributeBase (.Name x px) "append" X.env (eval (.Name x px) X.env) = eval (.Name x px) X.env := by rfl)
    (hfew : ((backTo cpos (starEach [e] X.env)).all (fun x => !x.1) && (backToKw cpos (keywordEach [] X.env)).all (fun x => x.1.isSome) && decide (([e] : List Expr).length + ([] : List Keyword).length + (if ([] : List Keyword).isEmpty then 0 else 1) < 30)) = true := by rfl)
    (hline : (apos.endLine == cpos.line) = true := by rfl) (hplain : (backTo cpos (starEach [] X.env)).any (·.1) = false := by rfl) (hsw : swapsWith (.Call (.Attribute (.Name x px) "append" apos) [e] [] cpos) none pos.line X.env = pure false := by rfl) :
    PS X (.Expr (.Call (.Attribute (.Name x px) "append" apos) [e] [] cpos) pos) (sM c (sAppend i m)) :=
  ps_cq (ps_expr (pe_bm PySem.F.plainAttrs_list PySem.F.slot_list_append PySem.F.type_list_append mt_append (pe_var (i := i) hN hv hd hcd) (pa_cons h pa_nil hs1) hbase hfew hline hs1 hplain) hsw) fun Dd st H ⟨pa, H0, F0, F, r, ok, po⟩ => by
    unfold sAppend at po
    split at po
    · rename_i ds0 hg
      obtain ⟨s0, hs0, hso0⟩ := getC_some hg
      obtain ⟨a, hst, nF, n0, vs0, hH0, hr0⟩ := ok.ownd hs0 hso0
      refine ⟨_, hst, .inl ⟨rfl, vs0, .inl (.inl hH0)⟩, ?_⟩
      refine ⟨pa, H0, F0, F, r, ok, (Po.bind po).mono (fun _ _ x => x) fun d r1 q F1 H1 v k1 e1 dp => ?_⟩
      split at q
      · rename_i ds hg1
        split at q
        · rename_i hl
          obtain ⟨s1, hs1, hso1⟩ := getC_some hg1
          obtain ⟨a1, hst1, nF1, n01, vs, hH1, hr1⟩ := k1.ownd hs1 hso1
          rw [hst] at hst1
          cases hst1
          refine ⟨a, vs, v, rfl, rfl, hH1, by rw [dpa_len hr1, sizeLine_eq]; exact hl, ?_⟩
          exact q F1 _ st (k1.putC hg1 hst ⟨_, upd_same, dpa_app hr1 (.cons dp .nil)⟩) e1
        · exact q.elim
      · exact q.elim
    · exact po.elim
theorem s_extend (i : Nat) {x : Str} {e : Expr} {m : M RV} {px apos cpos pos : Pos} (h : PE X e (tO c m)) (hK : c.K = X.K := by rfl) (hN : X.N[i]? = some x := by rfl) (hv : Vis X.env.scope x := by first | exact Or.inl rfl | exact Or.inr (Or.inl rfl) | exact Or.inr (Or.inr rfl)) (hd : (x == ("__debug__" : Str)) = false := by decide)
    (hcd : (x == ("__classdict__" : Str)) = false := by decide) (hs1 : starEach [e] X.env = [(false, eval e X.env)] := by rfl)
    (hbase : attributeBase (.Name x px) "extend" X.env (eval (.Name x px) X.env) = eval (.Name x px) X.env := by rfl)
    (hfew : ((backTo cpos (starEach [e] X.env)).all (fun x => !x.1) && (backToKw cpos (keywordEach [] X.env)).all (fun x => x.1.isSome) && decide (([e] : List Expr).length + ([] : List Keyword).length + (if ([] : List Keyword).isEmpty then 0 else 1) < 30)) = true := by rfl)
    (hline : (apos.endLine == cpos.line) = true := by rfl) (hplain : (backTo cpos (starEach [] X.env)).any (·.1) = false := by rfl) (hsw : swapsWith (.Call (.Attribute (.Name x px) "extend" apos) [e] [] cpos) none pos.line X.env = pure false := by rfl) :
    PS X (.Expr (.Call (.Attribute (.Name x px) "extend" apos) [e] [] cpos) pos) (sM c (sExtend i m)) :=
  ps_cq (ps_expr (pe_bm PySem.F.plainAttrs_list PySem.F.slot_list_extend PySem.F.type_list_extend mt_extend (pe_var (i := i) hN hv hd hcd) (pa_cons h pa_nil hs1) hbase hfew hline hs1 hplain) hsw) fun Dd st H ⟨pa, H0, F0, F, r, ok, po⟩ => by
    unfold sExtend at po
    split at po
    · rename_i ds0 hg
      obtain ⟨s0, hs0, hso0⟩ := getC_some hg
      obtain ⟨a, hst, nF, n0, vs0, hH0, hr0⟩ := ok.ownd hs0 hso0
      refine ⟨_, hst, .inl ⟨rfl, vs0, .inl (.inl hH0)⟩, ?_⟩
      refine ⟨pa, H0, F0, F, r, ok, (Po.bind po).mono (fun _ _ x => x) fun d r1 q F1 H1 v k1 e1 dp => ?_⟩
      split at q
      · rename_i es ds hg1
        split at q
        · rename_i hl
          obtain ⟨s1, hs1, hso1⟩ := getC_some hg1
          obtain ⟨a1, hst1, nF1, n01, vs, hH1, hr1⟩ := k1.ownd hs1 hso1
          rw [hst] at hst1
          cases hst1
          obtain ⟨b, rfl, z1, z2, ⟨ws, z3, z4⟩, z5⟩ := dp
          refine ⟨a, b, vs, ws, rfl, rfl, hH1, z3, by rw [dpa_len hr1, dpa_len z4, sizeLine_eq]; exact hl, ?_⟩
          exact q F1 _ st (k1.putC hg1 hst ⟨_, upd_same, dpa_app hr1 z4⟩) e1
        · exact q.elim
      · exact q.elim
    · exact po.elim

/-- a key that is a tuple of ints and texts -/
def keysD : List D → Option (List Key)
  | [] => some []
  | d :: ds => (keyD d).bind fun k => (keysD ds).map (k :: ·)
def tkeyD : D → Option (List Key)
  | .tuple ds => keysD ds
  | _ => none
theorem rp_keysD {K : PySem.W.Frag} {F : Hp} : ∀ {vs : List V} {ds : List D} {ks : List Key}, RpAll K F vs ds → keysD ds = some ks → vs = ks.map kV
  | _, _, _, .nil, h => by
    cases h
    rfl
  | _, _, _, .cons (d := d) (ds := ds) r t, h => by
    have h : (keyD d).bind (fun k => (keysD ds).map (k :: ·)) = some _ := h
    cases hk : keyD d with
    | none =>
      rw [hk] at h
      cases h
    | some k =>
      rw [hk] at h
      cases hks : keysD ds with
      | none =>
        rw [hks] at h
        cases h
      | some ks2 =>
        rw [hks] at h
        cases h
        rw [rp_keysD t hks, rp_key r hk]
        rfl
theorem rp_tkey {K : PySem.W.Frag} {F : Hp} {v : V} {d : D} {ks : List Key} (h : Rp K F v d) (hk : tkeyD d = some ks) : ∃ b, v = .ref b ∧ F b = some (.tup (ks.map kV)) := by
  cases h with
  | @tup a xs ds g1 g2 =>
    refine ⟨a, rfl, ?_⟩
    rw [← rp_keysD g2 hk]
    exact g1
  | _ => cases hk
/-! o[k] = e -/
def sPut (i : Nat) (mk m : M D) : M Fl := m.bind fun d => mk.bind fun k r => match getC i r with
  | some (.l ds) => (match k with
    | .int n => (match ixN ds.length n with
      | some j => .ok .nx (putC i (.l (ds.set j d)) r)
      | none => .no)
    | _ => .no)
  | some (.d kvs) => (match keyD k with
    | some y => if kvs.length < 16777216 then .ok .nx (putC i (.d (pK kvs y d)) r) else .no
    | none => .no)
  | some (.t _) => .no
  | none => .no
theorem pset_or {t t' : TSet} (h : PSet X t) (h' : PSet X t') : PSet X (fun o i v H Q => t o i v H Q ∨ t' o i v H Q) :=
  fun pins s st H o i v ov iv u Q I ro ri rv q => q.elim (h pins s st H o i v ov iv u Q I ro ri rv) (h' pins s st H o i v ov iv u Q I ro ri rv)
/-- the slot is owned ahead of the key -/
def sPut' (i : Nat) (mk m : M D) : M Fl := m.bind fun d r => match getC i r with
  | none => .no
  | some _ => (mk r).bind fun k r => match getC i r with
    | some (.l ds) => (match k with
      | .int n => (match ixN ds.length n with
        | some j => .ok .nx (putC i (.l (ds.set j d)) r)
        | none => .no)
      | _ => .no)
    | some (.d kvs) => (match keyD k with
      | some y => if kvs.length < 16777216 then .ok .nx (putC i (.d (pK kvs y d)) r) else .no
      | none => .no)
    | some (.t kvs) => (match tkeyD k with
      | some y => if kvs.length < 16777216 then .ok .nx (putC i (.t (pK kvs y d)) r) else .no
      | none => .no)
    | none => .no
theorem s_put (i : Nat) {x : Str} {ek e : Expr} {mk m : M D} {px spos pos : Pos} (hk : PE X ek (tM c mk)) (h : PE X e (tM c m)) (hu : X.A.units + 1 < cLine) (hN : X.N[i]? = some x := by rfl) (hv : Vis X.env.scope x := by first | exact Or.inl rfl | exact Or.inr (Or.inl rfl) | exact Or.inr (Or.inr rfl)) (hd : (x == ("__debug__" : Str)) = false := by decide)
    (hcd : (x == ("__classdict__" : Str)) = false := by decide) (ha : ∀ v, assign (.Subscript (.Name x px) ek spos) X.env v = (do
      let ov ← holding [v] (eval (.Name x px) X.env)
      let iv ← holding [v, ov] (eval ek X.env)
      standAt spos
      holding [v, ov, iv] (setItem ov iv v)
      release [v, ov, iv] []) := by intro _; rfl)
    (hs : swapsWithSole [.Subscript (.Name x px) ek spos] e pos.line X.env = pure false := by rfl) (hw : swappedStores [.Subscript (.Name x px) ek spos] e X.env = pure none := by rfl)
    (h1 : (assignEach [.Subscript (.Name x px) ek spos] X.env).map (·.2) = [assign (.Subscript (.Name x px) ek spos) X.env] := by rfl) :
    PS X (.Assign [.Subscript (.Name x px) ek spos] e pos) (sM c (sPut' i mk m)) :=
  ps_cq (ps_asg h (pg_sub (pe_var (i := i) hN hv hd hcd) hk (pset_or set_list (set_dict hu)) ha) hs hw h1) fun Dd st H ⟨pa, H0, F0, F, r, ok, po⟩ => seqM ok po fun d r1 F1 H1 v k1 e1 dp q => by
    split at q
    · exact q.elim
    · rename_i ct0 hg
      obtain ⟨s0, hs0, hso0⟩ := getC_some hg
      obtain ⟨a, hst, _⟩ := k1.ownd hs0 hso0
      refine ⟨_, hst, pa, H0, F0, F1, r1, k1, (Po.bind q).mono (fun _ _ x => x) fun kd r2 q F2 H2 kv k2 e2 dk => ?_⟩
      split at q
      · rename_i ds hg2
        obtain ⟨s1, hs1, hso1⟩ := getC_some hg2
        obtain ⟨a1, hst1, nF1, n01, vs, hH1, hr1⟩ := k2.ownd hs1 hso1
        rw [hst] at hst1
        cases hst1
        split at q
        · rename_i n
          split at q
          · rename_i j hj
            cases rp_int dk
            refine .inl ⟨a, vs, n, j, rfl, rfl, hH1, by rw [dpa_len hr1]; exact hj, ?_⟩
            exact q F2 _ st (k2.putC hg2 hst ⟨_, upd_same, dpa_set (dp_mono e2 dp) j hr1⟩) (e1.trans e2)
          · exact q.elim
        · exact q.elim
      · rename_i kvs hg2
        obtain ⟨s1, hs1, hso1⟩ := getC_some hg2
        obtain ⟨a1, hst1, nF1, n01, ks, hH1, hr1⟩ := k2.ownd hs1 hso1
        rw [hst] at hst1
        cases hst1
        split at q
        · rename_i y hy
          split at q
          · rename_i hl
            cases rp_key dk hy
            refine .inr ⟨a, _, rfl, DPut.k (k := y) hH1 (by rw [kv_len hr1, sizeLine_eq]; exact hl), ?_⟩
            exact q F2 _ st (k2.putC hg2 hst ⟨_, upd_same, kv_put hr1 (dp_mono e2 dp)⟩) (e1.trans e2)
          · exact q.elim
        · exact q.elim
      · rename_i kvs hg2
        obtain ⟨s1, hs1, hso1⟩ := getC_some hg2
        obtain ⟨a1, hst1, nF1, n01, ks, hH1, hr1⟩ := k2.ownd hs1 hso1
        rw [hst] at hst1
        cases hst1
        split at q
        · rename_i y hy
          split at q
          · rename_i hl
            obtain ⟨b, rfl, hb⟩ := rp_tkey dk hy
            refine .inr ⟨a, _, rfl, DPut.t (k := y) hH1 (k2.fH.at_ _ _ hb fun ps z => nomatch z) (by rw [kv_len hr1, sizeLine_eq]; exact hl), ?_⟩
            exact q F2 _ st (k2.putC hg2 hst ⟨_, upd_same, kv_put hr1 (dp_mono e2 dp)⟩) (e1.trans e2)
          · exact q.elim
        · exact q.elim
      · exact q.elim

/-! x[k], len(x), where x may be one's own -/
def ixL (ds : List D) : D → Option D
  | .int n => atI ds n
  | _ => none
def ixD : D → D → Option D
  | .list ds, k => ixL ds k
  | .tuple ds, k => ixL ds k
  | .str z, .int n => if z.length ≤ 16777216 then (atI z.cps.toList n).map fun ch => .str ⟨#[ch]⟩ else none
  | _, _ => none
theorem atI_rp {K : PySem.W.Frag} {F : Hp} {vs : List V} {ds : List D} {n : Int} {d : D} (hr : RpAll K F vs ds) (h : atI ds n = some d) : ∃ v, atI vs n = some v ∧ Rp K F v d := by
  unfold atI at h ⊢
  rw [dpa_len hr]
  cases hj : ixN ds.length n with
  | none =>
    rw [hj] at h
    cases h
  | some j =>
    rw [hj] at h
    exact dpa_get hr h
theorem opr_cq {f : Value → Value → Sem Value} {r r' : R2} (h : OpR X f r) (i : ∀ x y H Q, r' x y H Q → r x y H Q) : OpR X f r' := fun pins s st H x y v u Q I rx ry q => h pins s st H x y v u Q I rx ry (i x y H Q q)
theorem unr_cq {f : Value → Sem Value} {r r' : V → Hp → VK → Prop} (h : UnR X f r) (i : ∀ x H Q, r' x H Q → r x H Q) : UnR X f r' := fun pins s st H x v Q I rx q => h pins s st H x v Q I rx (i x H Q q)
theorem ixr_cq {r r' : R2} (h : IxR X r) (i : ∀ x y H Q, r' x y H Q → r x y H Q) : IxR X r' := fun va sl pins s st H x y v u Q I rx ry q => h va sl pins s st H x y v u Q I rx ry (i x y H Q q)
theorem callr_cq {f : Value} {r r' : List V → Hp → VK → Prop} (h : CallR X f r) (i : ∀ x H Q, r' x H Q → r x H Q) : CallR X f r' := fun pins s st H x v Q I rx q => h pins s st H x v Q I rx (i x H Q q)
theorem ix_data (hK : c.K = X.K := by rfl) : IxR X (rD2 c.K ixD) := ixr_cq ix_seq fun x y H Q ⟨F, d, e, z, fh, dx, dy, hz, q⟩ => by
  cases dx with
  | @lst a vs ds h1 h2 =>
    cases dy with
    | int n =>
      obtain ⟨v, g1, g2⟩ := atI_rp h2 hz
      exact .inl ⟨a, vs, n, v, rfl, rfl, by rw [← hK]; exact fh.l h1, g1, q v F H (.inl ⟨rfl, rfl⟩) g2⟩
    | _ => cases hz
  | @tup a vs ds h1 h2 =>
    cases dy with
    | int n =>
      obtain ⟨v, g1, g2⟩ := atI_rp h2 hz
      exact .inr (.inl ⟨a, vs, n, v, rfl, rfl, by rw [← hK]; exact fh.t h1, g1, q v F H (.inl ⟨rfl, rfl⟩) g2⟩)
    | _ => cases hz
  | str w =>
    cases dy with
    | int n =>
      have hz : (if w.length ≤ 16777216 then (atI w.cps.toList n).map fun ch => PyData.str ⟨#[ch]⟩ else none) = some z := hz
      by_cases hl : w.length ≤ 16777216
      · rw [if_pos hl] at hz
        cases ha : atI w.cps.toList n with
        | none =>
          rw [ha] at hz
          cases hz
        | some ch =>
          rw [ha] at hz
          cases hz
          exact .inr (.inr ⟨w, n, ch, rfl, rfl, by rw [sizeLine_eq]; exact hl, ha, q _ F H (.inl ⟨rfl, rfl⟩) (.str _)⟩)
      · rw [if_neg hl] at hz
        cases hz
    | _ => cases hz
  | _ => cases hz
theorem pe_or' {e : Expr} {t t' : TE} (h : PE X e t) (h' : PE X e t') : PE X e (fun st H Q => t st H Q ∨ t' st H Q) := ⟨fun pins s st H Q I q => q.elim (h.run pins s st H Q I) (h'.run pins s st H Q I)⟩
/-- x[k], x a list or a dict of one's own, or data -/
def eIxS (i : Nat) (mk : M D) : M D := fun r => match getC i r with
  | some (.l _) => (mk r).bind fun k r => match getC i r with
    | some (.l ds) => M.opt (ixL ds k) r
    | _ => .no
  | some (.d _) => (mk r).bind fun k r => match getC i r with
    | some (.d kvs) => M.opt ((keyD k).bind (vK kvs)) r
    | _ => .no
  | some (.t _) => .no
  | none => bin ixD (getS i) mk r
theorem e_ixS (i : Nat) {x : Str} {ek : Expr} {mk : M D} {px pos : Pos} (hk : PE X ek (tM c mk)) (hu : X.A.units + 1 < cLine) (hK : c.K = X.K := by rfl) (hs : PlainIx ek := by exact fun _ _ => rfl) (hN : X.N[i]? = some x := by rfl) (hv : Vis X.env.scope x := by first | exact Or.inl rfl | exact Or.inr (Or.inl rfl) | exact Or.inr (Or.inr rfl)) (hd : (x == ("__debug__" : Str)) = false := by decide)
    (hcd : (x == ("__classdict__" : Str)) = false := by decide) : PE X (.Subscript (.Name x px) ek pos) (tM c (eIxS i mk)) :=
  pe_cq (pe_or' (pe_or' (pe_ix ix_list (pe_var (i := i) hN hv hd hcd) hk hs) (pe_dget hu (pe_var (i := i) hN hv hd hcd) hk hs)) (e_ix (c := c) (ix_data hK) (e_var i hN hv hd hcd) hk hs)) fun st H Q ⟨pa, H0, F0, F, r, ok, po⟩ => by
    unfold eIxS at po
    split at po
    · rename_i ds0 hg
      obtain ⟨s0, hs0, hso0⟩ := getC_some hg
      obtain ⟨a, hst, _⟩ := ok.ownd hs0 hso0
      refine .inl (.inl ⟨_, hst, pa, H0, F0, F, r, ok, (Po.bind po).mono (fun _ _ x => x) fun kd r1 q F1 H1 v k1 e1 dp => ?_⟩)
      split at q
      · rename_i ds hg1
        obtain ⟨s1, hs1, hso1⟩ := getC_some hg1
        obtain ⟨a1, hst1, nF1, n01, vs, hH1, hr1⟩ := k1.ownd hs1 hso1
        rw [hst] at hst1
        cases hst1
        obtain ⟨z, hz, q2⟩ := opt_po q
        cases dp with
        | int n =>
          obtain ⟨w, g1, g2⟩ := atI_rp hr1 hz
          exact ⟨a, vs, n, w, rfl, rfl, .inl (.inl hH1), g1, q2 F1 H1 w k1 e1 g2⟩
        | _ => cases hz
      · exact q.elim
    · rename_i kv0 hg
      obtain ⟨s0, hs0, hso0⟩ := getC_some hg
      obtain ⟨a, hst, _⟩ := ok.ownd hs0 hso0
      refine .inl (.inr ⟨_, hst, pa, H0, F0, F, r, ok, (Po.bind po).mono (fun _ _ x => x) fun kd r1 q F1 H1 v k1 e1 dp => ?_⟩)
      split at q
      · rename_i kvs hg1
        obtain ⟨s1, hs1, hso1⟩ := getC_some hg1
        obtain ⟨a1, hst1, nF1, n01, ks, hH1, hr1⟩ := k1.ownd hs1 hso1
        rw [hst] at hst1
        cases hst1
        obtain ⟨z, hz, q⟩ := opt_po q
        cases hy : keyD kd with
        | none =>
          rw [hy] at hz
          cases hz
        | some y =>
          rw [hy] at hz
          obtain ⟨w, g1, g2⟩ := kv_get hr1 hz
          cases rp_key dp hy
          refine ⟨a, w, rfl, ?_, q F1 H1 w k1 e1 g2⟩
          rw [← g1]
          exact DGet.k hH1
      · exact q.elim
    · exact po.elim
    · exact .inr ⟨pa, H0, F0, F, r, ok, po⟩
/-- len(x) -/
def lenD : D → Option D
  | .list ds => some (.int (ds.length : Nat))
  | .tuple ds => some (.int (ds.length : Nat))
  | .str z => if z.length ≤ 16777216 then some (.int (z.length : Nat)) else none
  | _ => none
def one (g : D → Option D) : List D → Option D
  | [d] => g d
  | _ => none
theorem one_some {g : D → Option D} {ds : List D} {z : D} (h : one g ds = some z) : ∃ d, ds = [d] ∧ g d = some z := by
  unfold one at h
  split at h
  · exact ⟨_, rfl, h⟩
  · cases h
theorem len_data (hK : c.K = X.K := by rfl) : CallR X (.builtin "len") (rDA c.K (one lenD)) := callr_cq call_len fun xs H Q ⟨F, ds, z, fh, dps, hz, q⟩ => by
  obtain ⟨d, rfl, hz⟩ := one_some hz
  obtain ⟨v, rfl, dp⟩ := rpa_one dps
  cases dp with
  | @lst a vs ds h1 h2 =>
    cases hz
    refine ⟨_, ds.length, rfl, .inl ⟨vs, by rw [← hK]; exact fh.l h1, (dpa_len h2).symm⟩, q _ F H (.inl ⟨rfl, rfl⟩) (.int _)⟩
  | @tup a vs ds h1 h2 =>
    cases hz
    refine ⟨_, ds.length, rfl, .inr ⟨vs, by rw [← hK]; exact fh.t h1, (dpa_len h2).symm⟩, q _ F H (.inl ⟨rfl, rfl⟩) (.int _)⟩
  | str w =>
    have hz : (if w.length ≤ 16777216 then some (PyData.int (w.length : Nat)) else none) = some z := hz
    by_cases hl : w.length ≤ 16777216
    · rw [if_pos hl] at hz
      cases hz
      exact ⟨_, w.length, rfl, ⟨by rw [sizeLine_eq]; exact hl, rfl⟩, q _ F H (.inl ⟨rfl, rfl⟩) (.int _)⟩
    · rw [if_neg hl] at hz
      cases hz
  | _ => cases hz
def eLenS (i : Nat) : M D := fun r => match getC i r with
  | some (.l ds) => .ok (.int (ds.length : Nat)) r
  | some (.d kvs) => .ok (.int (kvs.length : Nat)) r
  | some (.t _) => .no
  | none => nry (one lenD) (aCons (getS i) aNil) r
theorem e_lenS (i : Nat) {x : Str} {p px pos : Pos} (hm : X.mg "len" = none) (hK : c.K = X.K := by rfl) (hg : Gl X "len" := by rfl) (hs1 : starEach [.Name x px] X.env = [(false, eval (.Name x px) X.env)] := by rfl) (hpl : (backTo pos (starEach [] X.env)).any (·.1) = false := by rfl)
    (hN : X.N[i]? = some x := by rfl) (hv : Vis X.env.scope x := by first | exact Or.inl rfl | exact Or.inr (Or.inl rfl) | exact Or.inr (Or.inr rfl)) (hd : (x == ("__debug__" : Str)) = false := by decide)
    (hcd : (x == ("__classdict__" : Str)) = false := by decide) : PE X (.Call (.Name "len" p) [.Name x px] [] pos) (tM c (eLenS i)) :=
  pe_cq (pe_or' (pe_or' (pe_callB call_len hg hm PySem.boot_len (pa_cons (pe_var (i := i) hN hv hd hcd) pa_nil hs1) (by decide) (by decide) hs1 hpl) (pe_callB call_lenD hg hm PySem.boot_len (pa_cons (pe_var (i := i) hN hv hd hcd) pa_nil hs1) (by decide) (by decide) hs1 hpl))
    (e_callB (c := c) (len_data hK) hm (a_cons (e_var i hN hv hd hcd) a_nil hs1) hg PySem.boot_len (by decide) (by decide) hs1 hpl)) fun st H Q ⟨pa, H0, F0, F, r, ok, po⟩ => by
    unfold eLenS at po
    split at po
    · rename_i ds hg
      obtain ⟨s0, hs0, hso0⟩ := getC_some hg
      obtain ⟨a, hst, nF, n0, vs, hH, hr⟩ := ok.ownd hs0 hso0
      exact .inl (.inl ⟨_, hst, _, ds.length, rfl, .inl ⟨vs, .inl (.inl hH), (dpa_len hr).symm⟩, po F H _ ok (Ex.refl F) (.int _)⟩)
    · rename_i kvs hg
      obtain ⟨s0, hs0, hso0⟩ := getC_some hg
      obtain ⟨a, hst, nF, n0, ks, hH, hr⟩ := ok.ownd hs0 hso0
      refine .inl (.inr ⟨_, hst, a, ks, rfl, hH, ?_⟩)
      rw [kv_len hr]
      exact po F H _ ok (Ex.refl F) (.int _)
    · exact po.elim
    · exact .inr ⟨pa, H0, F0, F, r, ok, po⟩

/-! {k: v, ..} -/
def prs : List (M D × M D) → M (List (Key × D))
  | [] => M.ret []
  | (mk, mv) :: l => mk.bind fun k => mv.bind fun d => (prs l).bind fun kvs => M.opt ((keyD k).map fun y => (y, d) :: kvs)
def oDict (l : List (M D × M D)) : M RV := (prs l).bind fun kvs => if kvs.length ≤ 15 then M.ret (.o (.d (kvs.foldl (fun acc kv => pK acc kv.1 kv.2) []))) else M.no
theorem prs_ok : ∀ (l : List (M D × M D)) {α : Type} {pa : Nat → Addr} {H0 F0 F H : Hp} {st : L2.St} {r : En} {f : List (Key × D) → M α} {k : α → En → Prop} {Q : List (V × V) → Hp → Prop}, Ok c.K pa H0 F0 F H st r → Po (XW c pa H0 F0 F) ((prs l).bind f r) k →
    (∀ kvs r1 F1 H1 ks, Ok c.K pa H0 F0 F1 H1 st r1 → Ex F F1 → KvAll c.K F1 ks kvs → Po (XW c pa H0 F0 F1) (f kvs r1) k → Q (ks.map fun kv => (kV kv.1, kv.2)) H1) → tPairs (l.map fun p => (tM c p.1, tM c p.2)) st H Q
  | [], _, pa, H0, F0, F, H, st, r, f, k, Q, ok, po, h => h [] r F H [] ok (Ex.refl F) .nil po
  | (mk, mv) :: l, _, pa, H0, F0, F, H, st, r, f, k, Q, ok, po, h => by
    have po1 : Po (XW c pa H0 F0 F) (mk.bind (fun kd => mv.bind fun d => (prs l).bind fun kvs => (M.opt ((keyD kd).map fun y => (y, d) :: kvs)).bind f) r) k := by
      have e : ((prs ((mk, mv) :: l)).bind f r) = (mk.bind (fun kd => mv.bind fun d => (prs l).bind fun kvs => (M.opt ((keyD kd).map fun y => (y, d) :: kvs)).bind f) r) := by
        show ((mk r).bind _).bind f = (mk r).bind _
        cases mk r with
        | no => rfl
        | ex e r1 => rfl
        | ok kd r1 =>
          show ((mv r1).bind _).bind f = (mv r1).bind _
          cases mv r1 with
          | no => rfl
          | ex e r2 => rfl
          | ok d r2 =>
            show ((prs l r2).bind _).bind f = (prs l r2).bind _
            cases prs l r2 <;> rfl
      rw [e] at po
      exact po
    show tM c mk st H _
    refine seqM ok po1 fun kd r1 F1 H1 v k1 e1 dk q => ?_
    show tM c mv st H1 _
    refine seqM k1 q fun d r2 F2 H2 w k2 e2 dv q => ?_
    refine prs_ok l k2 q fun kvs r3 F3 H3 ks k3 e3 hkv q => ?_
    have q : Po (XW c pa H0 F0 F3) ((M.opt ((keyD kd).map fun y => (y, d) :: kvs) r3).bind f) k := q
    cases hy : keyD kd with
    | none =>
      rw [hy] at q
      exact q.elim
    | some y =>
      rw [hy] at q
      have z := h ((y, d) :: kvs) r3 F3 H3 ((y, w) :: ks) k3 ((e1.trans e2).trans e3) (.cons (dp_mono e3 dv) hkv) q
      cases rp_key dk hy
      exact z
theorem o_dict {pos : Pos} {keys : List (Option Expr)} {values : List Expr} {l : List (M D × M D)} (h : PPs X pos keys values (l.map fun p => (tM c p.1, tM c p.2))) (hall : keys.all (·.isSome) = true := by rfl) (hl : keys.length = values.length := by rfl) (h0 : keys ≠ [] := by exact fun z => by cases z) (h15 : keys.length ≤ 15 := by decide) :
    PE X (.Dict keys values pos) (tO c (oDict l)) :=
  pe_cq (pe_disp h hall hl h0 h15) fun st H Q ⟨pa, H0, F0, F, r, ok, po⟩ p np => by
    have n0 := ok.hH.nn np
    have nF := ok.fH.nn np
    have nF0 := ok.fF.nn nF
    have kl := ok.lay (o := .dK []) np
    have kf : Ok c.K pa (upd H0 p (.dK [])) F0 F (upd H p (.dK [])) st r := kl.frame ⟨fun a o z nt => by
        by_cases ha : a = p
        · subst ha
          rw [upd_same] at z ⊢
          exact z
        · rw [upd_ne ha] at z ⊢
          exact ok.hH.at_ a o z nt, fun a ps z => by
        by_cases ha : a = p
        · subst ha
          rw [upd_same] at z
          cases z
        · rw [upd_ne ha] at z ⊢
          exact ok.hH.tb a ps z⟩ (fun a z1 z2 => by
        by_cases ha : a = p
        · subst ha
          exact absurd nF z2
        · rw [upd_ne ha] at z1
          exact ok.sep a z1 z2) (fun j s ct a hj hct hst => by
        have na : a ≠ p := fun z => ok.nobody np j s ct hj hct (by rw [hst, z])
        rw [upd_ne na]
        obtain ⟨a', g1, g2, g3, g4⟩ := ok.ownd hj hct
        rw [hst] at g1
        cases g1
        exact g3)
    have un : ∀ {F3 H3 : Hp} {st3 : L2.St} {r3 : En}, Ok c.K pa (upd H0 p (.dK [])) F0 F3 H3 st3 r3 → Ok c.K pa H0 F0 F3 H3 st3 r3 ∧ H3 p = some (.dK []) ∧ F3 p = none ∧ (∀ (i : Nat) (s : Sl) (ct : Ct), r3[i]? = some s → s.own = some ct → st3[i]? ≠ some (some (.ref p))) := fun {F3 H3 st3 r3} k3 => by
      have h0 : Ex H0 (upd H0 p (.dK [])) := Ex.new n0
      refine ⟨k3.frame (h0.trans k3.hH) (fun a z1 z2 => k3.sep a (by
        cases hz : H0 a with
        | none => exact absurd hz z1
        | some o => exact (h0.some hz).elim fun _ q => ne_none q) z2) (fun j s ct a hj hct hst => ?_), k3.hH.at_ p _ upd_same (fun ps z => nomatch z), none_of_not fun z => k3.sep p (ne_none upd_same) z nF0, fun j s ct hj hct hst => ?_⟩
      · obtain ⟨a', g1, g2, g3, g4⟩ := k3.ownd hj hct
        rw [hst] at g1
        cases g1
        exact h0.nn g3
      · obtain ⟨a', g1, g2, g3, g4⟩ := k3.ownd hj hct
        rw [hst] at g1
        cases g1
        rw [upd_same] at g3
        cases g3
    refine prs_ok l (k := fun d r' => ∀ F' H' v, Ok c.K pa H0 F0 F' H' st r' → Ex F F' → RvOk c.K H0 F' H' st r' v d → Q v H') kf (po.mono (fun e r' z F' H' st' cls dd k' => ?_) fun _ _ x => x) fun kvs r1 F1 H1 ks k1 e1 hkv q => ?_
    · exact z F' H' st' cls dd (un k').1
    · split at q
      · rename_i hlen
        obtain ⟨k2, hp, nF1, nO⟩ := un k1
        refine ⟨hp, ks, rfl, by rw [kv_len hkv]; exact hlen, ?_⟩
        exact q F1 _ _ (k2.aside n0 nF1 nO (tabs_upd k2.tb hp (fun ps z => nomatch z) (fun c q z => by unfold LamX.CodeO at z; cases z))) e1 ⟨p, rfl, nF1, n0, ⟨_, upd_same, kv_merge hkv .nil⟩, nO⟩
      · exact q.elim
end
end Pu

namespace Pu
open PySem PySem.Spec PyProof.Rows L2
variable [TabT]
/-! ### what the operators tell of data -/
def addD : D → D → Option D
  | .int i, .int j => some (.int (i + j))
  | .str a, .str b => szC (a.length + b.length) (.str (a ++ b))
  | .tuple xs, .tuple ys => szC (xs.length + ys.length) (.tuple (xs ++ ys))
  | .list xs, .list ys => szC (xs.length + ys.length) (.list (xs ++ ys))
  | _, _ => none
def subD : D → D → Option D
  | .int i, .int j => some (.int (i - j))
  | _, _ => none
/-- one factor of at most 64 bits, or both together below a hundred million -/
def mulOk (i j : Int) : Prop := i.natAbs < 2 ^ 64 ∨ j.natAbs < 2 ^ 64 ∨ i.natAbs.log2 + j.natAbs.log2 < 100000000
instance (i j : Int) : Decidable (mulOk i j) := by unfold mulOk; exact inferInstance
noncomputable def mulD : D → D → Option D
  | .int i, .int j => cI (mulOk i j) (some (.int (i * j))) none
  | .list xs, .int k => cI ((-(2 ^ 63) ≤ k ∧ k < 2 ^ 63) ∧ xs.length * k.toNat ≤ 16777216) (some (.list (List.replicate k.toNat xs).flatten)) none
  | .tuple xs, .int k => cI (-1000 ≤ k ∧ k ≤ 1000 ∧ xs.length ≤ 1000) (some (.tuple (List.replicate k.toNat xs).flatten)) none
  | _, _ => none
noncomputable def fdivD : D → D → Option D
  | .int i, .int j => cI (j ≠ 0 ∧ j.natAbs.log2 < 9000) (some (.int (i.fdiv j))) none
  | _, _ => none
noncomputable def modD : D → D → Option D
  | .int i, .int j => cI (j ≠ 0) (some (.int (i.fmod j))) none
  | _, _ => none
noncomputable def powD : D → D → Option D
  | .int i, .int j => cI (0 ≤ j ∧ j ≤ 1000000 ∧ i.natAbs < 2 ^ 64) (some (.int (i ^ j.toNat))) none
  | _, _ => none
def negD : D → Option D
  | .int i => some (.int (-i))
  | _ => none
noncomputable def ltD : D → D → Option D
  | .int i, .int j => some (.bool (cd (i < j)))
  | _, _ => none
noncomputable def leD : D → D → Option D
  | .int i, .int j => some (.bool (cd (i ≤ j)))
  | _, _ => none
noncomputable def gtD : D → D → Option D
  | .int i, .int j => some (.bool (cd (j < i)))
  | _, _ => none
noncomputable def geD : D → D → Option D
  | .int i, .int j => some (.bool (cd (j ≤ i)))
  | _, _ => none
/-- rows of other lengths, whatever they hold -/
def eqL : D → D → Option D
  | .list xs, .list ys => if xs.length = ys.length then none else some (.bool false)
  | .tuple xs, .tuple [] => if xs.length = 0 then none else some (.bool false)
  | _, _ => none
def eqD : D → D → Option D
  | .str a, .str b => some (.bool (decide (a = b)))
  | d, e => if SeqAt.shaped d = true ∧ SeqAt.shaped e = true then some (.bool (PyData.eqv d e)) else eqL d e
def neD : D → D → Option D
  | .str a, .str b => some (.bool (!decide (a = b)))
  | d, e => if SeqAt.shaped d = true ∧ SeqAt.shaped e = true then some (.bool (!PyData.eqv d e)) else none
section
variable {X : Cx} {c : Cc}
theorem mulOk.ok {i j : Int} (h : mulOk i j) : IntMulOk i j := by
  have b : ∀ x : Int, Builtin.Int.intBits x ≤ x.natAbs.log2 + 1 := fun x => by
    unfold Builtin.Int.intBits
    split <;> omega
  have s64 : ∀ x : Int, x.natAbs < 2 ^ 64 → Builtin.Int.intBits x ≤ 64 := fun x hx => by
    have h1 := b x
    have h2 : x.natAbs.log2 < 64 := PySem.Flt.log2_lt_of (by decide) hx
    omega
  rcases h with h | h | h
  · exact .of_left (s64 i h)
  · exact .of_right (s64 j h)
  · have h1 := b i
    have h2 := b j
    have e : bitsLine = 134217728 := by decide
    unfold IntMulOk
    intro z
    rw [Bool.and_eq_true] at z
    have z2 := z.2
    unfold Builtin.Int.intTooBig at z2
    have z3 := of_decide_eq_true z2
    rw [e] at z3
    omega
/-- lists that are read, added -/
theorem op_catR : OpR X (binaryOp .Add) (fun x y H Q => ∃ l b xs zs, x = .ref l ∧ y = .ref b ∧ SqL X.K H l xs ∧ SqL X.K H b zs ∧ xs.length + zs.length ≤ sizeLine ∧ ∀ p, H p = none → Q (.ref p) (upd H p (.lst (xs ++ zs)))) := by
  intro pins s st H x y v u Q I rx ry h
  obtain ⟨l, b, xs, zs, rfl, rfl, hl, hb, hz, q⟩ := h
  cases rx
  cases ry
  obtain ⟨us, r1, ⟨⟨c1, d1, t1, p1⟩, n1, e1, hc1, _, hd1⟩, _⟩ := I.list hl
  obtain ⟨ws, r2, ⟨⟨c2, d2, t2, p2⟩, n2, e2, hc2, _, hd2⟩, _⟩ := I.list hb
  simp only at hc1 hd1 hc2 hd2
  subst hc1 hd1 hc2 hd2
  have l1 := r1.length
  have l2 := r2.length
  refine concat_meets ⟨_, e1, rfl⟩ ⟨_, e2, rfl⟩ noFill_list_add seq_list_add PySem.F.slot_list_add PySem.F.entry_list_add (PySem.F.args_list_add_2 _ _) (list_addW l b us.toArray ws.toArray n1 n2 d1 d2 p1 p2 (by rw [List.size_toArray, List.size_toArray]; omega)) ⟨e1, e2, ?_⟩
  have ea : us.toArray ++ ws.toArray = (us ++ ws).toArray := by simp
  rw [ea]
  exact ⟨.ref _, _, I.lnew (t' := s.toks) (r1.append r2) (by rw [List.length_append]; exact hz), rfl, q _ I.fresh⟩
theorem szC_some {α : Type} {n : Nat} {a z : α} (h : szC n a = some z) : n ≤ sizeLine ∧ a = z := by
  unfold szC at h
  split at h
  · cases h
    exact ⟨by rw [sizeLine_eq]; assumption, rfl⟩
  · cases h
theorem add_data (hK : c.K = X.K := by rfl) : OpR X (binaryOp .Add) (rD2 c.K addD) :=
  opr_cq (((op_add.or op_add_str).or op_catA).or op_catR) fun x y H Q ⟨F, d, e, z, fh, dx, dy, hz, q⟩ => by
    cases dx with
    | int i =>
      cases dy with
      | int j =>
        cases hz
        exact .inl (.inl (.inl ⟨i, j, rfl, rfl, q _ F H (.inl ⟨rfl, rfl⟩) (.int _)⟩))
      | _ => cases hz
    | str a =>
      cases dy with
      | str b =>
        obtain ⟨h1, rfl⟩ := szC_some hz
        exact .inl (.inl (.inr ⟨a, b, rfl, rfl, h1, q _ F H (.inl ⟨rfl, rfl⟩) (.str _)⟩))
      | _ => cases hz
    | @tup a vs ds g1 g2 =>
      cases dy with
      | @tup b ws es g3 g4 =>
        obtain ⟨h1, rfl⟩ := szC_some hz
        refine .inl (.inr ⟨a, b, vs, ws, rfl, rfl, by rw [← hK]; exact fh.t g1, by rw [← hK]; exact fh.t g3, by rw [dpa_len g2, dpa_len g4]; exact h1, fun e => ?_, fun n e => ?_, fun n n2 p np => ?_⟩)
        · subst e
          cases g2
          exact q _ F H (.inl ⟨rfl, rfl⟩) (.tup g3 g4)
        · subst e
          cases g4
          rw [List.append_nil] at q
          exact q _ F H (.inl ⟨rfl, rfl⟩) (.tup g1 g2)
        · have nF := fh.nn np
          exact q _ _ _ (.inr ⟨p, _, np, rfl, rfl⟩) (.tup upd_same (dpa_mono (Ex.new nF) (dpa_app g2 g4)))
      | _ => cases hz
    | @lst a vs ds g1 g2 =>
      cases dy with
      | @lst b ws es g3 g4 =>
        obtain ⟨h1, rfl⟩ := szC_some hz
        refine .inr ⟨a, b, vs, ws, rfl, rfl, by rw [← hK]; exact fh.l g1, by rw [← hK]; exact fh.l g3, by rw [dpa_len g2, dpa_len g4]; exact h1, fun p np => ?_⟩
        have nF := fh.nn np
        exact q _ _ _ (.inr ⟨p, _, np, rfl, rfl⟩) (.lst (.inl (.inl upd_same)) (dpa_mono (Ex.new nF) (dpa_app g2 g4)))
      | _ => cases hz
    | _ => cases hz
theorem sub_data : OpR X (binaryOp .Sub) (rD2 c.K subD) := opr_cq op_sub fun x y H Q ⟨F, d, e, z, fh, dx, dy, hz, q⟩ => by
  cases dx with
  | int i =>
    cases dy with
    | int j =>
      cases hz
      exact ⟨i, j, rfl, rfl, q _ F H (.inl ⟨rfl, rfl⟩) (.int _)⟩
    | _ => cases hz
  | _ => cases hz
theorem op_mulA : OpR X (binaryOp .Mult) (rI mulOk fun i j => .int (i * j)) := opI fun _ _ _ _ _ _ _ hc q => mul_int q hc.ok
theorem op_repR : OpR X (binaryOp .Mult) (fun x y H Q => ∃ l k xs, x = .ref l ∧ y = .int k ∧ SqL X.K H l xs ∧ -(2 ^ 63) ≤ k ∧ k < 2 ^ 63 ∧ xs.length * k.toNat ≤ sizeLine ∧ ∀ p, H p = none → Q (.ref p) (upd H p (.lst (List.replicate k.toNat xs).flatten))) := by
  intro pins s st H x y v u Q I rx ry h
  obtain ⟨l, k, xs, rfl, rfl, hl, h1, h2, hz, q⟩ := h
  cases rx
  obtain ⟨t, rfl⟩ := ry
  obtain ⟨us, r1, ⟨⟨c1, d1, t1, p1⟩, n1, e1, hc1, _, hd1⟩, _⟩ := I.list hl
  simp only at hc1 hd1
  subst hc1 hd1
  have l1 := r1.length
  have hlen : us.toArray.size * k.toNat ≤ 2 ^ 24 := by
    have z := hz
    rw [sizeLine_eq, l1] at z
    rw [List.size_toArray]
    omega
  refine wpAny_binaryOp_repeat_ref (T := "list") (U := "int") (by decide) ⟨_, e1, rfl⟩ (fun s' => typeIs_int s' k t) noFill_list_mul F.fills_int_mul F.slot_int_rmul repeat_list F.slot_int_index.lookup
    (call_meets F.slot_int_rmul (typeIs_int s k t) F.entry_int_rmul (F.args_int_rmul_2 _ _) (lm_int_rmul_list_any k t l us.toArray n1 d1 p1)
      ⟨e1, rfl, ⟨_, e1, rfl⟩, call_meets F.slot_list_mul ⟨_, e1, rfl⟩ F.entry_list_mul (F.args_list_mul_2 _ _)
        (lm_list_mul_any l us.toArray n1 d1 p1 k t (by simp [Builtin.List.listFitsIndex]; omega) (by omega) (by simp [Builtin.List.listTooLong, sizeLine]; omega)) ⟨e1, ?_⟩⟩)
  rw [listMul_foldl_if]
  exact ⟨.ref _, _, I.lnew (t' := s.toks) (r1.rep k.toNat) (by rw [PyProof.Rows.lm_len_rep_flat, Nat.mul_comm]; exact hz), rfl, q _ I.fresh⟩
theorem tuple_mul1 (l : Addr) (items : Array Value) (n : Nat) (dd : Option Addr) (sl : Array (Option Value)) (x : Int) (u : Tok) (c0 : (decide (x < -(2 ^ 63)) || decide (x ≥ 2 ^ 63)) = false) (c1 : (items.isEmpty || x == 1) = true) :
    Meets (Builtin.«tuple.__mul__» ⟨[.ref l, .int x u], []⟩) (fun _ R s => s.heap.get? l = some { cls := .type "tuple", dict := dd, data := .seq items n, slots := sl } ∧ R (.ok (.ret (Value.ref l))) s) :=
  .of_wp fun prog w A R s h => by
    obtain ⟨hp, g, d, tk, os⟩ := s
    obtain ⟨hl, h⟩ := h
    have f1 := AutoSeq1.idx_int
    wp_walk using wpAny_loadPart' hl
    repeat (first
      | (refine wpAny_ite_false (decide_eq_false (by rw [c0]; exact Bool.false_ne_true)) ?_; wp_walk using wpAny_loadPart' hl)
      | (refine wpAny_ite_true (decide_eq_true c1) ?_; wp_walk using wpAny_loadPart' hl))
    exact ⟨_, rfl, h⟩
theorem tuple_mul0 (l : Addr) (items : Array Value) (n : Nat) (dd : Option Addr) (sl : Array (Option Value)) (x : Int) (u : Tok) (c0 : (decide (x < -(2 ^ 63)) || decide (x ≥ 2 ^ 63)) = false) (c1 : (items.isEmpty || x == 1) = false) (c2 : (decide (x ≤ 0) || items.isEmpty) = true) :
    Meets (Builtin.«tuple.__mul__» ⟨[.ref l, .int x u], []⟩) (fun _ R s => s.heap.get? l = some { cls := .type "tuple", dict := dd, data := .seq items n, slots := sl } ∧ R (.ok (.ret (Value.ref s.heap.objs.size))) { s with heap := s.heap.push { cls := Value.type "tuple", data := Data.seq #[] }, toks := s.toks }) :=
  .of_wp fun prog w A R s h => by
    obtain ⟨hp, g, d, tk, os⟩ := s
    obtain ⟨hl, h⟩ := h
    have f1 := AutoSeq1.idx_int
    wp_walk using wpAny_loadPart' hl
    repeat (first
      | (refine wpAny_ite_false (decide_eq_false (by rw [c0]; exact Bool.false_ne_true)) ?_; wp_walk using wpAny_loadPart' hl)
      | (refine wpAny_ite_false (decide_eq_false (by rw [c1]; exact Bool.false_ne_true)) ?_; wp_walk using wpAny_loadPart' hl)
      | (refine wpAny_ite_true (decide_eq_true c2) ?_; wp_walk using wpAny_loadPart' hl))
    exact ⟨_, rfl, h⟩
theorem op_repT01 : OpR X (binaryOp .Mult) (fun x y H Q => ∃ l k xs, x = .ref l ∧ y = .int k ∧ SqT X.K H l xs ∧ -(2 ^ 63) ≤ k ∧ k < 2 ^ 63 ∧ (((xs = [] ∨ k = 1) ∧ Q (.ref l) H) ∨ ((xs ≠ [] ∧ k ≤ 0) ∧ ∀ p, H p = none → Q (.ref p) (upd H p (.tup []))))) := by
  intro pins s σ H x y v u Q I rx ry h
  obtain ⟨l, k, xs, rfl, rfl, hT, h1, h2, q⟩ := h
  cases rx
  obtain ⟨t, rfl⟩ := ry
  obtain ⟨its, r, ⟨⟨cls, dd, data, sl⟩, ho, hc, n, hd⟩, hs⟩ := I.tuple hT
  simp only at hc hd
  subst hc hd
  have hle : its.length = xs.length := r.length.symm
  have c0 : (decide (k < -(2 ^ 63)) || decide (k ≥ 2 ^ 63)) = false := by
    rw [decide_eq_false (by omega), decide_eq_false (by omega)] <;> rfl
  have hem : its.toArray.isEmpty = true ↔ xs = [] := by
    rw [List.isEmpty_toArray, List.isEmpty_iff_length_eq_zero, hle, List.length_eq_zero_iff]
  refine wpAny_binaryOp_repeat_ref (T := "tuple") (U := "int") (by decide) ⟨_, ho, rfl⟩ (fun s' => typeIs_int s' k t) noFill_tuple_mul F.fills_int_mul F.slot_int_rmul repeat_tuple F.slot_int_index.lookup
    (call_meets F.slot_int_rmul (typeIs_int s k t) F.entry_int_rmul (F.args_int_rmul_2 _ _) (int_rmul_tuple k t l its.toArray n dd sl) ⟨ho, rfl, ⟨_, ho, rfl⟩, ?_⟩)
  rcases q with ⟨hq, q⟩ | ⟨⟨hn, hk⟩, q⟩
  · have c1 : (its.toArray.isEmpty || k == 1) = true := by
      rw [Bool.or_eq_true, beq_iff_eq, hem]
      exact hq
    exact call_meets F.slot_tuple_mul ⟨_, ho, rfl⟩ F.entry_tuple_mul (F.args_tuple_mul_2 _ _) (tuple_mul1 l its.toArray n dd sl k t c0 c1) ⟨ho, .ref l, H, I, rfl, q⟩
  · have c1 : (its.toArray.isEmpty || k == 1) = false := by
      rw [Bool.or_eq_false_iff]
      refine ⟨?_, beq_eq_false_iff_ne.mpr (by omega)⟩
      cases e : its.toArray.isEmpty with
      | false => rfl
      | true => exact absurd (hem.mp e) hn
    have c2 : (decide (k ≤ 0) || its.toArray.isEmpty) = true := by
      rw [decide_eq_true hk]
      rfl
    refine call_meets F.slot_tuple_mul ⟨_, ho, rfl⟩ F.entry_tuple_mul (F.args_tuple_mul_2 _ _) (tuple_mul0 l its.toArray n dd sl k t c0 c1 c2) ⟨ho, ?_⟩
    refine ⟨.ref s.heap.objs.size, _, I.laid (t' := s.toks) (o := .tup []) (fun b ob q => Heap.get?_push_of_some _ q) (Nat.le_refl _) ?_, rfl, q _ (I.hok.fresh (Nat.le_refl _))⟩
    exact ⟨by simp, _, .nil, IsTup.new _ _⟩
theorem mul_data (hK : c.K = X.K := by rfl) : OpR X (binaryOp .Mult) (rD2 c.K mulD) := opr_cq (((op_mulA.or op_repR).or op_repT).or op_repT01) fun x y H Q ⟨F, d, e, z, fh, dx, dy, hz, q⟩ => by
  cases dx with
  | int i =>
    cases dy with
    | int j =>
      have hz : (if mulOk i j then some (PyData.int (i * j)) else none) = some z := by
        rw [← cI_eq]
        exact hz
      by_cases hm : mulOk i j
      · rw [if_pos hm] at hz
        cases hz
        exact .inl (.inl (.inl ⟨i, j, rfl, rfl, hm, q _ F H (.inl ⟨rfl, rfl⟩) (.int _)⟩))
      · rw [if_neg hm] at hz
        cases hz
    | _ => cases hz
  | @lst a vs ds g1 g2 =>
    cases dy with
    | int k =>
      have hz : (if (-(2 ^ 63) ≤ k ∧ k < 2 ^ 63) ∧ ds.length * k.toNat ≤ 16777216 then some (PyData.list (List.replicate k.toNat ds).flatten) else none) = some z := by
        rw [← cI_eq]
        exact hz
      split at hz
      · rename_i hm
        cases hz
        refine .inl (.inl (.inr ⟨a, k, vs, rfl, rfl, by rw [← hK]; exact fh.l g1, hm.1.1, hm.1.2, by rw [dpa_len g2, sizeLine_eq]; exact hm.2, fun p np => ?_⟩))
        have nF := fh.nn np
        exact q _ _ _ (.inr ⟨p, _, np, rfl, rfl⟩) (.lst (.inl (.inl upd_same)) (dpa_mono (Ex.new nF) (dpa_rep g2 _)))
      · cases hz
    | _ => cases hz
  | @tup a vs ds g1 g2 =>
    cases dy with
    | int k =>
      have hz : (if -1000 ≤ k ∧ k ≤ 1000 ∧ ds.length ≤ 1000 then some (PyData.tuple (List.replicate k.toNat ds).flatten) else none) = some z := by
        rw [← cI_eq]
        exact hz
      split at hz
      · rename_i hm
        cases hz
        by_cases hs : vs = [] ∨ k = 1
        · refine .inr ⟨a, k, vs, rfl, rfl, by rw [← hK]; exact fh.t g1, by omega, by omega, .inl ⟨hs, ?_⟩⟩
          have e : (List.replicate k.toNat ds).flatten = ds := by
            rcases hs with hs | hs
            · subst hs
              cases g2
              simp
            · subst hs
              simp
          rw [e] at q
          exact q _ F H (.inl ⟨rfl, rfl⟩) (.tup g1 g2)
        · by_cases hk : 2 ≤ k
          · refine .inl (.inr ⟨a, k, vs, rfl, rfl, by rw [← hK]; exact fh.t g1, fun e => hs (.inl e), hk, hm.2.1, by rw [dpa_len g2]; exact hm.2.2, fun p np => ?_⟩)
            have nF := fh.nn np
            exact q _ _ _ (.inr ⟨p, _, np, rfl, rfl⟩) (.tup upd_same (dpa_mono (Ex.new nF) (dpa_rep g2 _)))
          · have hk0 : k ≤ 0 := by
              have : k ≠ 1 := fun e => hs (.inr e)
              omega
            refine .inr ⟨a, k, vs, rfl, rfl, by rw [← hK]; exact fh.t g1, by omega, by omega, .inr ⟨⟨fun e => hs (.inl e), hk0⟩, fun p np => ?_⟩⟩
            have e : (List.replicate k.toNat ds).flatten = [] := by
              rw [Int.toNat_of_nonpos hk0]
              rfl
            rw [e] at q
            exact q _ _ _ (.inr ⟨p, _, np, rfl, rfl⟩) (.tup upd_same .nil)
      · cases hz
    | _ => cases hz
  | _ => cases hz
theorem op_fdivA : OpR X (binaryOp .FloorDiv) (rI (fun _ j => j ≠ 0 ∧ j.natAbs.log2 < 9000) fun i j => .int (i.fdiv j)) := opI fun _ _ _ _ _ _ _ hc q => floordiv_int hc.1 q (.inl (PyProof.noPylong_of_log2 hc.2))
theorem fdiv_data : OpR X (binaryOp .FloorDiv) (rD2 c.K fdivD) := opr_cq op_fdivA fun x y H Q ⟨F, d, e, z, fh, dx, dy, hz, q⟩ => by
  cases dx with
  | int i =>
    cases dy with
    | int j =>
      have hz : (if j ≠ 0 ∧ j.natAbs.log2 < 9000 then some (PyData.int (i.fdiv j)) else none) = some z := by
        rw [← cI_eq]
        exact hz
      split at hz
      · rename_i hm
        cases hz
        exact ⟨i, j, rfl, rfl, hm, q _ F H (.inl ⟨rfl, rfl⟩) (.int _)⟩
      · cases hz
    | _ => cases hz
  | _ => cases hz
theorem mod_data : OpR X (binaryOp .Mod) (rD2 c.K modD) := opr_cq op_modN fun x y H Q ⟨F, d, e, z, fh, dx, dy, hz, q⟩ => by
  cases dx with
  | int i =>
    cases dy with
    | int j =>
      have hz : (if j ≠ 0 then some (PyData.int (i.fmod j)) else none) = some z := by
        rw [← cI_eq]
        exact hz
      split at hz
      · rename_i hm
        cases hz
        exact ⟨i, j, rfl, rfl, hm, q _ F H (.inl ⟨rfl, rfl⟩) (.int _)⟩
      · cases hz
    | _ => cases hz
  | _ => cases hz
theorem pow_data : OpR X (binaryOp .Pow) (rD2 c.K powD) := opr_cq op_pow fun x y H Q ⟨F, d, e, z, fh, dx, dy, hz, q⟩ => by
  cases dx with
  | int i =>
    cases dy with
    | int j =>
      have hz : (if 0 ≤ j ∧ j ≤ 1000000 ∧ i.natAbs < 2 ^ 64 then some (PyData.int (i ^ j.toNat)) else none) = some z := by
        rw [← cI_eq]
        exact hz
      split at hz
      · rename_i hm
        cases hz
        exact ⟨i, j, rfl, rfl, hm, q _ F H (.inl ⟨rfl, rfl⟩) (.int _)⟩
      · cases hz
    | _ => cases hz
  | _ => cases hz
theorem neg_data : UnR X (unaryOp .USub) (rD1 c.K negD) := unr_cq un_neg fun x H Q ⟨F, d, z, fh, dx, hz, q⟩ => by
  cases dx with
  | int i =>
    cases hz
    exact ⟨i, rfl, q _ F H (.inl ⟨rfl, rfl⟩) (.int _)⟩
  | _ => cases hz
theorem cmpI_data {op : CmpOp} {p : Int → Int → Bool} {g : D → D → Option D} (ho : OpR X (compareOp op) (rI0 fun i j => .bl (p i j))) (hg : ∀ d e z, g d e = some z → ∃ i j, d = .int i ∧ e = .int j ∧ z = .bool (p i j)) : OpR X (compareOp op) (rD2 c.K g) :=
  opr_cq ho fun x y H Q ⟨F, d, e, z, fh, dx, dy, hz, q⟩ => by
    obtain ⟨i, j, rfl, rfl, rfl⟩ := hg _ _ _ hz
    cases rp_int dx
    cases rp_int dy
    exact ⟨i, j, rfl, rfl, q _ F H (.inl ⟨rfl, rfl⟩) (.bl _)⟩
theorem lt_data : OpR X (compareOp .Lt) (rD2 c.K ltD) := cmpI_data op_lt fun d e z h => by
  unfold ltD at h
  split at h <;> cases h
  exact ⟨_, _, rfl, rfl, by rw [cd_eq]⟩
theorem le_data : OpR X (compareOp .LtE) (rD2 c.K leD) := cmpI_data op_le fun d e z h => by
  unfold leD at h
  split at h <;> cases h
  exact ⟨_, _, rfl, rfl, by rw [cd_eq]⟩
theorem gt_data : OpR X (compareOp .Gt) (rD2 c.K gtD) := cmpI_data op_gt fun d e z h => by
  unfold gtD at h
  split at h <;> cases h
  exact ⟨_, _, rfl, rfl, by rw [cd_eq]⟩
theorem ge_data : OpR X (compareOp .GtE) (rD2 c.K geD) := cmpI_data op_ge fun d e z h => by
  unfold geD at h
  split at h <;> cases h
  exact ⟨_, _, rfl, rfl, by rw [cd_eq]⟩
theorem dec_str (a b : Str) : decide (V.str a = V.str b) = decide (a = b) := by
  refine decide_eq_decide.mpr ⟨fun h => ?_, fun h => by rw [h]⟩
  cases h
  rfl
theorem op_eqLL (hu : X.A.units + 64 < cLine) : OpR X (compareOp .Eq) (fun x y H Q => ∃ a b xs ys, x = .ref a ∧ y = .ref b ∧ ((SqL X.K H a xs ∧ SqL X.K H b ys ∧ xs.length ≠ ys.length) ∨ (SqT X.K H a xs ∧ SqT X.K H b ys ∧ ys = [] ∧ xs.length ≠ 0)) ∧ Q (.bl false) H) := by
  intro pins s σ H x y v u Q I rx ry h
  obtain ⟨a, b, xs, ys, rfl, rfl, h, q⟩ := h
  cases rx
  cases ry
  rcases h with ⟨h1, h2, hne⟩ | ⟨h1, h2, he, hne⟩
  · obtain ⟨its, r, pl, hz⟩ := I.list h1
    obtain ⟨its2, r2, pl2, hz2⟩ := I.list h2
    have l1 := r.length
    have l2 := r2.length
    exact SeqAt.eq_list_lengthsAt pl.isList pl2.isList (by simp; omega) (by omega) ⟨.bl _, H, I, rfl, q⟩
  · obtain ⟨its, r, pl, hz⟩ := I.tuple h1
    obtain ⟨its2, r2, pl2, hz2⟩ := I.tuple h2
    have l1 := r.length
    have l2 := r2.length
    subst he
    have l3 : its2.toArray.size = 0 := by simp; simpa using l2.symm
    refine SeqAt.eq_tupleAt (e := fun _ => true) pl pl2 (by omega) (fun j j1 j2 => by omega) ?_
    have e : ((List.range (min its.toArray.size its2.toArray.size)).all (fun _ => true) && its.toArray.size == its2.toArray.size) = false := by
      rw [l3]
      simp
      intro z
      rw [z] at l1
      exact hne (by simpa using l1)
    rw [e]
    exact ⟨.bl _, H, I, rfl, q⟩
theorem eq_data (hu : X.A.units + 64 < cLine) (hK : c.K = X.K := by rfl) : OpR X (compareOp .Eq) (rD2 c.K eqD) := opr_cq (((op_eqD hu).or op_eq).or (op_eqLL hu)) fun x y H Q ⟨F, d, e, z, fh, dx, dy, hz, q⟩ => by
  unfold eqD at hz
  split at hz
  · cases dx
    cases dy
    cases hz
    refine .inl (.inr ⟨rfl, ?_⟩)
    rw [dec_str]
    exact q _ F H (.inl ⟨rfl, rfl⟩) (.bl _)
  · split at hz
    · rename_i hm
      cases hz
      refine .inl (.inl ⟨d, e, by rw [← hK]; exact rp_dp (dp_mono fh dx) hm.1, by rw [← hK]; exact rp_dp (dp_mono fh dy) hm.2, hm.1, hm.2, q _ F H (.inl ⟨rfl, rfl⟩) (.bl _)⟩)
    · refine .inr ?_
      cases dx with
      | @lst a1 vs1 ds1 g1 g2 =>
        cases dy with
        | @lst a2 vs2 ds2 g3 g4 =>
          have hz : (if ds1.length = ds2.length then none else some (PyData.bool false)) = some z := hz
          split at hz
          · cases hz
          · rename_i hn
            cases hz
            exact ⟨_, _, _, _, rfl, rfl, .inl ⟨by rw [← hK]; exact fh.l g1, by rw [← hK]; exact fh.l g3, by rw [dpa_len g2, dpa_len g4]; exact hn⟩, q _ F H (.inl ⟨rfl, rfl⟩) (.bl _)⟩
        | _ => cases hz
      | @tup a1 vs1 ds1 g1 g2 =>
        cases dy with
        | @tup a2 vs2 ds2 g3 g4 =>
          cases g4 with
          | nil =>
            have hz : (if ds1.length = 0 then none else some (PyData.bool false)) = some z := hz
            split at hz
            · cases hz
            · rename_i hn
              cases hz
              exact ⟨_, _, _, _, rfl, rfl, .inr ⟨by rw [← hK]; exact fh.t g1.s, by rw [← hK]; exact fh.t g3, rfl, by rw [dpa_len g2]; exact hn⟩, q _ F H (.inl ⟨rfl, rfl⟩) (.bl _)⟩
          | cons _ _ => cases hz
        | _ => cases hz
      | _ => cases hz
theorem ne_data (hu : X.A.units + 64 < cLine) (hK : c.K = X.K := by rfl) : OpR X (compareOp .NotEq) (rD2 c.K neD) := opr_cq ((op_neD hu).or op_ne) fun x y H Q ⟨F, d, e, z, fh, dx, dy, hz, q⟩ => by
  unfold neD at hz
  split at hz
  · cases dx
    cases dy
    cases hz
    refine .inr ⟨rfl, ?_⟩
    rw [dec_str]
    exact q _ F H (.inl ⟨rfl, rfl⟩) (.bl _)
  · split at hz
    · rename_i hm
      cases hz
      exact .inl ⟨d, e, by rw [← hK]; exact rp_dp (dp_mono fh dx) hm.1, by rw [← hK]; exact rp_dp (dp_mono fh dy) hm.2, hm.1, hm.2, q _ F H (.inl ⟨rfl, rfl⟩) (.bl _)⟩
    · cases hz
/-! chains: a op b op c -/
def eChain (g g' : D → D → Option D) (ma mb mc : M D) : M D := ma.bind fun x => mb.bind fun y => (M.opt (g x y)).bind fun b => match b with
  | .bool true => mc.bind fun z => M.opt (g' y z)
  | .bool false => M.ret (.bool false)
  | _ => M.no
end

/-! ### built-ins -/
def absD : D → Option D
  | .int i => some (.int (if i < 0 then -i else i))
  | _ => none
def intD : D → Option D
  | .int i => some (.int i)
  | .bool k => some (.int (if k then 1 else 0))
  | _ => none
def tupD : D → Option D
  | .list ds => some (.tuple ds)
  | .tuple ds => some (.tuple ds)
  | _ => none
def two (g : D → D → Option D) : List D → Option D
  | [d, e] => g d e
  | _ => none
def minD : D → D → Option D
  | .int i, .int j => some (.int (if j < i then j else i))
  | _, _ => none
def maxD : D → D → Option D
  | .int i, .int j => some (.int (if j > i then j else i))
  | _, _ => none
def intsOf : List D → Option (List Int)
  | [] => some []
  | .int i :: ds => (intsOf ds).map (i :: ·)
  | _ => none
def boolsOf : List D → Option (List Bool)
  | [] => some []
  | .bool i :: ds => (boolsOf ds).map (i :: ·)
  | _ => none
def sumD : D → Option D
  | .list ds => (intsOf ds).map fun ns => .int ns.sum
  | _ => none
def allD : D → Option D
  | .list ds => (boolsOf ds).map fun bs => .bool (bs.all id)
  | _ => none
def anyD : D → Option D
  | .list ds => (boolsOf ds).map fun bs => .bool (bs.any id)
  | _ => none
def listD : List D → Option (List D)
  | [.list ds] => some ds
  | [.tuple ds] => some ds
  | _ => none
theorem intsOf_some : ∀ {ds : List D} {ns : List Int}, intsOf ds = some ns → ds = ns.map .int
  | [], ns, h => by
    cases h
    rfl
  | .int i :: ds, ns, h => by
    have h : (intsOf ds).map (i :: ·) = some ns := h
    cases e : intsOf ds with
    | none =>
      rw [e] at h
      cases h
    | some ms =>
      rw [e] at h
      cases h
      rw [intsOf_some e]
      rfl
  | .none :: _, _, h => by cases h
  | .bool _ :: _, _, h => by cases h
  | .str _ :: _, _, h => by cases h
  | .list _ :: _, _, h => by cases h
  | .tuple _ :: _, _, h => by cases h
  | .dict _ :: _, _, h => by cases h
theorem boolsOf_some : ∀ {ds : List D} {ns : List Bool}, boolsOf ds = some ns → ds = ns.map .bool
  | [], ns, h => by
    cases h
    rfl
  | .bool i :: ds, ns, h => by
    have h : (boolsOf ds).map (i :: ·) = some ns := h
    cases e : boolsOf ds with
    | none =>
      rw [e] at h
      cases h
    | some ms =>
      rw [e] at h
      cases h
      rw [boolsOf_some e]
      rfl
  | .none :: _, _, h => by cases h
  | .int _ :: _, _, h => by cases h
  | .str _ :: _, _, h => by cases h
  | .list _ :: _, _, h => by cases h
  | .tuple _ :: _, _, h => by cases h
  | .dict _ :: _, _, h => by cases h
theorem rpa_ints {K : PySem.W.Frag} {F : Hp} : ∀ {ns : List Int} {vs : List V}, RpAll K F vs (ns.map .int) → vs = ns.map .int
  | [], _, .nil => rfl
  | _ :: _, _, .cons h t => by
    rw [rp_int h, rpa_ints t]
    rfl
theorem rp_bl {K : PySem.W.Frag} {F : Hp} {v : V} {b : Bool} (h : Rp K F v (.bool b)) : v = .bl b := by
  cases h
  rfl
theorem rpa_bools {K : PySem.W.Frag} {F : Hp} : ∀ {ns : List Bool} {vs : List V}, RpAll K F vs (ns.map .bool) → vs = ns.map .bl
  | [], _, .nil => rfl
  | _ :: _, _, .cons h t => by
    rw [rp_bl h, rpa_bools t]
    rfl
section
variable {X : Cx} {c : Cc}
theorem two_some {g : D → D → Option D} {ds : List D} {z : D} (h : two g ds = some z) : ∃ d e, ds = [d, e] ∧ g d e = some z := by
  unfold two at h
  split at h
  · exact ⟨_, _, rfl, h⟩
  · cases h
theorem abs_data : CallR X (.builtin "abs") (rDA c.K (one absD)) := callr_cq call_abs fun xs H Q ⟨F, ds, z, fh, dps, hz, q⟩ => by
  obtain ⟨d, rfl, hz⟩ := one_some hz
  obtain ⟨v, rfl, dp⟩ := rpa_one dps
  cases dp with
  | int i =>
    cases hz
    exact ⟨i, rfl, q _ F H (.inl ⟨rfl, rfl⟩) (.int _)⟩
  | _ => cases hz
theorem int_data : CallR X (.type "int") (rDA c.K (one intD)) := callr_cq call_int1 fun xs H Q ⟨F, ds, z, fh, dps, hz, q⟩ => by
  obtain ⟨d, rfl, hz⟩ := one_some hz
  obtain ⟨v, rfl, dp⟩ := rpa_one dps
  cases dp with
  | int i =>
    cases hz
    exact .inl ⟨i, rfl, q _ F H (.inl ⟨rfl, rfl⟩) (.int _)⟩
  | bl k =>
    cases hz
    exact .inr ⟨k, rfl, q _ F H (.inl ⟨rfl, rfl⟩) (.int _)⟩
  | _ => cases hz
theorem min_data (hc : X.calm = true := by rfl) : CallR X (.builtin "min") (rDA c.K (two minD)) := callr_cq (call_min2 hc) fun xs H Q ⟨F, ds, z, fh, dps, hz, q⟩ => by
  obtain ⟨d, e, rfl, hz⟩ := two_some hz
  obtain ⟨v, w, rfl, dp, dp2⟩ := rpa_two dps
  cases dp with
  | int i =>
    cases dp2 with
    | int j =>
      cases hz
      exact ⟨i, j, rfl, q _ F H (.inl ⟨rfl, rfl⟩) (.int _)⟩
    | _ => cases hz
  | _ => cases hz
theorem max_data (hc : X.calm = true := by rfl) : CallR X (.builtin "max") (rDA c.K (two maxD)) := callr_cq (call_max2 hc) fun xs H Q ⟨F, ds, z, fh, dps, hz, q⟩ => by
  obtain ⟨d, e, rfl, hz⟩ := two_some hz
  obtain ⟨v, w, rfl, dp, dp2⟩ := rpa_two dps
  cases dp with
  | int i =>
    cases dp2 with
    | int j =>
      cases hz
      exact ⟨i, j, rfl, q _ F H (.inl ⟨rfl, rfl⟩) (.int _)⟩
    | _ => cases hz
  | _ => cases hz
theorem tup_data (hK : c.K = X.K := by rfl) : CallR X (.type "tuple") (rDA c.K (one tupD)) := callr_cq call_tuple_of fun xs H Q ⟨F, ds, z, fh, dps, hz, q⟩ => by
  obtain ⟨d, rfl, hz⟩ := one_some hz
  obtain ⟨v, rfl, dp⟩ := rpa_one dps
  cases dp with
  | @lst a vs ds g1 g2 =>
    cases hz
    refine ⟨a, vs, rfl, .inl ⟨by rw [← hK]; exact fh.l g1, fun p np => ?_⟩⟩
    have nF := fh.nn np
    exact q _ _ _ (.inr ⟨p, _, np, rfl, rfl⟩) (.tup upd_same (dpa_mono (Ex.new nF) g2))
  | @tup a vs ds g1 g2 =>
    cases hz
    exact ⟨a, vs, rfl, .inr ⟨by rw [← hK]; exact fh.t g1, q _ F H (.inl ⟨rfl, rfl⟩) (.tup g1 g2)⟩⟩
  | _ => cases hz
theorem list_data (hK : c.K = X.K := by rfl) : CallR X (.type "list") (rDAo c.K listD) := callr_cq call_list_of fun xs H Q ⟨F, ds, z, fh, dps, hz, q⟩ => by
  unfold listD at hz
  split at hz
  · cases hz
    obtain ⟨v, rfl, dp⟩ := rpa_one dps
    cases dp with
    | @lst a vs _ g1 g2 => exact ⟨a, vs, rfl, .inl (by rw [← hK]; exact fh.l g1), fun p np => q p vs np g2⟩
  · cases hz
    obtain ⟨v, rfl, dp⟩ := rpa_one dps
    cases dp with
    | @tup a vs _ g1 g2 => exact ⟨a, vs, rfl, .inr (by rw [← hK]; exact fh.t g1), fun p np => q p vs np g2⟩
  · cases hz
theorem sum_data (hK : c.K = X.K := by rfl) (hc : X.calm = true := by rfl) : CallR X (.builtin "sum") (rDA c.K (one sumD)) := callr_cq (cr_sum hc) fun xs H Q ⟨F, ds, z, fh, dps, hz, q⟩ => by
  obtain ⟨d, rfl, hz⟩ := one_some hz
  obtain ⟨v, rfl, dp⟩ := rpa_one dps
  cases dp with
  | @lst a vs ds g1 g2 =>
    have hz : (intsOf ds).map (fun ns => PyData.int ns.sum) = some z := hz
    cases e : intsOf ds with
    | none =>
      rw [e] at hz
      cases hz
    | some ns =>
      rw [e] at hz
      cases hz
      rw [intsOf_some e] at g2
      rw [rpa_ints g2] at g1
      exact ⟨a, ns, rfl, by rw [← hK]; exact fh.l g1, q _ F H (.inl ⟨rfl, rfl⟩) (.int _)⟩
  | _ => cases hz
theorem all_data (hK : c.K = X.K := by rfl) (hc : X.calm = true := by rfl) : CallR X (.builtin "all") (rDA c.K (one allD)) := callr_cq (cr_all hc) fun xs H Q ⟨F, ds, z, fh, dps, hz, q⟩ => by
  obtain ⟨d, rfl, hz⟩ := one_some hz
  obtain ⟨v, rfl, dp⟩ := rpa_one dps
  cases dp with
  | @lst a vs ds g1 g2 =>
    have hz : (boolsOf ds).map (fun ns => PyData.bool (ns.all id)) = some z := hz
    cases e : boolsOf ds with
    | none =>
      rw [e] at hz
      cases hz
    | some ns =>
      rw [e] at hz
      cases hz
      rw [boolsOf_some e] at g2
      rw [rpa_bools g2] at g1
      exact ⟨a, ns, rfl, by rw [← hK]; exact fh.l g1, q _ F H (.inl ⟨rfl, rfl⟩) (.bl _)⟩
  | _ => cases hz
theorem any_data (hK : c.K = X.K := by rfl) (hc : X.calm = true := by rfl) : CallR X (.builtin "any") (rDA c.K (one anyD)) := callr_cq (cr_any hc) fun xs H Q ⟨F, ds, z, fh, dps, hz, q⟩ => by
  obtain ⟨d, rfl, hz⟩ := one_some hz
  obtain ⟨v, rfl, dp⟩ := rpa_one dps
  cases dp with
  | @lst a vs ds g1 g2 =>
    have hz : (boolsOf ds).map (fun ns => PyData.bool (ns.any id)) = some z := hz
    cases e : boolsOf ds with
    | none =>
      rw [e] at hz
      cases hz
    | some ns =>
      rw [e] at hz
      cases hz
      rw [boolsOf_some e] at g2
      rw [rpa_bools g2] at g1
      exact ⟨a, ns, rfl, by rw [← hK]; exact fh.l g1, q _ F H (.inl ⟨rfl, rfl⟩) (.bl _)⟩
  | _ => cases hz
/-! isinstance against a built-in class -/
def tyName : D → Option String
  | .none => some "NoneType"
  | .bool _ => some "bool"
  | .int _ => some "int"
  | .str _ => some "str"
  | .list _ => some "list"
  | .tuple _ => some "tuple"
  | .dict [] => some "dict"
  | .dict (_ :: _) => none
def isiD (T : String) (d : D) : Option D := match d with
  | .dict (_ :: _) => if T ∈ basicT then some (.bool false) else none
  | d => (tyName d).bind fun n => (kitB n T).map .bool
/-! an exception that was caught -/
theorem callr_or {f : Value} {r r' : List V → Hp → VK → Prop} (h : CallR X f r) (h' : CallR X f r') : CallR X f (fun xs H Q => r xs H Q ∨ r' xs H Q) := fun pins s st H xs us Q I rv q => q.elim (h pins s st H xs us Q I rv) (h' pins s st H xs us Q I rv)
theorem excC_kit {K : PySem.W.Frag} {C a : Addr} {ox : Obj} {od : Option Obj} (c : ExcC K C) : PySem.W.KitX K (.ref a) (.ref C) (fun h => PySem.W.InstAt h a ox C od) := by
  obtain ⟨cd, hc, _⟩ := PySem.W.any_some c.hd
  exact PySem.W.kitx_exc (by rw [hc]; rfl) c.hg c.hk c.hs c.ha c.hn c.ht c.hm
def ExAt (H : Hp) (a C : Addr) : Prop := ∃ d, H a = some (CauO (.ref C) d a) ∧ ∀ dd, d = some dd → ∃ fs, H dd = some (.xd fs)
theorem exAt_inst {X : Cx} {pins : List (Addr × Obj)} {st : L2.St} {H : Hp} {s : Shared} {a C : Addr} (I : Inv X pins st H s) (h : ExAt H a C) : ∃ ox od, PySem.W.InstAt s.heap a ox C od := by
  obtain ⟨d, h1, h2⟩ := h
  obtain ⟨⟨oe, vs, hg, ⟨hz1, hz2⟩, hd⟩, _, _⟩ := I.hok a _ h1
  have hno : PySem.W.notCls oe = true := by
    unfold PySem.W.notCls
    rw [hd]
  cases d with
  | none => exact ⟨oe, none, hg, hz1, hno, by rw [hz2]; trivial⟩
  | some dd =>
    obtain ⟨fs, h3⟩ := h2 dd rfl
    obtain ⟨o, ho⟩ := objOk_get (I.hok dd _ h3)
    exact ⟨oe, some o, hg, hz1, hno, by rw [hz2]; exact ho⟩
def rIsX (K : PySem.W.Frag) : List V → Hp → VK → Prop := fun xs H Q => ∃ (a C : Addr) (c : V) (cv : Value) (b : Bool), xs = [.ref a, c] ∧ ExAt H a C ∧ ExcC K C ∧ (∀ u, RelV c u → u = cv) ∧ PySem.W.kitOne K (.ref C) cv = some b ∧ Q (.bl b) H
theorem call_isX : CallR X (.builtin "isinstance") (rIsX X.K) := by
  intro pins s st H xs us Q I r h
  obtain ⟨a, C, c, cv, b, rfl, ha, hC, hcv, e, q⟩ := h
  cases r with
  | cons rx rr =>
    cases rr with
    | cons rt rr =>
      cases rr
      cases rx
      have ec := hcv _ rt
      subst ec
      obtain ⟨ox, od, J⟩ := exAt_inst I ha
      exact PySem.W.kia_one (excC_kit hC) I.kIn J e (fun z => nomatch z) fun tk => ⟨.bl b, H, I.kept (t' := tk) fun _ _ z => z, rfl, q⟩
theorem rp_exAt {K : PySem.W.Frag} {F H : Hp} {v : V} {nm : Str} {kv : List (D × D)} (h : Rp K F v (.dict ((.str nm, .none) :: kv))) (fh : Ex F H) : ∃ a, v = .ref a ∧ ExAt H a (He.ga K nm) ∧ ExcK K nm := by
  cases h with
  | exc0 h1 h2 => exact ⟨_, rfl, ⟨_, fh.at_ _ _ h1 cau_ne, fun _ z => nomatch z⟩, h2⟩
  | excF h1 h2 h3 h4 h5 => exact ⟨_, rfl, ⟨_, fh.at_ _ _ h1 cau_ne, fun dd z => by cases z; exact ⟨_, fh.at_ _ _ h2 (fun ps z => nomatch z)⟩⟩, h3⟩
theorem rp_dict1 {K : PySem.W.Frag} {F : Hp} {v : V} {x : D × D} {kv : List (D × D)} (h : Rp K F v (.dict (x :: kv))) : ∃ nm, x = (.str nm, .none) := by
  cases h with
  | exc0 h1 h2 => exact ⟨_, rfl⟩
  | excF h1 h2 h3 h4 h5 => exact ⟨_, rfl⟩
theorem ty_data {K : PySem.W.Frag} {F H : Hp} {v : V} {d : D} {n : String} (h : Rp K F v d) (fh : Ex F H) (e : tyName d = some n) : TyX K H v (.type n) := by
  cases h with
  | non => cases e; exact .base .non
  | bl b => cases e; exact .base (.bl b)
  | int i => cases e; exact .base (.int i)
  | str x => cases e; exact .base (.str x)
  | @lst a vs ds g1 g2 =>
    cases e
    rcases fh.l g1 with (g | ⟨o, g⟩) | ⟨o, its, n, g, hc, _⟩
    · exact .base (.lst g)
    · exact .base (.frz g)
    · exact .kList g hc
  | @tup a vs ds g1 g2 =>
    cases e
    rcases fh.t g1.s with (g | ⟨o, g⟩) | ⟨o, its, n, g, hc, _⟩
    · exact .base (.tup g)
    · exact .fTuple g
    · exact .kTuple g hc
  | emp g =>
    cases e
    exact .base (.dK (fh.at_ _ _ g (fun ps z => nomatch z)))
  | exc0 _ _ => cases e
  | excF _ _ _ _ _ => cases e
theorem isiD_dict {T : String} {d z : D} (h : isiD T d = some z) : (∃ x kv, d = .dict (x :: kv) ∧ T ∈ basicT ∧ z = .bool false) ∨ ((tyName d).bind fun n => (kitB n T).map PyData.bool) = some z := by
  unfold isiD at h
  split at h
  · rename_i x kv
    split at h
    · cases h
      exact .inl ⟨x, kv, rfl, by assumption, rfl⟩
    · cases h
  · exact .inr h
theorem e_isi {T : String} {y : Str} {e : Expr} {m : M D} {p py pos : Pos} (h : PE X e (tM c m)) (hm : X.mg "isinstance" = none) (hmT : X.mg y = none) (hvT : bootBuiltins y = some (.type T) := by decide +kernel) (hK : c.K = X.K := by rfl) (hg : Gl X "isinstance" := by rfl) (hgT : Gl X y := by rfl) (hnT : y ≠ "__name__" := by decide) (hdT : (y == ("__debug__" : Str)) = false := by decide)
    (hs1 : starEach [e, .Name y py] X.env = (false, eval e X.env) :: starEach [.Name y py] X.env := by rfl) (hs2 : starEach [.Name y py] X.env = (false, eval (.Name y py) X.env) :: starEach [] X.env := by rfl) (hpl : (backTo pos (starEach [.Name y py] X.env)).any (·.1) = false := by rfl) :
    PE X (.Call (.Name "isinstance" p) [e, .Name y py] [] pos) (tM c (una (isiD T) m)) :=
  pe_cq (pe_callB (callr_or call_isi call_isX) hg hm (by decide +kernel) (pa_cons h (pa_cons (pe_bltn (v := .ty T) hgT hmT hvT rfl hnT hdT) pa_nil hs2) hs1) (by decide) (by decide) hs1 hpl) fun st H Q ⟨pa, H0, F0, F, r, ok, po⟩ => seqM ok po fun d r1 F1 H1 v k1 e1 dp q => by
    obtain ⟨z, hz, q9⟩ := opt_po q
    rcases isiD_dict hz with ⟨x, kv, rfl, hT, rfl⟩ | hz
    · obtain ⟨nm, rfl⟩ := rp_dict1 dp
      obtain ⟨a, rfl, g1, g2⟩ := rp_exAt dp k1.fH
      refine .inr ⟨a, He.ga c.K nm, .ty T, .type T, false, rfl, g1, by rw [← hK]; exact g2.c, fun u ru => ru, by rw [← hK]; exact g2.t T hT, q9 F1 H1 _ k1 e1 (.bl _)⟩
    cases hn : tyName d with
    | none =>
      rw [hn] at hz
      cases hz
    | some n =>
      rw [hn] at hz
      have hz : (kitB n T).map PyData.bool = some z := hz
      cases hk : kitB n T with
      | none =>
        rw [hk] at hz
        cases hz
      | some b =>
        rw [hk] at hz
        cases hz
        exact .inl ⟨v, .ty T, .type n, .type T, b, rfl, .ty T, by rw [← hK]; exact ty_data dp k1.fH hn, kit_ty hk, q9 F1 H1 _ k1 e1 (.bl _)⟩
end
end Pu

namespace Pu
open PySem PySem.Spec PyProof.Rows L2
variable [TabT]
section
variable {X : Cx} {c : Cc}
theorem e_globI' {x : Str} {i : Int} {pos : Pos} (hm : ∃ t, X.mg x = some (.int i t)) (hg : Gl X x := by rfl) (hd : (x == ("__debug__" : Str)) = false := by decide) : PE X (.Name x pos) (tM c (M.ret (.int i))) := by
  obtain ⟨t, hm⟩ := hm
  exact e_globI hm hg hd
theorem e_globS' {x z : Str} {pos : Pos} (hm : ∃ t, X.mg x = some (.str z t)) (hg : Gl X x := by rfl) (hd : (x == ("__debug__" : Str)) = false := by decide) : PE X (.Name x pos) (tM c (M.ret (.str z))) := by
  obtain ⟨t, hm⟩ := hm
  exact e_globS hm hg hd

/-! ### a slice -/
def cutL (ds : List D) (lo hi : Option Int) : List D := (ds.drop (HT.sIx ds.length 0 lo)).take (HT.sIx ds.length ds.length hi - HT.sIx ds.length 0 lo)
def slD : D → Option Int → Option Int → Option D
  | .list ds, lo, hi => some (.list (cutL ds lo hi))
  | .tuple ds, lo, hi => some (.tuple (cutL ds lo hi))
  | .str z, lo, hi => if z.length ≤ 16777216 then some (.str (cutS z lo hi)) else none
  | _, _, _ => none
def pNone : M (Option Int) := M.ret none
def pSome (m : M D) : M (Option Int) := m.bind fun d => M.opt (match d with
  | .int i => some (some i)
  | _ => none)
def eSl (m : M D) (l u : M (Option Int)) : M D := m.bind fun d => l.bind fun a => u.bind fun b => M.opt (slD d a b)
def tPo (c : Cc) (m : M (Option Int)) : TO := fun st H Q => ∃ pa H0 F0 F r, Ok c.K pa H0 F0 F H st r ∧ Po (XW c pa H0 F0 F) (m r) fun o r' => ∀ F' H', Ok c.K pa H0 F0 F' H' st r' → Ex F F' → Q o H'
theorem seqP {α : Type} {pa : Nat → Addr} {H0 F0 F H : Hp} {st : L2.St} {r : En} {ma : M (Option Int)} {f : Option Int → M α} {k : α → En → Prop} {Q : Option Int → Hp → Prop} (ok : Ok c.K pa H0 F0 F H st r) (po : Po (XW c pa H0 F0 F) (ma.bind f r) k)
    (h : ∀ d r1 F1 H1, Ok c.K pa H0 F0 F1 H1 st r1 → Ex F F1 → Po (XW c pa H0 F0 F1) (f d r1) k → Q d H1) : tPo c ma st H Q :=
  ⟨pa, H0, F0, F, r, ok, (Po.bind po).mono (fun _ _ x => x) fun d r1 q F1 H1 k1 e1 => h d r1 F1 H1 k1 e1 (q.mono (XW.mono e1) fun _ _ x => x)⟩
theorem po_cq {e : Option Expr} {t t' : TO} (h : PO X e t) (i : ∀ st H Q, t' st H Q → t st H Q) : PO X e t' := ⟨fun pins s st H Q I q => h.run pins s st H Q I (i _ _ _ q)⟩
theorem p_none : PO X none (tPo c pNone) := po_cq po_none fun st H Q ⟨pa, H0, F0, F, r, ok, po⟩ => po F H ok (Ex.refl F)
theorem p_some {e : Expr} {m : M D} (h : PE X e (tM c m)) : PO X (some e) (tPo c (pSome m)) := po_cq (po_some h) fun st H Q ⟨pa, H0, F0, F, r, ok, po⟩ => seqM ok po fun d r1 F1 H1 v k1 e1 dp q => by
  obtain ⟨z, hz, q⟩ := opt_po q
  cases dp with
  | int i =>
    cases hz
    exact ⟨i, rfl, q F1 H1 k1 e1⟩
  | _ => cases hz
theorem slr_cq {r r' : V → Option Int → Option Int → Hp → VK → Prop} (h : SlR X r) (i : ∀ x lo hi H Q, r' x lo hi H Q → r x lo hi H Q) : SlR X r' := fun pins s st H x v vl vu lo hi sl Q I rx hs pl pu q => h pins s st H x v vl vu lo hi sl Q I rx hs pl pu (i x lo hi H Q q)
def rSlD (K : PySem.W.Frag) : V → Option Int → Option Int → Hp → VK → Prop := fun x lo hi H Q => ∃ F d z, Ex F H ∧ Rp K F x d ∧ slD d lo hi = some z ∧ ∀ v F' H', NewF F H F' H' → Rp K F' v z → Q v H'
theorem cut_dpa {K : PySem.W.Frag} {F : Hp} {vs : List V} {ds : List D} (h : RpAll K F vs ds) (lo hi : Option Int) : RpAll K F (cutV vs lo hi) (cutL ds lo hi) := by
  unfold cutV cutL
  rw [dpa_len h]
  exact dpa_take _ (dpa_drop _ h)
theorem sl_data (hK : c.K = X.K := by rfl) : SlR X (rSlD c.K) := slr_cq ((sl_list.or sl_tupA).or sl_str) fun x lo hi H Q ⟨F, d, z, fh, dx, hz, q⟩ => by
  cases dx with
  | @lst a vs ds g1 g2 =>
    cases hz
    refine .inl (.inl ⟨a, vs, rfl, by rw [← hK]; exact fh.l g1, fun p np => ?_⟩)
    have nF := fh.nn np
    exact q _ _ _ (.inr ⟨p, _, np, rfl, rfl⟩) (.lst (.inl (.inl upd_same)) (dpa_mono (Ex.new nF) (cut_dpa g2 lo hi)))
  | @tup a vs ds g1 g2 =>
    cases hz
    refine .inl (.inr ⟨a, vs, rfl, by rw [← hK]; exact fh.t g1, fun e => ?_, fun _ p np => ?_⟩)
    · have e2 : cutL ds lo hi = ds := by
        unfold cutL
        rw [← dpa_len g2, e.1, e.2, dpa_len g2]
        simp
      rw [e2] at q
      exact q _ F H (.inl ⟨rfl, rfl⟩) (.tup g1 g2)
    · have nF := fh.nn np
      exact q _ _ _ (.inr ⟨p, _, np, rfl, rfl⟩) (.tup upd_same (dpa_mono (Ex.new nF) (cut_dpa g2 lo hi)))
  | str s =>
    have hz : (if s.length ≤ 16777216 then some (PyData.str (cutS s lo hi)) else none) = some z := hz
    split at hz
    · cases hz
      exact .inr ⟨s, rfl, by rw [sizeLine_eq]; assumption, q _ F H (.inl ⟨rfl, rfl⟩) (.str _)⟩
    · cases hz
  | _ => cases hz
theorem e_sl {e : Expr} {lo hi : Option Expr} {m : M D} {l u : M (Option Int)} {p2 pos : Pos} (he : PE X e (tM c m)) (hl : PO X lo (tPo c l)) (hu : PO X hi (tPo c u)) (hK : c.K = X.K := by rfl) : PE X (.Subscript e (.Slice lo hi none p2) pos) (tM c (eSl m l u)) :=
  pe_cq (pe_slice (sl_data hK) he hl hu) fun st H Q ⟨pa, H0, F0, F, r, ok, po⟩ => seqM ok po fun d r1 F1 H1 v k1 e1 dp q1 => seqP k1 q1 fun a r2 F2 H2 k2 e2 q2 => seqP k2 q2 fun b r3 F3 H3 k3 e3 q3 => by
    obtain ⟨z, hz, q4⟩ := opt_po q3
    exact ⟨F3, d, z, k3.fH, dp_mono (e2.trans e3) dp, hz, op_end (r' := r3) k3 fun F' H' v ok ex dp => q4 F' H' v ok ((e1.trans (e2.trans e3)).trans ex) dp⟩

/-! ### t[::-1] -/
theorem adjust_rev (n : Nat) : Builtin.Slice.sliceAdjust none none (-1) (n : Int) = ((n : Int) - 1, -1) := by
  unfold Builtin.Slice.sliceAdjust
  rfl
theorem places_rev (n : Nat) : Builtin.Slice.slicePlaces ((n : Int) - 1) (-1) (-1) = n := by
  unfold Builtin.Slice.slicePlaces
  have h1 : ¬ ((-1 : Int) > 0) := by omega
  simp only [h1, if_false]
  rw [show (- -1 : Int) = 1 by decide, Int.ediv_one]
  split <;> omega
theorem pick_rev (xs : Array Value) : ((List.range xs.size).filterMap fun (k : Nat) => xs[((xs.size : Int) - 1 + (k : Int) * (-1)).toNat]?) = xs.toList.reverse := by
  have e : (fun (k : Nat) => xs[((xs.size : Int) - 1 + (k : Int) * (-1)).toNat]?) = (fun k => xs[k]?) ∘ (fun k => xs.size - 1 - k) := by
    funext k
    have e1 : ((xs.size : Int) - 1 + (k : Int) * (-1)).toNat = xs.size - 1 - k := by omega
    show xs[((xs.size : Int) - 1 + (k : Int) * (-1)).toNat]? = xs[xs.size - 1 - k]?
    rw [e1]
  rw [e, ← List.filterMap_map, PySem.W.krv_range, List.filterMap_reverse, PySem.W.krv_all]
section
variable {prog : Program} {w : World} {A : Around} {E : Value → Shared → Prop} {s : Shared}
theorem sliceApplied_rev {sl : Addr} {vs : Value} {n : Nat} {Q : Int × Int × Nat → Shared → Prop} (hs : s.heap.IsSliceOf sl .none .none vs) (ps : IsPart vs (some (-1)))
    (h : Q ((n : Int) - 1, -1, n) s) : wpAny (model prog w) A (Builtin.Slice.sliceApplied (.ref sl) (pure (n : Int))) Q E s := by
  obtain ⟨os, hos, hcs, hds⟩ := id hs
  unfold Builtin.Slice.sliceApplied Builtin.Slice.sliceFields
  refine wpAny_bind (wpAny_bind (wpAny_field hos hds (x := .none) rfl (wpAny_bind (wpAny_field hos hds (x := .none) rfl (wpAny_bind (wpAny_field hos hds (x := vs) rfl (wpAny_pure ?_)))))))
  refine wpAny_bind (HT.slicePart_ ps ?_)
  show wpAny _ _ (if ((-1 : Int) == 0) = true then _ else _) _ _ s
  rw [if_neg (by decide)]
  refine wpAny_bind (HT.slicePart_ .none (wpAny_bind (HT.slicePart_ .none (wpAny_bind (wpAny_pure ?_)))))
  show wpAny _ _ (match Builtin.Slice.sliceAdjust none none (-1) (n : Int) with | (lo, hi) => pure (lo, (-1 : Int), Builtin.Slice.slicePlaces lo hi (-1))) _ _ s
  rw [adjust_rev]
  show wpAny _ _ (pure ((n : Int) - 1, (-1 : Int), Builtin.Slice.slicePlaces ((n : Int) - 1) (-1) (-1))) _ _ s
  rw [places_rev]
  exact wpAny_pure h
theorem getItem_tuple_rev {t sl : Addr} {items : Array Value} {vs : Value} {Q : Value → Shared → Prop} (ht : IsTup s.heap t items) (hs : s.heap.IsSliceOf sl .none .none vs) (ps : IsPart vs (some (-1)))
    (h : Q (.ref s.heap.objs.size) { s with heap := s.heap.push { cls := .type "tuple", data := .seq items.toList.reverse.toArray } }) (hsz : items.size ≤ sizeLine) : wpAny (model prog w) A (getItem (.ref t) (.ref sl)) Q E s := by
  have htake : sizeOk (.seq items.toList.reverse.toArray) := by
    show items.toList.reverse.toArray.size ≤ sizeLine
    rw [List.size_toArray, List.length_reverse, Array.length_toList]
    exact hsz
  obtain ⟨os, hos, hcs, hds⟩ := id hs
  have hTs : s.TypeIs (.ref sl) "slice" := ⟨os, hos, hcs⟩
  unfold getItem
  try with_reducible refine wpAny_holding ?_
  first | refine wpAny_bind (wpAny_pure ?_) | skip
  refine wpAny_bind (wpAny_sequenceKey ht.typeIs (by decide) ?_)
  refine wpAny_bind (wpAny_callSpecial?_slot (name := Str.ofString "__getitem__") ht.typeIs PyProof.Rows.slot_tuple_getitem
    (wpAny_call_entry PyProof.Rows.slot_tuple_getitem ht.typeIs entry_tuple_getitem ?_ (args_tuple_getitem _ _)))
  show wpAny _ _ (Builtin.Tuple.tupleItemsOf (.ref t) >>= _) _ _ s
  refine wpAny_bind (tupleItemsOf_ ht ?_)
  refine wpAny_bind (wpAny_typeOf hTs ?_)
  rw [if_pos (by decide)]
  refine wpAny_bind (sliceApplied_rev hs ps ?_)
  have hno : ¬ ((((items.size : Int) - 1) == 0 && (-1 : Int) == 1 && items.size == items.size) = true) := by
    intro q
    rw [Bool.and_eq_true, Bool.and_eq_true] at q
    exact absurd q.1.2 (by decide)
  show wpAny _ _ (if ((((items.size : Int) - 1) == 0 && (-1 : Int) == 1 && items.size == items.size) = true) then _ else _) _ _ s
  rw [if_neg hno, pick_rev]
  first
    | exact wpAny_bind (m := Builtin.Tuple.tupleExact _) (wpAny_newObj_type (wpAny_pure ⟨_, rfl, wpAny_pure h⟩) htake)
    | exact wpAny_bind (m := Builtin.Tuple.tupleExact _) (wpAny_newObj_type (wpAny_bind (wpAny_pure (wpAny_pure ⟨_, rfl, wpAny_pure h⟩))) htake)
    | exact wpAny_bind (wpAny_bind (m := Builtin.Tuple.tupleExact _) (wpAny_newObj_type (wpAny_pure (wpAny_pure ⟨_, rfl, wpAny_pure h⟩)) htake))
    | exact wpAny_bind (wpAny_bind (m := Builtin.Tuple.tupleExact _) (wpAny_newObj_type (wpAny_pure ⟨_, rfl, wpAny_pure h⟩) htake))
end
def tRevT (K : PySem.W.Frag) (te : TE) : TE := fun st H Q => te st H fun x H1 => ∃ a xs, x = .ref a ∧ SqT K H1 a xs ∧ ∀ p, H1 p = none → Q (.ref p) (upd H1 p (.tup xs.reverse))
theorem pe_revT {e : Expr} {te : TE} {k : Nat} {p1 p2 p3 pos : Pos} (he : PE X e te) : PE X (.Subscript e (.Slice none none (some (.UnaryOp .USub (.Constant (.int 1) k p1) p2)) p3) pos) (tRevT X.K te) := by
  refine ⟨fun pins s st H Q I h => ?_⟩
  refine Subscript_ (thn (he.run pins s st H _ I h) fun v s1 ⟨x, H1, I1, r1, q1⟩ => ?_)
  obtain ⟨a, xs, ex, hx, q⟩ := q1
  subst ex
  cases r1
  have hst : PO X (some (.UnaryOp .USub (.Constant (.int 1) k p1) p2)) (tPart (tUn (rU fun i => .int (-i)) (tC (.int 1)))) := po_some (pe_un un_neg pe_int)
  refine wpAny_Slice ?_
  rw [evalPart_none]
  refine wpAny_pure ?_
  refine wpAny_pure ?_
  refine thn (hst.run pins s1 st H1 (fun o H4 => o = some (-1) ∧ H4 = H1) I1 ⟨1, rfl, -1, rfl, rfl, rfl⟩) fun vs s4 ⟨o, H4, I4, ps, eo, e4⟩ => ?_
  subst eo e4
  have I5 : Inv X pins st H4 { s4 with heap := s4.heap.push { cls := .type "slice", data := .fields #[.none, .none, vs] } } := I4.kept (t' := s4.toks) fun b ob q => Heap.get?_push_of_some _ q
  obtain ⟨its, r, ht, hz⟩ := I5.tuple hx
  have hlen := r.length
  show wpAny (model X.prog X.w) X.A (subscriptTail e (.Slice none none (some (.UnaryOp .USub (.Constant (.int 1) k p1) p2)) p3) (.ref a) (.ref s4.heap.objs.size)) (EP X pins st Q) X.xe { s4 with heap := s4.heap.push { cls := .type "slice", data := .fields #[.none, .none, vs] } }
  refine tail_any (ops := [.ref a, .ref s4.heap.objs.size]) ht.typeIs (PyProof.Rows.slot_tuple_getitem.lookup) ?_ (by with_unfolding_all rfl)
  refine getItem_tuple_rev ht (Heap.IsSliceOf.new _ .none .none vs) ps ?_ (by rw [List.size_toArray]; omega)
  refine ⟨.ref _, _, I5.laid (t' := s4.toks) (o := .tup xs.reverse) (fun b ob q => Heap.get?_push_of_some _ q) (Nat.le_refl _) ?_, rfl, q _ (I5.hok.fresh (Nat.le_refl _))⟩
  exact ⟨by rw [List.length_reverse]; exact hz, _, r.reverse, IsTup.new _ _⟩
def revD : D → Option D
  | .list ds => some (.list ds.reverse)
  | .tuple ds => some (.tuple ds.reverse)
  | _ => none
theorem e_rev {e : Expr} {m : M D} {k : Nat} {p1 p2 p3 pos : Pos} (he : PE X e (tM c m)) (hK : c.K = X.K := by rfl) : PE X (.Subscript e (.Slice none none (some (.UnaryOp .USub (.Constant (.int 1) k p1) p2)) p3) pos) (tM c (una revD m)) :=
  pe_cq (pe_or' (pe_revL he) (pe_revT he)) fun st H Q ⟨pa, H0, F0, F, r, ok, po⟩ => by
  cases hm : m r with
  | no =>
    unfold una M.bind at po
    rw [hm] at po
    exact po.elim
  | ex e1 r1 =>
    unfold una M.bind at po
    rw [hm] at po
    refine .inl ⟨pa, H0, F0, F, r, ok, ?_⟩
    rw [hm]
    exact po
  | ok d r1 =>
    unfold una M.bind at po
    rw [hm] at po
    obtain ⟨z, hz, q⟩ := opt_po po
    cases d with
    | list ds =>
      cases hz
      refine .inl ⟨pa, H0, F0, F, r, ok, ?_⟩
      rw [hm]
      intro F1 H1 v k1 e1 dp
      cases dp with
      | @lst a vs _ g1 g2 =>
        refine ⟨a, vs, rfl, by rw [← hK]; exact k1.fH.l g1, fun p np => ?_⟩
        have nF := k1.fH.nn np
        exact q _ _ _ (k1.layF np) (e1.trans (Ex.new nF)) (.lst (.inl (.inl upd_same)) (dpa_mono (Ex.new nF) (dpa_rev g2)))
    | tuple ds =>
      cases hz
      refine .inr ⟨pa, H0, F0, F, r, ok, ?_⟩
      rw [hm]
      intro F1 H1 v k1 e1 dp
      cases dp with
      | @tup a vs _ g1 g2 =>
        refine ⟨a, vs, rfl, by rw [← hK]; exact k1.fH.t g1, fun p np => ?_⟩
        have nF := k1.fH.nn np
        exact q _ _ _ (k1.layF np) (e1.trans (Ex.new nF)) (.tup upd_same (dpa_mono (Ex.new nF) (dpa_rev g2)))
    | _ => cases hz

/-! ### a < b < c -/
theorem chain_ok {g g2 : D → D → Option D} {ma mb mc : M D} {st : L2.St} {H : Hp} {Q : VK} (h : tM c (eChain g g2 ma mb mc) st H Q) : tChain (rD2 c.K g) (rD2 c.K g2) (tM c ma) (tM c mb) (tM c mc) st H Q := by
  obtain ⟨pa, H0, F0, F, r, ok, po⟩ := h
  unfold eChain at po
  refine seqM ok po fun d r1 F1 H1 v k1 e1 dp q => seqM k1 q fun d2 r2 F2 H2 v2 k2 e2 dp2 q2 => ?_
  obtain ⟨z, hz, q3⟩ := opt_po (Po.bind q2)
  refine ⟨F2, d, d2, z, k2.fH, dp_mono e2 dp, dp2, hz, fun w F3 H3 nf rz => ?_⟩
  obtain ⟨k3, e3⟩ := nf.ok k2
  cases z with
  | bool b =>
    cases rz
    cases b with
    | true =>
      refine ⟨true, rfl, ?_⟩
      rw [if_pos rfl]
      have q3 : Po _ (mc.bind (fun z => M.opt (g2 d2 z)) r2) _ := q3
      refine seqM k3 (q3.mono (XW.mono e3) fun _ _ x => x) fun d3 r4 F4 H4 v4 k4 e4 dp4 q4 => ?_
      obtain ⟨z2, hz2, q5⟩ := opt_po q4
      exact ⟨F4, d2, d3, z2, k4.fH, dp_mono (e3.trans e4) dp2, dp4, hz2, op_end (r' := r4) k4 fun F' H' v ok ex dp => q5 F' H' v ok ((e1.trans (e2.trans (e3.trans e4))).trans ex) dp⟩
    | false =>
      refine ⟨false, rfl, ?_⟩
      rw [if_neg Bool.false_ne_true]
      exact q3 F3 H3 _ k3 (e1.trans (e2.trans e3)) (.bl _)
  | _ => exact q3.elim
theorem e_chain {op op' : CmpOp} {g g2 : D → D → Option D} {a b d : Expr} {ma mb mc : M D} {pos : Pos} (ho : OpR X (compareOp op) (rD2 c.K g)) (ho' : OpR X (compareOp op') (rD2 c.K g2)) (ha : PE X a (tM c ma)) (hb : PE X b (tM c mb)) (hd : PE X d (tM c mc))
    (hm : lastMarks [op, op'] [b, d] = false := by with_unfolding_all rfl) : PE X (.Compare a [op, op'] [b, d] pos) (tM c (eChain g g2 ma mb mc)) := pe_cq (pe_chain ho ho' ha hb hd hm) fun _ _ _ h => chain_ok h
theorem t_chain {op op' : CmpOp} {g g2 : D → D → Option D} {a b d : Expr} {ma mb mc : M D} {pos : Pos} (ho : OpR X (compareOp op) (rD2 c.K g)) (ho' : OpR X (compareOp op') (rD2 c.K g2)) (ha : PE X a (tM c ma)) (hb : PE X b (tM c mb)) (hd : PE X d (tM c mc))
    (hm : lastMarks [op, op'] [b, d] = false := by with_unfolding_all rfl) : PT X (.Compare a [op, op'] [b, d] pos) (tT c (tBool (eChain g g2 ma mb mc))) := pt_cq (pt_chain ho ho' ha hb hd hm) fun st H Q h => by
    obtain ⟨pa, H0, F0, F, r, ok, po⟩ := h
    refine chain_ok ?_
    refine seqM ok po fun d r1 F1 H1 v k1 e1 dp q => ?_
    obtain ⟨b, hb, q⟩ := opt_po q
    cases dp with
    | bl b' =>
      cases hb
      exact ⟨_, rfl, q F1 H1 k1 e1⟩
    | _ => cases hb
/-! ### is None, is True -/
def isD : D → D → Option D
  | .bool a, .bool b => some (.bool (decide (a = b)))
  | .none, .none => some (.bool true)
  | _, .none => some (.bool false)
  | _, _ => none
def isntD : D → D → Option D
  | .bool a, .bool b => some (.bool (!decide (a = b)))
  | .none, .none => some (.bool false)
  | _, .none => some (.bool true)
  | _, _ => none
theorem is_data : OpR X (compareOp .Is) (rD2 c.K isD) := opr_cq (op_isN.or op_isBl) fun x y H Q ⟨F, d, e, z, fh, dx, dy, hz, q⟩ => by
  cases dy with
  | non =>
    cases dx <;> (cases hz; exact .inl ⟨rfl, q _ F H (.inl ⟨rfl, rfl⟩) (.bl _)⟩)
  | bl b =>
    cases dx with
    | bl a =>
      cases hz
      exact .inr ⟨a, b, rfl, rfl, q _ F H (.inl ⟨rfl, rfl⟩) (.bl _)⟩
    | _ => cases hz
  | _ => cases dx <;> cases hz
theorem isnt_data : OpR X (compareOp .IsNot) (rD2 c.K isntD) := opr_cq (op_notN.or op_notBl) fun x y H Q ⟨F, d, e, z, fh, dx, dy, hz, q⟩ => by
  cases dy with
  | non =>
    cases dx <;> (cases hz; exact .inl ⟨rfl, q _ F H (.inl ⟨rfl, rfl⟩) (.bl _)⟩)
  | bl b =>
    cases dx with
    | bl a =>
      cases hz
      exact .inr ⟨a, b, rfl, rfl, q _ F H (.inl ⟨rfl, rfl⟩) (.bl _)⟩
    | _ => cases hz
  | _ => cases dx <;> cases hz
/-! ### not of a value -/
def eNotT (m : M D) : M D := (tTru m).bind fun b => M.ret (.bool (!b))
theorem tru_v {K : PySem.W.Frag} {F H : Hp} {v : V} {d : D} {b : Bool} (dp : Rp K F v d) (fh : Ex F H) (hb : tru d = some b) : TruV K v H b := by
  cases dp with
  | non => cases hb; rfl
  | bl b' => cases hb; rfl
  | int i => cases hb; rfl
  | str x =>
    have hb : (if x.length ≤ 16777216 then some ((x.length : Int) != 0) else none) = some b := hb
    by_cases hx : x.length ≤ 16777216
    · rw [if_pos hx] at hb
      cases hb
      exact ⟨by rw [sizeLine_eq]; exact hx, rfl⟩
    · rw [if_neg hx] at hb
      cases hb
  | lst h1 h2 =>
    cases hb
    exact .inl ⟨_, fh.l h1, dpa_emp h2⟩
  | tup h1 h2 =>
    cases hb
    exact .inr (.inl ⟨_, fh.t h1, dpa_emp h2⟩)
  | _ => cases hb
theorem seqTru {α : Type} {pa : Nat → Addr} {H0 F0 F H : Hp} {st : L2.St} {r : En} {ma : M D} {f : Bool → M α} {k : α → En → Prop} {Q : VK} (ok : Ok c.K pa H0 F0 F H st r) (po : Po (XW c pa H0 F0 F) ((tTru ma).bind f r) k)
    (h : ∀ v b r1 F1 H1, TruV c.K v H1 b → Ok c.K pa H0 F0 F1 H1 st r1 → Ex F F1 → Po (XW c pa H0 F0 F1) (f b r1) k → Q v H1) : tM c ma st H Q := by
  have po2 : Po (XW c pa H0 F0 F) (ma.bind (fun d => (M.opt (tru d)).bind f) r) k := by
    unfold tTru M.bind at po
    unfold M.bind
    cases hm : ma r with
    | ok d r1 =>
      rw [hm] at po
      exact po
    | ex e r1 =>
      rw [hm] at po
      exact po
    | no =>
      rw [hm] at po
      exact po
  refine seqM ok po2 fun d r1 F1 H1 v k1 e1 dp q => ?_
  obtain ⟨b, hb, q⟩ := opt_po (Po.bind q)
  exact h v b r1 F1 H1 (tru_v dp k1.fH hb) k1 e1 q
theorem e_notT {e : Expr} {m : M D} {pos : Pos} (h : PE X e (tM c m)) (hK : c.K = X.K := by rfl) : PE X (.UnaryOp .Not e pos) (tM c (eNotT m)) :=
  pe_cq (pe_notT h) fun st H Q ⟨pa, H0, F0, F, r, ok, po⟩ => seqTru ok po fun v b r1 F1 H1 tv k1 e1 q => ⟨b, by rw [← hK]; exact tv, q F1 H1 _ k1 e1 (.bl _)⟩
end
end Pu

namespace Pu
open PySem PySem.Spec PyProof.Rows L2
variable [TabT]
section
variable {X : Cx} {c : Cc}
/-! ### repr -/
noncomputable def reprD : D → Option D
  | .none => some (.str "None")
  | .bool b => some (.str (if b then "True" else "False"))
  | .str x => cI ((reprText x).length ≤ 16777216) (some (.str (reprText x))) none
  | .dict [] => some (.str (PyData.dict []).shown)
  | .int i => cI (i.natAbs.log2 < 1920) (some (.str (toString i))) none
  | .list ds => cI ((PyData.list ds).showable = true ∧ SeqAt.shaped (.list ds) = true ∧ (PyData.list ds).shown.length ≤ 16777216) (some (.str (PyData.list ds).shown)) none
  | .tuple ds => cI ((PyData.tuple ds).showable = true ∧ SeqAt.shaped (.tuple ds) = true ∧ (PyData.tuple ds).shown.length ≤ 16777216) (some (.str (PyData.tuple ds).shown)) none
  | _ => none
theorem call_reprD (hg : X.A.guards = some []) (hu : X.A.units + 150 < cLine) : CallR X (.builtin "repr") (fun xs H Q => ∃ a d, xs = [.ref a] ∧ Dp X.K H (.ref a) d ∧ d.showable = true ∧ SeqAt.shaped d = true ∧ d.shown.length ≤ sizeLine ∧ Q (.str d.shown) H) := by
  intro pins s st H xs us Q I rv h
  obtain ⟨a, d, rfl, hd, h1, h2, h3, q⟩ := h
  obtain ⟨u, rfl, ru⟩ := vals1 rv
  obtain ⟨as, rd⟩ := Dp.reads I d _ _ hd ru
  cases ru
  have hdp := SeqAt.depth_of_shaped h2
  exact PySem.repr_of_reads' rd h1 (PyData.noDict_hsm (PyData.hasDict_of_canLay d (SeqAt.canLay_of_shaped h2))) hg (by omega) (fun _ _ e => e) (fun h' t tk k => ⟨.str _, H, I.kept k, ⟨_, rfl⟩, q⟩) h3
theorem call_repr_sc : CallR X (.builtin "repr") (fun xs H Q => (xs = [.non] ∧ Q (.str "None") H) ∨ (∃ b : Bool, xs = [.bl b] ∧ Q (.str (if b then "True" else "False")) H) ∨ ∃ x : Str, xs = [.str x] ∧ (reprText x).length ≤ sizeLine ∧ Q (.str (reprText x)) H) := by
  intro pins s st H xs us Q I rv h
  rcases h with ⟨rfl, q⟩ | ⟨b, rfl, q⟩ | ⟨x, rfl, hz, q⟩
  · obtain ⟨u, rfl, ru⟩ := vals1 rv
    cases (show u = Value.none from ru)
    exact PySem.P.repr_of_none ⟨.str _, H, I.tok _, ⟨_, rfl⟩, q⟩
  · obtain ⟨u, rfl, ru⟩ := vals1 rv
    cases (show u = Value.bool b from ru)
    exact PySem.P.repr_of_bool ⟨.str _, H, I.tok _, ⟨_, rfl⟩, q⟩
  · obtain ⟨u, rfl, t, rfl⟩ := vals1 rv
    exact PySem.P.repr_of_str ⟨.str _, H, I.tok _, ⟨_, rfl⟩, q⟩ hz
theorem call_repr_emp (hg : X.A.guards = some []) (hu : X.A.units + 150 < cLine) : CallR X (.builtin "repr") (fun xs H Q => ∃ a, xs = [.ref a] ∧ H a = some (.dK []) ∧ Q (.str (PyData.dict []).shown) H) := by
  intro pins s st H xs us Q I rv h
  obtain ⟨a, rfl, ha, q⟩ := h
  obtain ⟨u, rfl, ru⟩ := vals1 rv
  cases (show u = Value.ref a from ru)
  obtain ⟨_, hs, vs, hkv, o, es, ep, ho, hex, hd, _, hpr, _⟩ := (show ObjOk X.prog X.w H s.heap a (.dK []) from I.hok a _ ha)
  cases hkv
  have he : es.toList = [] := by
    have := hpr.length
    simpa using this
  have rd : Reads s.heap (.ref a) (.dict []) ([a] ++ [] ++ []) := Reads.dict (kvs := []) ho hex.1 hd (by rw [he]; exact ReadsAll.nil) (by rw [he]; exact ReadsAll.nil)
  exact PySem.repr_of_reads' rd (by decide) (fun _ hm => by
    have : sysModules = a := by simpa using hm
    rw [← this] at hs
    simp at hs) hg (by
    have : (PyData.dict []).depth ≤ 2 := by decide
    omega) (fun _ _ e => e) (fun h' t tk k => ⟨.str _, H, I.kept k, ⟨_, rfl⟩, q⟩) (by decide +kernel)
theorem repr_data {k : Nat} (hr : Rm k X.A) (hK : c.K = X.K := by rfl) : CallR X (.builtin "repr") (rDA c.K (one reprD)) := callr_cq (callr_or (callr_or SkE.call_repr_int (call_reprD hr.gd hr.u150)) (callr_or call_repr_sc (call_repr_emp hr.gd hr.u150))) fun xs H Q ⟨F, ds, z, fh, dx, hz, q⟩ => by
  obtain ⟨d, rfl, hz⟩ := one_some hz
  cases dx with
  | cons h0 h1 =>
    cases h1
    cases h0 with
    | non =>
      cases hz
      exact .inr (.inl (.inl ⟨rfl, q _ F H (.inl ⟨rfl, rfl⟩) (.str _)⟩))
    | bl b =>
      cases hz
      exact .inr (.inl (.inr (.inl ⟨b, rfl, q _ F H (.inl ⟨rfl, rfl⟩) (.str _)⟩)))
    | str x =>
      have hz : (if (reprText x).length ≤ 16777216 then some (PyData.str (reprText x)) else none) = some z := by
        rw [← cI_eq]
        exact hz
      split at hz
      · cases hz
        exact .inr (.inl (.inr (.inr ⟨x, rfl, by rw [sizeLine_eq]; assumption, q _ F H (.inl ⟨rfl, rfl⟩) (.str _)⟩)))
      · cases hz
    | emp g =>
      cases hz
      exact .inr (.inr ⟨_, rfl, fh.at_ _ _ g (fun ps z => nomatch z), q _ F H (.inl ⟨rfl, rfl⟩) (.str _)⟩)
    | int i =>
      have hz : (if i.natAbs.log2 < 1920 then some (PyData.str (toString i)) else none) = some z := by
        rw [← cI_eq]
        exact hz
      split at hz
      · cases hz
        exact .inl (.inl ⟨i, rfl, by assumption, q _ F H (.inl ⟨rfl, rfl⟩) (.str _)⟩)
      · cases hz
    | @lst a vs ds g1 g2 =>
      have hz : (if (PyData.list ds).showable = true ∧ SeqAt.shaped (.list ds) = true ∧ (PyData.list ds).shown.length ≤ 16777216 then some (.str (PyData.list ds).shown) else none) = some z := by
        rw [← cI_eq]
        exact hz
      split at hz
      · rename_i hc
        cases hz
        exact .inl (.inr ⟨a, _, rfl, by rw [← hK]; exact rp_dp (dp_mono fh (.lst g1 g2)) hc.2.1, hc.1, hc.2.1, by rw [sizeLine_eq]; exact hc.2.2, q _ F H (.inl ⟨rfl, rfl⟩) (.str _)⟩)
      · cases hz
    | @tup a vs ds g1 g2 =>
      have hz : (if (PyData.tuple ds).showable = true ∧ SeqAt.shaped (.tuple ds) = true ∧ (PyData.tuple ds).shown.length ≤ 16777216 then some (.str (PyData.tuple ds).shown) else none) = some z := by
        rw [← cI_eq]
        exact hz
      split at hz
      · rename_i hc
        cases hz
        exact .inl (.inr ⟨a, _, rfl, by rw [← hK]; exact rp_dp (dp_mono fh (.tup g1 g2)) hc.2.1, hc.1, hc.2.1, by rw [sizeLine_eq]; exact hc.2.2, q _ F H (.inl ⟨rfl, rfl⟩) (.str _)⟩)
      · cases hz
    | _ => cases hz
/-! ### f(..).append(..): what was told is changed and dropped -/
theorem Ok.mutX {K : PySem.W.Frag} {pa : Nat → Addr} {H0 F0 F H : Hp} {st : L2.St} {r : En} (k : Ok K pa H0 F0 F H st r) {a : Addr} {o : HO} (nF : F a = none) (n0 : H0 a = none) (no : ∀ (i : Nat) (s : Sl) (c' : Ct), r[i]? = some s → s.own = some c' → st[i]? ≠ some (some (.ref a))) (tb : LamX.Tabs (TabT.T K) (upd H a o)) : Ok K pa H0 F0 F (upd H a o) st r := by
  refine ⟨k.hH.mut n0, k.fF, k.fH.mut nF, k.sep, k.len, fun j q hq n => ?_, tb, k.dis⟩
  obtain ⟨v, w1, w2⟩ := k.sl j q hq n
  refine ⟨v, w1, ?_⟩
  cases q with
  | unk => trivial
  | v d => exact w2
  | o c1 =>
    obtain ⟨b, y1, y2, y3, y4⟩ := w2
    have nb : b ≠ a := fun z => no j _ c1 hq rfl (by rw [w1, y1, z])
    exact ⟨b, y1, y2, y3, y4.mono (Ex.refl F) (upd_ne nb)⟩
  | io c1 =>
    obtain ⟨y1, y2, y3, y4⟩ := w2
    have nb : pa j ≠ a := fun z => no j _ c1 hq rfl (by rw [w1, y1, z])
    exact ⟨y1, y2, y3, y4.mono (Ex.refl F) (upd_ne nb)⟩
/-- an argument that only lays new objects -/
def Lays (t : TE) : Prop := ∀ st H Q, (∀ v H', (∀ b o, H b = some o → H' b = some o) → Q v H') → t st H Q
def LaysA (t : TA) : Prop := ∀ st H Q, (∀ vs : List V, vs.length ≤ 100 → Q vs H) → t st H Q
theorem lays_nil : LaysA tNil := fun st H Q h => h [] (by decide)
def sAppX (m : M RV) : M Fl := m.bind fun rv => match rv with
  | .o (.l ds) => if ds.length < 16777216 then M.ret .nx else M.no
  | _ => M.no
theorem s_appX {o e : Expr} {m : M RV} {t : TE} {apos cpos pos : Pos} (ho : PE X o (tO c m)) (he : PE X e t) (ht : Lays t) (hs1 : starEach [e] X.env = [(false, eval e X.env)] := by rfl) (hbase : attributeBase o "append" X.env (eval o X.env) = eval o X.env := by rfl)
    (hfew : ((backTo cpos (starEach [e] X.env)).all (fun x => !x.1) && (backToKw cpos (keywordEach [] X.env)).all (fun x => x.1.isSome) && decide (([e] : List Expr).length + ([] : List Keyword).length + (if ([] : List Keyword).isEmpty then 0 else 1) < 30)) = true := by rfl)
    (hline : (apos.endLine == cpos.line) = true := by rfl) (hplain : (backTo cpos (starEach [] X.env)).any (·.1) = false := by rfl) (hsw : swapsWith (.Call (.Attribute o "append" apos) [e] [] cpos) none pos.line X.env = pure false := by rfl) :
    PS X (.Expr (.Call (.Attribute o "append" apos) [e] [] cpos) pos) (sM c (sAppX m)) :=
  ps_cq (ps_expr (pe_bm PySem.F.plainAttrs_list PySem.F.slot_list_append PySem.F.type_list_append mt_append ho (pa_cons he pa_nil hs1) hbase hfew hline hs1 hplain) hsw) fun Dd st H ⟨pa, H0, F0, F, r, ok, po⟩ => seqO ok po fun rv r1 F1 H1 v k1 e1 dp q => by
    cases rv with
    | v d => exact q.elim
    | o ct =>
      cases ct with
      | t kvs => exact q.elim
      | d kvs => exact q.elim
      | l ds =>
        obtain ⟨a, rfl, z1, z2, ⟨vs, z3, z4⟩, z5⟩ := dp
        refine ⟨.inl ⟨rfl, vs, .inl (.inl z3)⟩, ht st H1 _ fun y H2 eS => ?_⟩
        simp only at q
        split at q
        · rename_i hl
          have eH : Ex H1 H2 := .of eS
          have k2 : Ok c.K pa H0 F0 F1 H2 st r1 := k1.grow eH (Ex.refl F1) (k1.fH.trans eH) (fun _ h _ => h) (k1.tb.ext eS)
          refine ⟨a, vs, y, rfl, rfl, eS a _ z3, by rw [dpa_len z4, sizeLine_eq]; exact hl, ?_⟩
          exact q F1 _ st (k2.mutX z1 z2 z5 (tabs_lst k2.tb (eS a _ z3))) e1
        · exact q.elim
theorem lays_int {i : Int} : Lays (tC (.int i)) := fun st H Q h => h _ H fun _ _ e => e
theorem lays_tup2 {i j : Int} : Lays (tTup (tCons (tC (.int i)) (tCons (tC (.int j)) tNil))) := fun st H Q h => ⟨show 2 ≤ sizeLine by decide, fun p np => h _ _ fun b o e => by rw [upd_ne (ne_of_none e np)]; exact e⟩
/-! ### a new list from + and * -/
def binO (g : D → D → Option RV) (ma mb : M D) : M RV := ma.bind fun x => mb.bind fun y => M.opt (g x y)
def addO : D → D → Option RV
  | .list xs, .list ys => szC (xs.length + ys.length) (.o (.l (xs ++ ys)))
  | d, e => (addD d e).map .v
theorem o_add {a b : Expr} {ma mb : M D} {pos : Pos} (ha : PE X a (tM c ma)) (hb : PE X b (tM c mb)) (hK : c.K = X.K := by rfl) : PE X (.BinOp a .Add b pos) (tO c (binO addO ma mb)) :=
  pe_cq (pe_op ((add_data (c := c) hK).or op_catR) ha hb) fun st H Q ⟨pa, H0, F0, F, r, ok, po⟩ => seqM ok po fun d r1 F1 H1 v k1 e1 dp q => seqM k1 q fun d2 r2 F2 H2 v2 k2 e2 dp2 q2 => by
    obtain ⟨z, hz, q3⟩ := opt_po q2
    have dp := dp_mono e2 dp
    have old : ∀ w, addD d d2 = some w → z = .v w → (rD2 c.K addD v v2 H2 Q) := fun w hw e => by
      subst e
      exact ⟨F2, d, d2, w, k2.fH, dp, dp2, hw, fun u F' H' n dpu => by
        obtain ⟨k3, e3⟩ := n.ok k2
        exact q3 F' H' u k3 ((e1.trans e2).trans e3) dpu⟩
    have gen : (addD d d2).map RV.v = some z → (rD2 c.K addD v v2 H2 Q) := fun h => by
      cases hw : addD d d2 with
      | none =>
        rw [hw] at h
        cases h
      | some w =>
        rw [hw] at h
        cases h
        exact old w hw rfl
    cases dp with
    | @lst a1 vs ds g1 g2 =>
      cases dp2 with
      | @lst a2 ws es g3 g4 =>
        have hz : szC (ds.length + es.length) (RV.o (.l (ds ++ es))) = some z := hz
        unfold szC at hz
        split at hz
        · rename_i hl
          cases hz
          refine .inr ⟨a1, a2, vs, ws, rfl, rfl, by rw [← hK]; exact k2.fH.l g1, by rw [← hK]; exact k2.fH.l g3, by rw [dpa_len g2, dpa_len g4, sizeLine_eq]; exact hl, fun p np => ?_⟩
          exact q3 F2 _ _ (k2.lay np) (e1.trans e2) ⟨p, rfl, k2.fH.nn np, k2.hH.nn np, ⟨_, upd_same, dpa_app g2 g4⟩, k2.nobody np⟩
        · cases hz
      | _ => exact .inl (gen hz)
    | _ => exact .inl (gen hz)
noncomputable def mulO : D → D → Option RV
  | .list xs, .int k => cI ((-(2 ^ 63) ≤ k ∧ k < 2 ^ 63) ∧ xs.length * k.toNat ≤ 16777216) (some (.o (.l (List.replicate k.toNat xs).flatten))) none
  | _, _ => none
theorem o_mul {a b : Expr} {ma mb : M D} {pos : Pos} (ha : PE X a (tM c ma)) (hb : PE X b (tM c mb)) (hK : c.K = X.K := by rfl) : PE X (.BinOp a .Mult b pos) (tO c (binO mulO ma mb)) :=
  pe_cq (pe_op op_repR ha hb) fun st H Q ⟨pa, H0, F0, F, r, ok, po⟩ => seqM ok po fun d r1 F1 H1 v k1 e1 dp q => seqM k1 q fun d2 r2 F2 H2 v2 k2 e2 dp2 q2 => by
    obtain ⟨z, hz, q3⟩ := opt_po q2
    have dp := dp_mono e2 dp
    cases dp with
    | @lst a1 vs ds g1 g2 =>
      cases dp2 with
      | int k =>
        have hz : (if (-(2 ^ 63) ≤ k ∧ k < 2 ^ 63) ∧ ds.length * k.toNat ≤ 16777216 then some (RV.o (.l (List.replicate k.toNat ds).flatten)) else none) = some z := by
          rw [← cI_eq]
          exact hz
        split at hz
        · rename_i hl
          cases hz
          refine ⟨a1, k, vs, rfl, rfl, by rw [← hK]; exact k2.fH.l g1, hl.1.1, hl.1.2, by rw [dpa_len g2, sizeLine_eq]; exact hl.2, fun p np => ?_⟩
          exact q3 F2 _ _ (k2.lay np) (e1.trans e2) ⟨p, rfl, k2.fH.nn np, k2.hH.nn np, ⟨_, upd_same, dpa_rep g2 _⟩, k2.nobody np⟩
        · cases hz
      | _ => cases hz
    | _ => cases hz
end
end Pu

namespace Pu
open PySem PySem.Spec PyProof.Rows L2
variable [TabT]
section
variable {X : Cx} {c : Cc}
/-- x = [..], x not changed later -/
theorem s_setLcV {i : Nat} {y : Str} {py : Pos} {elt tg iter : Expr} {ifs : List Expr} {scope : Scope} {own : List (Str × Nat)} {pos spos : Pos} {src : M (List D)} {js : List Nat} {t : Tg} {tt : M Bool} {te : M D} (hi : PI X tg iter (iM c src)) (ok : BlkOk X.N X.env.scope scope own)
    (hg : ∀ (s : Shared) (H : Hp) (C : Addr) (cl : List (Str × Addr)) (fp : List Addr), PG (X.blk s H scope (compEnvC scope cl C X.env) fp) tg (gM c.K js t)) (ht : ∀ (s : Shared) (H : Hp) (C : Addr) (cl : List (Str × Addr)) (fp : List Addr), PTs (X.blk s H scope (compEnvC scope cl C X.env) fp) ifs (tT c.nox tt))
    (he : ∀ (s : Shared) (H : Hp) (C : Addr) (cl : List (Str × Addr)) (fp : List Addr), PE (X.blk s H scope (compEnvC scope cl C X.env) fp) elt (tM c.nox te)) (hN : X.N.Nodup) (hjs : ∀ j ∈ js, j ∈ own.map (·.2) := by decide) (hc : X.calm = true := by rfl) (hy : X.N[i]? = some y := by rfl) (hyl : X.env.scope.names.lookup y = some .local := by rfl)
    (hsw : swapsWith (.ListComp elt [⟨tg, iter, ifs, 0⟩] scope pos) (some (.Name y py)) spos.line X.env = pure true := by exact sw_true rfl rfl rfl (by decide +kernel)) (hs : ∀ x, foldedSetIterable iter X.env x = pure x := by intro _; rfl) :
    PS X (.Assign [.Name y py] (.ListComp elt [⟨tg, iter, ifs, 0⟩] scope pos) spos) (sM c (sSet i (frzM (oComp src (own.map (·.2)) t tt te)))) :=
  ps_cq (ps_setLc hc hN hy hyl hsw hi ok hg ht he hs) fun Dd st H ⟨pa, H0, F0, F, r, okk, po⟩ => lc_ok hjs ⟨pa, H0, F0, F, r, okk, (Po.bind (Po.bind po)).mono (fun _ _ x => x) fun rv r1 q F1 H1 v k1 e1 dp => by
    cases rv with
    | v d =>
      obtain ⟨q, hi⟩ := setM_po q
      exact q F1 H1 _ (k1.setV hi dp) e1
    | o ct =>
      cases ct with
      | l ds =>
        obtain ⟨a, rfl, z1, z2, ⟨vs, z3, z4⟩, z5⟩ := dp
        have k2 := k1.frz z3 z2 z5 z1
        obtain ⟨q, hi⟩ := setM_po q
        exact q _ H1 _ (k2.setV hi (.lst (.inl (.inl upd_same)) (dpa_mono (Ex.new z1) z4))) (e1.trans (Ex.new z1))
      | t kvs => exact q.elim
      | d kvs => exact q.elim⟩
/-! ### an own list compared -/
def eqD0 (d e : D) : Option D := if SeqAt.shaped d = true ∧ SeqAt.shaped e = true then some (.bool (PyData.eqv d e)) else none
def eqS (i : Nat) (mb : M D) : M D := fun r => match getC i r with
  | some (.l _) => (mb r).bind fun d r => match getC i r with
    | some (.l ds) => M.opt (eqD0 (.list ds) d) r
    | _ => .no
  | some (.d _) => .no
  | some (.t _) => .no
  | none => bin eqD (getS i) mb r
theorem eqS_ok {i : Nat} {x : Str} {mb : M D} {st : L2.St} {H : Hp} {Q : VK} (hK : c.K = X.K) (h : tM c (eqS i mb) st H Q) : (tOp (rEqD X.K) (tVar i) (tM c mb) st H Q) ∨ (tOp (rD2 c.K eqD) (tM c (getS i)) (tM c mb) st H Q) := by
  obtain ⟨pa, H0, F0, F, r, ok, po⟩ := h
  unfold eqS at po
  split at po
  · rename_i ds0 hg
    obtain ⟨s0, hs0, hso0⟩ := getC_some hg
    obtain ⟨a, hst, _⟩ := ok.ownd hs0 hso0
    refine .inl ⟨_, hst, pa, H0, F0, F, r, ok, (Po.bind po).mono (fun _ _ x => x) fun d r1 q F1 H1 v k1 e1 dp => ?_⟩
    split at q
    · rename_i ds hg1
      obtain ⟨s1, hs1, hso1⟩ := getC_some hg1
      obtain ⟨a1, hst1, nF1, n01, vs, hH1, hr1⟩ := k1.ownd hs1 hso1
      rw [hst] at hst1
      cases hst1
      obtain ⟨z, hz, q2⟩ := opt_po q
      have hz : (if SeqAt.shaped (.list ds) = true ∧ SeqAt.shaped d = true then some (PyData.bool (PyData.eqv (.list ds) d)) else none) = some z := by
        cases d <;> exact hz
      split at hz
      · rename_i hm
        cases hz
        exact ⟨_, d, by rw [← hK]; exact rp_dp (.lst (.inl (.inl hH1)) (dpa_mono k1.fH hr1)) hm.1, by rw [← hK]; exact rp_dp (dp_mono k1.fH dp) hm.2, hm.1, hm.2, q2 F1 H1 _ k1 e1 (.bl _)⟩
      · cases hz
    · exact q.elim
  · exact po.elim
  · exact po.elim
  · exact .inr (bin_ok ⟨pa, H0, F0, F, r, ok, po⟩)
theorem e_eqS (i : Nat) {x : Str} {b : Expr} {mb : M D} {px pos : Pos} (hb : PE X b (tM c mb)) (hu : X.A.units + 64 < cLine) (hK : c.K = X.K := by rfl) (hm : behindInMarks .Eq b = false := by first | exact nomark _ | rfl) (hN : X.N[i]? = some x := by rfl) (hv : Vis X.env.scope x := by first | exact Or.inl rfl | exact Or.inr (Or.inl rfl) | exact Or.inr (Or.inr rfl)) (hd : (x == ("__debug__" : Str)) = false := by decide)
    (hcd : (x == ("__classdict__" : Str)) = false := by decide) : PE X (.Compare (.Name x px) [.Eq] [b] pos) (tM c (eqS i mb)) :=
  pe_cq (pe_or' (pe_cmpR (op_eqD hu) (pe_var (i := i) hN hv hd hcd) hb hm) (pe_cmpR (eq_data hu hK) (e_var i hN hv hd hcd) hb hm)) fun st H Q h => eqS_ok (x := x) hK h
theorem pt_or' {e : Expr} {t t' : TT} (h : PT X e t) (h' : PT X e t') : PT X e (fun st H Q => t st H Q ∨ t' st H Q) := ⟨fun pins s st H Q I q => q.elim (h.run pins s st H Q I) (h'.run pins s st H Q I)⟩
theorem t_eqS (i : Nat) {x : Str} {b : Expr} {mb : M D} {px pos : Pos} (hb : PE X b (tM c mb)) (hu : X.A.units + 64 < cLine) (hK : c.K = X.K := by rfl) (hm : behindInMarks .Eq b = false := by first | exact nomark _ | rfl) (hN : X.N[i]? = some x := by rfl) (hv : Vis X.env.scope x := by first | exact Or.inl rfl | exact Or.inr (Or.inl rfl) | exact Or.inr (Or.inr rfl)) (hd : (x == ("__debug__" : Str)) = false := by decide)
    (hcd : (x == ("__classdict__" : Str)) = false := by decide) : PT X (.Compare (.Name x px) [.Eq] [b] pos) (tT c (tBool (eqS i mb))) :=
  pt_cq (pt_or' (pt_cmpR (op_eqD hu) (pe_var (i := i) hN hv hd hcd) hb hm) (pt_cmpR (eq_data hu hK) (e_var i hN hv hd hcd) hb hm)) fun st H Q h => by
    obtain ⟨pa, H0, F0, F, r, ok, po⟩ := h
    refine eqS_ok (x := x) hK ?_
    refine seqM ok po fun d r1 F1 H1 v k1 e1 dp q => ?_
    obtain ⟨b, hb, q⟩ := opt_po q
    cases dp with
    | bl b' =>
      cases hb
      exact ⟨_, rfl, q F1 H1 k1 e1⟩
    | _ => cases hb
def neS (i : Nat) (mb : M D) : M D := fun r => match getC i r with
  | some (.l _) => (mb r).bind fun d r => match getC i r with
    | some (.l ds) => M.opt (neD (.list ds) d) r
    | _ => .no
  | some (.d _) => .no
  | some (.t _) => .no
  | none => bin neD (getS i) mb r
theorem neS_ok {i : Nat} {x : Str} {mb : M D} {st : L2.St} {H : Hp} {Q : VK} (hK : c.K = X.K) (h : tM c (neS i mb) st H Q) : (tOp (rNeD X.K) (tVar i) (tM c mb) st H Q) ∨ (tOp (rD2 c.K neD) (tM c (getS i)) (tM c mb) st H Q) := by
  obtain ⟨pa, H0, F0, F, r, ok, po⟩ := h
  unfold neS at po
  split at po
  · rename_i ds0 hg
    obtain ⟨s0, hs0, hso0⟩ := getC_some hg
    obtain ⟨a, hst, _⟩ := ok.ownd hs0 hso0
    refine .inl ⟨_, hst, pa, H0, F0, F, r, ok, (Po.bind po).mono (fun _ _ x => x) fun d r1 q F1 H1 v k1 e1 dp => ?_⟩
    split at q
    · rename_i ds hg1
      obtain ⟨s1, hs1, hso1⟩ := getC_some hg1
      obtain ⟨a1, hst1, nF1, n01, vs, hH1, hr1⟩ := k1.ownd hs1 hso1
      rw [hst] at hst1
      cases hst1
      obtain ⟨z, hz, q2⟩ := opt_po q
      have hz : (if SeqAt.shaped (.list ds) = true ∧ SeqAt.shaped d = true then some (PyData.bool (!PyData.eqv (.list ds) d)) else none) = some z := by
        cases d <;> exact hz
      split at hz
      · rename_i hm
        cases hz
        exact ⟨_, d, by rw [← hK]; exact rp_dp (.lst (.inl (.inl hH1)) (dpa_mono k1.fH hr1)) hm.1, by rw [← hK]; exact rp_dp (dp_mono k1.fH dp) hm.2, hm.1, hm.2, q2 F1 H1 _ k1 e1 (.bl _)⟩
      · cases hz
    · exact q.elim
  · exact po.elim
  · exact po.elim
  · exact .inr (bin_ok ⟨pa, H0, F0, F, r, ok, po⟩)
theorem e_neS (i : Nat) {x : Str} {b : Expr} {mb : M D} {px pos : Pos} (hb : PE X b (tM c mb)) (hu : X.A.units + 64 < cLine) (hK : c.K = X.K := by rfl) (hm : behindInMarks .NotEq b = false := by first | exact nomark _ | rfl) (hN : X.N[i]? = some x := by rfl) (hv : Vis X.env.scope x := by first | exact Or.inl rfl | exact Or.inr (Or.inl rfl) | exact Or.inr (Or.inr rfl)) (hd : (x == ("__debug__" : Str)) = false := by decide)
    (hcd : (x == ("__classdict__" : Str)) = false := by decide) : PE X (.Compare (.Name x px) [.NotEq] [b] pos) (tM c (neS i mb)) :=
  pe_cq (pe_or' (pe_cmpR (op_neD hu) (pe_var (i := i) hN hv hd hcd) hb hm) (pe_cmpR (ne_data hu hK) (e_var i hN hv hd hcd) hb hm)) fun st H Q h => neS_ok (x := x) hK h
theorem t_neS (i : Nat) {x : Str} {b : Expr} {mb : M D} {px pos : Pos} (hb : PE X b (tM c mb)) (hu : X.A.units + 64 < cLine) (hK : c.K = X.K := by rfl) (hm : behindInMarks .NotEq b = false := by first | exact nomark _ | rfl) (hN : X.N[i]? = some x := by rfl) (hv : Vis X.env.scope x := by first | exact Or.inl rfl | exact Or.inr (Or.inl rfl) | exact Or.inr (Or.inr rfl)) (hd : (x == ("__debug__" : Str)) = false := by decide)
    (hcd : (x == ("__classdict__" : Str)) = false := by decide) : PT X (.Compare (.Name x px) [.NotEq] [b] pos) (tT c (tBool (neS i mb))) :=
  pt_cq (pt_or' (pt_cmpR (op_neD hu) (pe_var (i := i) hN hv hd hcd) hb hm) (pt_cmpR (ne_data hu hK) (e_var i hN hv hd hcd) hb hm)) fun st H Q h => by
    obtain ⟨pa, H0, F0, F, r, ok, po⟩ := h
    refine neS_ok (x := x) hK ?_
    refine seqM ok po fun d r1 F1 H1 v k1 e1 dp q => ?_
    obtain ⟨b, hb, q⟩ := opt_po q
    cases dp with
    | bl b' =>
      cases hb
      exact ⟨_, rfl, q F1 H1 k1 e1⟩
    | _ => cases hb
/-! ### a statement that is never come to -/
def sNever : M Fl := fun _ => .no
theorem s_never {s : Stmt} : PS X s (sM c sNever) := ⟨fun pins sh st H Dd I ⟨_, _, _, _, _, _, po⟩ => po.elim⟩
/-! ### a call without arguments -/
def cCall0 (f : List Sl → Re RV) : M RV := cCall f aNil
theorem o_call0 {k n : Nat} {x : Str} {f : List Sl → Re RV} {p pos : Pos} (G : Fn X.prog X.w X.K X.mg X.base k x 0 f) (hr : Rm k X.A) (tk : Takes X c.W) (hK : c.K = X.K := by rfl) (hM : c.mg = X.mg := by rfl) (hg : Gl X x := by rfl) (hdb : (x == ("__debug__" : Str)) = false := by decide) :
    PE X (.Call (.Name x p) [] [] pos) (tO c (cCall0 f)) := by
  obtain ⟨a, fd, ps, g1, g2, g3, g4⟩ := G.ex
  refine pe_cq (pe_callG0 (Ew := fun st cls d H' => c.W cls d st H') g4 hr hg g1 g2 g3 (fun σ => passAt tk σ) hdb) fun st H Q ⟨pa, H0, F0, F, r, ok, po⟩ => ?_
  rw [← hK, ← hM]
  exact callV rfl ok .nil (Ex.refl F) po
end
end Pu

namespace Pu
open PySem PySem.Spec PyProof.Rows L2
variable [TabT]
section
variable {X : Cx} {c : Cc}
/-! ### {} -/
theorem e_dict0 {pos : Pos} : PE X (.Dict [] [] pos) (tM c (M.ret (.dict []))) :=
  pe_cq pe_dnewK fun st H Q ⟨pa, H0, F0, F, r, ok, po⟩ p np =>
    po _ _ _ (ok.layF np) (Ex.new (ok.fH.nn np)) (.emp upd_same)
def oDict0 : M RV := M.ret (.o (.d []))
theorem o_dict0 {pos : Pos} : PE X (.Dict [] [] pos) (tO c oDict0) :=
  pe_cq pe_dnewK fun st H Q ⟨pa, H0, F0, F, r, ok, po⟩ p np =>
    po F _ _ (ok.lay np) (Ex.refl F) ⟨p, rfl, ok.fH.nn np, ok.hH.nn np, ⟨[], upd_same, .nil⟩, ok.nobody np⟩
/-! ### bool, str -/
def boolD : D → Option D
  | .int i => some (.bool (i != 0))
  | .bool b => some (.bool b)
  | _ => none
theorem bool_data : CallR X (.type "bool") (rDA c.K (one boolD)) := callr_cq call_bool1 fun xs H Q ⟨F, ds, z, fh, dx, hz, q⟩ => by
  obtain ⟨d, rfl, hz⟩ := one_some hz
  cases dx with
  | cons h0 h1 =>
    cases h1
    cases h0 with
    | int i =>
      cases hz
      exact .inl ⟨i, rfl, q _ F H (.inl ⟨rfl, rfl⟩) (.bl _)⟩
    | bl b =>
      cases hz
      exact .inr ⟨b, rfl, q _ F H (.inl ⟨rfl, rfl⟩) (.bl _)⟩
    | _ => cases hz
noncomputable def strD : D → Option D
  | .int i => cI (i.natAbs.log2 < 1920) (some (.str (toString i))) none
  | .str x => some (.str x)
  | .list ds => cI ((PyData.list ds).showable = true ∧ SeqAt.shaped (.list ds) = true ∧ (PyData.list ds).shown.length ≤ 16777216) (some (.str (PyData.list ds).shown)) none
  | .tuple ds => cI ((PyData.tuple ds).showable = true ∧ SeqAt.shaped (.tuple ds) = true ∧ (PyData.tuple ds).shown.length ≤ 16777216) (some (.str (PyData.tuple ds).shown)) none
  | _ => none
theorem call_strD (hg : X.A.guards = some []) (hu : X.A.units + 150 < cLine) : CallR X (.type "str") (fun xs H Q => ∃ a d, xs = [.ref a] ∧ Dp X.K H (.ref a) d ∧ d.showable = true ∧ SeqAt.shaped d = true ∧ d.shown.length ≤ sizeLine ∧ Q (.str d.shown) H) := by
  intro pins s st H xs us Q I rv h
  obtain ⟨a, d, rfl, hd, h1, h2, h3, q⟩ := h
  obtain ⟨u, rfl, ru⟩ := vals1 rv
  obtain ⟨as, rd⟩ := Dp.reads I d _ _ hd ru
  cases ru
  have hdp := SeqAt.depth_of_shaped h2
  exact PySem.str_of_reads rd h1 (PyData.noDict_hsm (PyData.hasDict_of_canLay d (SeqAt.canLay_of_shaped h2))) hg (by omega) (fun _ _ e => e) (fun h' t tk k => ⟨.str _, H, I.kept k, ⟨_, rfl⟩, q⟩) h3
theorem str_data {k : Nat} (hr : Rm k X.A) (hK : c.K = X.K := by rfl) : CallR X (.type "str") (rDA c.K (one strD)) := callr_cq (callr_or call_str_int (callr_or SkE.call_str_str (call_strD hr.gd hr.u150))) fun xs H Q ⟨F, ds, z, fh, dx, hz, q⟩ => by
  obtain ⟨d, rfl, hz⟩ := one_some hz
  cases dx with
  | cons h0 h1 =>
    cases h1
    cases h0 with
    | int i =>
      have hz : (if i.natAbs.log2 < 1920 then some (PyData.str (toString i)) else none) = some z := by
        rw [← cI_eq]
        exact hz
      split at hz
      · cases hz
        exact .inl ⟨i, rfl, by assumption, q _ F H (.inl ⟨rfl, rfl⟩) (.str _)⟩
      · cases hz
    | str x =>
      cases hz
      exact .inr (.inl ⟨x, rfl, q _ F H (.inl ⟨rfl, rfl⟩) (.str _)⟩)
    | @lst a vs ds g1 g2 =>
      have hz : (if (PyData.list ds).showable = true ∧ SeqAt.shaped (.list ds) = true ∧ (PyData.list ds).shown.length ≤ 16777216 then some (.str (PyData.list ds).shown) else none) = some z := by
        rw [← cI_eq]
        exact hz
      split at hz
      · rename_i hc
        cases hz
        exact .inr (.inr ⟨a, _, rfl, by rw [← hK]; exact rp_dp (dp_mono fh (.lst g1 g2)) hc.2.1, hc.1, hc.2.1, by rw [sizeLine_eq]; exact hc.2.2, q _ F H (.inl ⟨rfl, rfl⟩) (.str _)⟩)
      · cases hz
    | @tup a vs ds g1 g2 =>
      have hz : (if (PyData.tuple ds).showable = true ∧ SeqAt.shaped (.tuple ds) = true ∧ (PyData.tuple ds).shown.length ≤ 16777216 then some (.str (PyData.tuple ds).shown) else none) = some z := by
        rw [← cI_eq]
        exact hz
      split at hz
      · rename_i hc
        cases hz
        exact .inr (.inr ⟨a, _, rfl, by rw [← hK]; exact rp_dp (dp_mono fh (.tup g1 g2)) hc.2.1, hc.1, hc.2.1, by rw [sizeLine_eq]; exact hc.2.2, q _ F H (.inl ⟨rfl, rfl⟩) (.str _)⟩)
      · cases hz
    | _ => cases hz
/-! ### in, not in a list of data -/
noncomputable def inD : D → D → Option D
  | d, .list ds => cI (SeqAt.shaped d = true ∧ SeqAt.shaped (.list ds) = true) (some (.bool (ds.any fun z => PyData.eqv z d))) none
  | _, _ => none
noncomputable def ninD : D → D → Option D
  | d, .list ds => cI (SeqAt.shaped d = true ∧ SeqAt.shaped (.list ds) = true) (some (.bool (!ds.any fun z => PyData.eqv z d))) none
  | _, _ => none
theorem in_data (hu : X.A.units + 65 < cLine) (hK : c.K = X.K := by rfl) : OpR X (compareOp .In) (rD2 c.K inD) := opr_cq (op_inD hu) fun x y H Q ⟨F, d, e, z, fh, dx, dy, hz, q⟩ => by
  cases dy with
  | @lst a vs ds g1 g2 =>
    have hz : (if SeqAt.shaped d = true ∧ SeqAt.shaped (.list ds) = true then some (PyData.bool (ds.any fun z => PyData.eqv z d)) else none) = some z := by
      rw [← cI_eq]
      exact hz
    split at hz
    · rename_i hm
      cases hz
      exact ⟨d, ds, by rw [← hK]; exact rp_dp (dp_mono fh dx) hm.1, by rw [← hK]; exact rp_dp (dp_mono fh (.lst g1 g2)) hm.2, hm.1, hm.2, q _ F H (.inl ⟨rfl, rfl⟩) (.bl _)⟩
    · cases hz
  | _ => cases hz
theorem nin_data (hu : X.A.units + 65 < cLine) (hK : c.K = X.K := by rfl) : OpR X (compareOp .NotIn) (rD2 c.K ninD) := opr_cq (op_notInD hu) fun x y H Q ⟨F, d, e, z, fh, dx, dy, hz, q⟩ => by
  cases dy with
  | @lst a vs ds g1 g2 =>
    have hz : (if SeqAt.shaped d = true ∧ SeqAt.shaped (.list ds) = true then some (PyData.bool (!ds.any fun z => PyData.eqv z d)) else none) = some z := by
      rw [← cI_eq]
      exact hz
    split at hz
    · rename_i hm
      cases hz
      exact ⟨d, ds, by rw [← hK]; exact rp_dp (dp_mono fh dx) hm.1, by rw [← hK]; exact rp_dp (dp_mono fh (.lst g1 g2)) hm.2, hm.1, hm.2, q _ F H (.inl ⟨rfl, rfl⟩) (.bl _)⟩
    · cases hz
  | _ => cases hz
/-! ### l.index(x) -/
noncomputable def indexD : D → D → Option D
  | .list ds, d => cI (SeqAt.shaped d = true ∧ SeqAt.shaped (.list ds) = true) ((ds.findIdx? fun z => PyData.eqv z d).map fun j => .int (j : Nat)) none
  | _, _ => none
noncomputable def eIndex (mo me : M D) : M D := mo.bind fun d => match d with
  | .list ds => me.bind fun b => M.opt (indexD (.list ds) b)
  | _ => M.no
theorem e_index {k : Nat} {o e : Expr} {mo me : M D} {apos cpos : Pos} (ho : PE X o (tM c mo)) (he : PE X e (tM c me)) (hr : Rm k X.A) (hK : c.K = X.K := by rfl) (hs1 : starEach [e] X.env = [(false, eval e X.env)] := by rfl)
    (hbase : attributeBase o "index" X.env (eval o X.env) = eval o X.env := by rfl)
    (hfew : ((backTo cpos (starEach [e] X.env)).all (fun x => !x.1) && (backToKw cpos (keywordEach [] X.env)).all (fun x => x.1.isSome) && decide (([e] : List Expr).length + ([] : List Keyword).length + (if ([] : List Keyword).isEmpty then 0 else 1) < 30)) = true := by rfl)
    (hline : (apos.endLine == cpos.line) = true := by rfl) (hplain : (backTo cpos (starEach [] X.env)).any (·.1) = false := by rfl) :
    PE X (.Call (.Attribute o "index" apos) [e] [] cpos) (tM c (eIndex mo me)) :=
  pe_cq (pe_bm PySem.F.plainAttrs_list PySem.F.slot_list_index PySem.F.type_list_index (mt_indexD hr.in65) ho (pa_cons he pa_nil hs1) hbase hfew hline hs1 hplain) fun st H Q ⟨pa, H0, F0, F, r, ok, po⟩ => seqM ok po fun d r1 F1 H1 v k1 e1 dp q => by
    cases dp with
    | @lst a vs ds g1 g2 =>
      have q := Po.bind (show Po _ ((me.bind fun b => M.opt (indexD (.list ds) b)) r1) _ from q)
      refine ⟨.inl ⟨rfl, vs, by rw [← hK]; exact k1.fH.l g1⟩, pa, H0, F0, F1, r1, k1, q.mono (fun _ _ x => x) fun b r2 q F2 H2 w k2 e2 dq => ?_⟩
      obtain ⟨z, hz, q2⟩ := opt_po q
      have hz : (if SeqAt.shaped b = true ∧ SeqAt.shaped (.list ds) = true then ((ds.findIdx? fun z => PyData.eqv z b).map fun j => PyData.int (j : Nat)) else none) = some z := by
        rw [← cI_eq]
        exact hz
      split at hz
      · rename_i hm
        cases hf : ds.findIdx? fun z => PyData.eqv z b with
        | none =>
          rw [hf] at hz
          cases hz
        | some j =>
          rw [hf] at hz
          cases hz
          obtain ⟨hj, h1, h2⟩ := List.findIdx?_eq_some_iff_getElem.mp hf
          refine ⟨a, w, b, ds, j, ds[j], rfl, rfl, by rw [← hK]; exact rp_dp (dp_mono (e2.trans k2.fH) (.lst g1 g2)) hm.2, by rw [← hK]; exact rp_dp (dp_mono k2.fH dq) hm.1, hm.2, hm.1, List.getElem?_eq_getElem hj, h1, ?_, q2 F2 H2 _ k2 (e1.trans e2) (.int _)⟩
          intro m z' hm' hz'
          have := h2 m hm'
          rw [List.getElem?_eq_getElem (by omega)] at hz'
          cases hz'
          simpa using this
      · cases hz
    | _ => exact (show False from q).elim
/-! ### l.pop(i) -/
noncomputable def popD (ds : List D) : D → Option (D × List D)
  | .int n => cI (0 ≤ n ∧ n < 2 ^ 63) ((ds[n.toNat]?).map fun y => (y, ds.eraseIdx n.toNat)) none
  | _ => none
noncomputable def ePop (i : Nat) (m : M D) : M D := fun r => match getC i r with
  | some (.l _) => (m r).bind fun d r => match getC i r with
    | some (.l ds) => (match popD ds d with
      | some p => .ok p.1 (putC i (.l p.2) r)
      | none => .no)
    | _ => .no
  | _ => .no
theorem e_pop (i : Nat) {x : Str} {e : Expr} {m : M D} {px apos cpos : Pos} (h : PE X e (tM c m)) (hK : c.K = X.K := by rfl) (hN : X.N[i]? = some x := by rfl) (hv : Vis X.env.scope x := by first | exact Or.inl rfl | exact Or.inr (Or.inl rfl) | exact Or.inr (Or.inr rfl)) (hd : (x == ("__debug__" : Str)) = false := by decide)
    (hcd : (x == ("__classdict__" : Str)) = false := by decide) (hs1 : starEach [e] X.env = [(false, eval e X.env)] := by rfl)
    (hbase : attributeBase (.Name x px) "pop" X.env (eval (.Name x px) X.env) = eval (.Name x px) X.env := by rfl)
    (hfew : ((backTo cpos (starEach [e] X.env)).all (fun x => !x.1) && (backToKw cpos (keywordEach [] X.env)).all (fun x => x.1.isSome) && decide (([e] : List Expr).length + ([] : List Keyword).length + (if ([] : List Keyword).isEmpty then 0 else 1) < 30)) = true := by rfl)
    (hline : (apos.endLine == cpos.line) = true := by rfl) (hplain : (backTo cpos (starEach [] X.env)).any (·.1) = false := by rfl) :
    PE X (.Call (.Attribute (.Name x px) "pop" apos) [e] [] cpos) (tM c (ePop i m)) :=
  pe_cq (pe_bm PySem.F.plainAttrs_list PySem.F.slot_list_pop PySem.F.type_list_pop mt_popAt (pe_var (i := i) hN hv hd hcd) (pa_cons h pa_nil hs1) hbase hfew hline hs1 hplain) fun st H Q ⟨pa, H0, F0, F, r, ok, po⟩ => by
    unfold ePop at po
    split at po
    · rename_i ds0 hg
      obtain ⟨s0, hs0, hso0⟩ := getC_some hg
      obtain ⟨a, hst, nF, n0, vs0, hH0, hr0⟩ := ok.ownd hs0 hso0
      refine ⟨_, hst, .inl ⟨rfl, vs0, .inl (.inl hH0)⟩, ?_⟩
      refine ⟨pa, H0, F0, F, r, ok, (Po.bind po).mono (fun _ _ x => x) fun d r1 q F1 H1 v k1 e1 dp => ?_⟩
      split at q
      · rename_i ds hg1
        obtain ⟨s1, hs1, hso1⟩ := getC_some hg1
        obtain ⟨a1, hst1, nF1, n01, vs, hH1, hr1⟩ := k1.ownd hs1 hso1
        rw [hst] at hst1
        cases hst1
        cases dp with
        | int n =>
          have ez : popD ds (.int n) = if 0 ≤ n ∧ n < 2 ^ 63 then ((ds[n.toNat]?).map fun y => (y, ds.eraseIdx n.toNat)) else none := by
            rw [← cI_eq]
            rfl
          rw [ez] at q
          by_cases hn : 0 ≤ n ∧ n < 2 ^ 63
          · rw [if_pos hn] at q
            cases hy : ds[n.toNat]? with
            | none =>
              rw [hy] at q
              exact q.elim
            | some y =>
              rw [hy] at q
              obtain ⟨w, g1, g2⟩ := dpa_get hr1 hy
              have hlt : n.toNat < vs.length := (List.getElem?_eq_some_iff.mp g1).1
              refine ⟨a, vs, n, n.toNat, w, rfl, rfl, hH1, by omega, hn.2, ?_, g1, ?_⟩
              · unfold seqIndex?
                have hneg : ¬ n < 0 := by omega
                have hin : (decide (0 ≤ n) && decide (n < (vs.length : Int))) = true := by
                  rw [Bool.and_eq_true, decide_eq_true_eq, decide_eq_true_eq]
                  omega
                simp only [hneg, if_false, hin, if_true]
              · exact q F1 _ _ (k1.putC hg1 hst ⟨_, upd_same, dpa_erase _ hr1⟩) e1 g2
          · rw [if_neg hn] at q
            exact q.elim
        | _ => exact q.elim
      · exact q.elim
    · exact po.elim
end
end Pu

namespace Pu
open PySem PySem.Spec PyProof.Rows L2
variable [TabT]
/-! ### a dict of the module: text keys, whole numbers -/
def Tabl (K : PySem.W.Frag) (w : World) (mg : Str → Option Value) (x : Str) (kvs : List (Str × Int)) : Prop := ∃ d es n, mg x = some (.ref d) ∧ KDict K w d es n ∧ ∀ z, ∃ r, PySem.W.nsIn K d z = some r ∧ (match kvs.find? fun p => decide (p.1 = z) with
  | none => r = none
  | some p => ∃ t, r = some (.int p.2 t))
def tabGet (kvs : List (Str × Int)) (z : Str) (d : D) : D := match kvs.find? fun p => decide (p.1 = z) with
  | none => d
  | some p => .int p.2
def eTab (kvs : List (Str × Int)) (mk md : M D) : M D := mk.bind fun k => md.bind fun d => match k with
  | .str z => M.ret (tabGet kvs z d)
  | _ => M.no
section
variable {X : Cx} {c : Cc}
def tGetKD (K : PySem.W.Frag) (d : Addr) (ty tx : TE) : TE := fun σ H Q => ty σ H fun y H2 => tx σ H2 fun z H3 => ∃ k r, y = .str k ∧ PySem.W.nsIn K d k = some r ∧ (match r with
  | none => Q z H3
  | some u => ∃ v0, RelV v0 u ∧ Q v0 H3)
theorem pe_getKD {d : Addr} {es : Array DictEntry} {n : Nat} (Dd : KDict X.K X.w d es n) {x : Str} {px apos cpos : Pos} {e f : Expr} {ty tx : TE} (hm : X.mg x = some (.ref d)) (hg : Gl X x) (hdb : (x == ("__debug__" : Str)) = false) (he : PE X e ty) (hf : PE X f tx) (m : M2 X (.Name x px) "get" apos e f cpos) :
    PE X (.Call (.Attribute (.Name x px) "get" apos) [e, f] [] cpos) (tGetKD X.K d ty tx) := by
  have ho : PE X (.Name x px) (tC (.ref d)) := pe_glob (v := .ref d) hg hm rfl hdb
  refine ⟨fun pins s σ H Q I h => ?_⟩
  refine wpAny_Call_method m.base m.few m.line PySem.F.plainAttrs_dict PySem.F.slot_dict_get PySem.F.type_dict_get (thn (ho.run pins s σ H (fun v H' => v = .ref d ∧ H' = H) I ⟨rfl, rfl⟩) fun u s1 ⟨x, H1, I1, rx, ex, eH⟩ => ?_)
  subst ex eH
  obtain rfl : u = Value.ref d := rx
  refine ⟨kd_type Dd I1, fun b e => ?_, ?_⟩
  · cases e
    exact ⟨_, I1.kIn _ _ Dd.at_, rfl⟩
  rw [m.trees]
  refine Calls.callWith_builtin rfl (Calls.evalArgs_plain (Calls.spliced_cons (thn (he.run pins s1 σ H1 _ I1 h) fun iv s2 ⟨y, H2, I2, ry, q2⟩ =>
    Calls.spliced_cons (thn (hf.run pins s2 σ H2 _ I2 q2) fun fv s3 ⟨z, H3, I3, rz, k, r, ek, er, q3⟩ => Calls.spliced_nil ?_))))
  subst ek
  obtain ⟨t, rfl⟩ := ry
  refine call_meetsIn PySem.F.slot_dict_get (kd_type Dd I3) PySem.F.entry_dict_get (PySem.F.args_dict_get_3 _ _ _) (meets_dict_get_default (PySem.strKind X.prog X.w) d (PySem.strKind_is X.prog X.w k t) Dd.low fv) ⟨_, PySem.W.mapOf_K (prog := X.prog) I3.kIn Dd.at_ Dd.lit, ?_⟩
  rw [PySem.W.find_K Dd.at_ er]
  cases r with
  | none => exact ⟨z, H3, I3.tok _, rz, q3⟩
  | some u =>
    obtain ⟨v0, rv, q4⟩ := q3
    exact ⟨v0, H3, I3.tok _, rv, q4⟩
theorem e_tab {x : Str} {kvs : List (Str × Int)} {px apos cpos : Pos} {e f : Expr} {mk md : M D} (T : Tabl X.K X.w X.mg x kvs) (he : PE X e (tM c mk)) (hf : PE X f (tM c md)) (hg : Gl X x := by rfl) (hdb : (x == ("__debug__" : Str)) = false := by decide) (m : M2 X (.Name x px) "get" apos e f cpos := by exact ⟨rfl, rfl, rfl, rfl⟩) :
    PE X (.Call (.Attribute (.Name x px) "get" apos) [e, f] [] cpos) (tM c (eTab kvs mk md)) := by
  obtain ⟨d, es, n, hm, Dd, hv⟩ := T
  refine pe_cq (pe_getKD Dd hm hg hdb he hf m) fun st H Q ⟨pa, H0, F0, F, r, ok, po⟩ => seqM ok po fun k r1 F1 H1 v k1 e1 dp q => seqM k1 q fun z r2 F2 H2 v2 k2 e2 dp2 q2 => ?_
  cases dp with
  | str z =>
    obtain ⟨u, hu, hr⟩ := hv z
    refine ⟨z, u, rfl, hu, ?_⟩
    have q2 : ∀ F' H' v, Ok c.K pa H0 F0 F' H' st r2 → Ex F F' → Rp c.K F' v (tabGet kvs z _) → Q v H' := q2
    unfold tabGet at q2
    cases hf : kvs.find? fun p => decide (p.1 = z) with
    | none =>
      rw [hf] at hr q2
      subst hr
      exact q2 F2 H2 _ k2 (e1.trans e2) dp2
    | some p =>
      rw [hf] at hr q2
      obtain ⟨t, rfl⟩ := hr
      exact ⟨.int p.2, ⟨t, rfl⟩, q2 F2 H2 _ k2 (e1.trans e2) (.int _)⟩
  | _ => exact (show False from q2).elim
end
/-! ### len(set(a tuple of at most two numbers)) -/
def dn : List Int → Nat
  | [] => 0
  | [_] => 1
  | a :: b :: _ => if a = b then 1 else 2
theorem dn_ok {ns l : List Int} (hl : ns.length ≤ 2) (nd : l.Nodup) (h : ∀ k, k ∈ ns ↔ k ∈ l) : l.length = dn ns := by
  match ns, hl with
  | [], _ =>
    cases l with
    | nil => rfl
    | cons x xs => exact absurd ((h x).mpr (List.mem_cons_self ..)) (by simp)
  | [a], _ =>
    match l, nd with
    | [], _ => exact absurd ((h a).mp (by simp)) (by simp)
    | [x], _ => rfl
    | x :: y :: zs, nd =>
      have hx : x = a := by simpa using (h x).mpr (by simp)
      have hy : y = a := by simpa using (h y).mpr (by simp)
      rw [hx, hy] at nd
      simp at nd
  | [a, b], _ =>
    show l.length = if a = b then 1 else 2
    match l, nd with
    | [], _ => exact absurd ((h a).mp (by simp)) (by simp)
    | [x], _ =>
      have ha : a = x := by simpa using (h a).mp (by simp)
      have hb : b = x := by simpa using (h b).mp (by simp)
      rw [if_pos (by rw [ha, hb])]
      rfl
    | [x, y], nd =>
      have hx : x = a ∨ x = b := by simpa using (h x).mpr (by simp)
      have hy : y = a ∨ y = b := by simpa using (h y).mpr (by simp)
      have hne : x ≠ y := by simpa using nd
      rw [if_neg (by omega)]
      rfl
    | x :: y :: z :: zs, nd =>
      have hx : x = a ∨ x = b := by simpa using (h x).mpr (by simp)
      have hy : y = a ∨ y = b := by simpa using (h y).mpr (by simp)
      have hz : z = a ∨ z = b := by simpa using (h z).mpr (by simp)
      simp only [List.nodup_cons, List.mem_cons, not_or] at nd
      omega
def tLenSetT (K : PySem.W.Frag) (ta : TE) : TE := fun σ H Q => ta σ H fun x H1 => ∃ (l : Addr) (ns : List Int), x = .ref l ∧ SqT K H1 l (ns.map V.int) ∧ ns.length ≤ 2 ∧ Q (.int (dn ns : Nat)) H1
theorem pe_lenSetT {X : Cx} {a : Expr} {ta : TE} {p p2 q pos : Pos} (hg : Gl X "len") (hm : X.mg "len" = none) (hg2 : Gl X "set") (hm2 : X.mg "set" = none) (ha : PE X a ta) (hc : X.calm = true)
    (na : starEach [a] X.env = (false, eval a X.env) :: starEach [] X.env) (nb : starEach [.Call (.Name "set" p2) [a] [] q] X.env = (false, eval (.Call (.Name "set" p2) [a] [] q) X.env) :: starEach [] X.env) : PE X (.Call (.Name "len" p) [.Call (.Name "set" p2) [a] [] q] [] pos) (tLenSetT X.K ta) := by
  refine ⟨fun pins s σ H Q I h => ?_⟩
  refine Call_ (ld_blt I hg hm boot_len ?_)
  refine PyProof.Rows.callWith_builtin1 (PyProof.Rows.args_cons ?_ rfl) rfl rfl
  refine Call_ (ld_blt I hg2 hm2 boot_set ?_)
  refine PyProof.Rows.callWith_type1 (PyProof.Rows.args_cons (thn (ha.run pins s σ H _ I h) fun v s1 ⟨x, H1, I1, r1, q1⟩ => PyProof.Rows.args_nil ?_) na) na rfl
  obtain ⟨l, ns, rfl, hq, hl, q1⟩ := q1
  cases r1
  obtain ⟨its, r, pl, hz⟩ := I1.tuple hq
  refine call_set_tupI ns (I1.ok.hd hc) pl (by simpa using RZ.intsAre_vals r) (by unfold scanBound; omega) fun h' tk c hS hcl hk => ?_
  refine PyProof.Rows.args_nil ?_
  obtain ⟨o, es, ep, t, ho, hex, hd, hgood, hnd, hmem, hsb, hf, hn, _⟩ := hS
  have I2 : Inv X pins σ H1 { s1 with heap := h', toks := tk } := I1.kept fun b o e => hk b o e
  have hlen : (es.toList.map keyOf).length = dn ns := dn_ok hl hnd fun k => by
    rw [← hmem k, decide_eq_true_eq]
  rw [List.length_map, Array.length_toList] at hlen
  exact call_len_set ho hex hd hf (by rw [hlen]; unfold dn; split <;> (try split) <;> omega) ⟨.int (dn ns : Nat), H1, I2.tok _, ⟨_, by rw [hlen]⟩, q1⟩
noncomputable def lsetD : D → Option D
  | .tuple [] => some (.int 0)
  | .tuple [.int _] => some (.int 1)
  | .tuple [.int a, .int b] => cI (a = b) (some (.int 1)) (some (.int 2))
  | _ => none
theorem lset_ints {ds : List D} {z : D} (h : lsetD (.tuple ds) = some z) : ∃ ns : List Int, ds = ns.map .int ∧ ns.length ≤ 2 ∧ z = .int (dn ns : Nat) := by
  match ds, h with
  | [], h => cases h; exact ⟨[], rfl, by simp, rfl⟩
  | [.int a], h => cases h; exact ⟨[a], rfl, by simp, rfl⟩
  | [.int a, .int b], h =>
    refine ⟨[a, b], rfl, by simp, ?_⟩
    have h : cI (a = b) (some (PyData.int 1)) (some (.int 2)) = some z := h
    rw [cI_eq] at h
    show z = .int ((if a = b then 1 else 2 : Nat) : Int)
    by_cases e : a = b
    · rw [if_pos e] at h ⊢
      cases h
      rfl
    · rw [if_neg e] at h ⊢
      cases h
      rfl
section
variable {X : Cx} {c : Cc}
theorem e_lset {a : Expr} {m : M D} {p p2 q pos : Pos} (hm : X.mg "len" = none) (hm2 : X.mg "set" = none) (ha : PE X a (tM c m)) (hK : c.K = X.K := by rfl) (hg : Gl X "len" := by rfl) (hg2 : Gl X "set" := by rfl) (hc : X.calm = true := by rfl)
    (na : starEach [a] X.env = (false, eval a X.env) :: starEach [] X.env := by rfl) (nb : starEach [.Call (.Name "set" p2) [a] [] q] X.env = (false, eval (.Call (.Name "set" p2) [a] [] q) X.env) :: starEach [] X.env := by rfl) : PE X (.Call (.Name "len" p) [.Call (.Name "set" p2) [a] [] q] [] pos) (tM c (una lsetD m)) :=
  pe_cq (pe_lenSetT hg hm hg2 hm2 ha hc na nb) fun st H Q ⟨pa, H0, F0, F, r, ok, po⟩ => seqM ok po fun d r1 F1 H1 v k1 e1 dp q => by
    obtain ⟨z, hz, q⟩ := opt_po q
    cases dp with
    | @tup a vs ds g1 g2 =>
      obtain ⟨ns, rfl, hl, rfl⟩ := lset_ints hz
      have e := rpa_ints g2
      subst e
      exact ⟨a, ns, rfl, by rw [← hK]; exact k1.fH.t g1, hl, q F1 H1 _ k1 e1 (.int _)⟩
    | _ => cases hz
end
/-! ### the head with such tables -/
def ent (e : DictEntry) : Option (Str × Int) := match e.key with
  | .str k _ => (match e.val with
    | .int i _ => some (k, i)
    | _ => none)
  | _ => none
def tabV (K : PySem.W.Frag) (x : Str) : Option (List (Option (Str × Int))) := match K.lookup (He.ga K x) with
  | some ⟨_, _, .dict es _, _⟩ => some (es.toList.map ent)
  | _ => none
theorem ent_find (z : Str) : ∀ {l : List DictEntry} {kvs : List (Str × Int)}, l.map ent = kvs.map some → l.any (·.refKey) = false ∧ (match kvs.find? fun p => decide (p.1 = z) with
  | none => l.find? (·.key.isStr z) = none
  | some p => ∃ e t, l.find? (·.key.isStr z) = some e ∧ e.val = .int p.2 t)
  | [], [], _ => ⟨rfl, rfl⟩
  | [], _ :: _, h => by cases h
  | _ :: _, [], h => by cases h
  | e :: l, p :: kvs, h => by
    have h1 : ent e :: l.map ent = some p :: kvs.map some := h
    injection h1 with h2 h3
    obtain ⟨g1, g2⟩ := ent_find z h3
    obtain ⟨eh, ek, ev⟩ := e
    unfold ent at h2
    cases ek with
    | str k t =>
      cases ev with
      | int i t2 =>
        have h4 : some (k, i) = some p := h2
        cases h4
        refine ⟨?_, ?_⟩
        · rw [List.any_cons, g1]
          rfl
        · by_cases hk : k = z
          · rw [List.find?_cons_of_pos (by simp [hk]), List.find?_cons_of_pos (by simp [Value.isStr, hk])]
            exact ⟨_, t2, rfl, rfl⟩
          · rw [List.find?_cons_of_neg (by simp [hk]), List.find?_cons_of_neg (by simp [Value.isStr, hk])]
            exact g2
      | _ => cases h2
    | _ => cases h2
abbrev Tbs := List (Str × List (Str × Int))
def tsOf (xs : Tbs) : List He.Tab := xs.map fun p => (fun K => He.ga K p.1, p.2.map (·.1))
abbrev AlS : Type := He.AlT × List (Option (List (Option (Str × Int))))
def obsS (fa : List He.Fa) (fn : List He.DefD) (xs : Tbs) (K : PySem.W.Frag) : AlS := (He.obsT fa fn (tsOf xs) K, xs.map fun p => tabV K p.1)
def valS (fn : List He.DefD) (xs : Tbs) (w : World) : AlS := (He.valT fn (tsOf xs) w, xs.map fun p => some (p.2.map some))
def obsSG (n : Nat) (fa : List He.Fa) (fn : List He.DefD) (xs : Tbs) (g : Addr → Option Obj) : AlS := obsS fa fn xs (He.frG g (He.asD g n))
def SaysS (fa : List He.Fa) (fn : List He.DefD) (xs : Tbs) (w : World) (K : PySem.W.Frag) : Prop := obsS fa fn xs K = valS fn xs w
def hookS (n : Nat) (fa : List He.Fa) (fn : List He.DefD) (xs : Tbs) : PySem.W.Hook where
  α := AlS
  obs := fun s => obsSG n fa fn xs s.heap.get?
  val := fun w => valS fn xs w
  says := fun w h => ∃ K : PySem.W.Frag, K.In h ∧ SaysS fa fn xs w K
  of := fun _ _ e => ⟨_, He.frG_in, e⟩
  keeps := fun _ _ _ ⟨K, hK, c⟩ k => ⟨K, PySem.W.Frag.In.keeps hK k, c⟩
theorem obsSG_eq {n : Nat} {fa : List He.Fa} {fn : List He.DefD} {xs : Tbs} {g : Addr → Option Obj} {s : Shared} (h : ∀ a, g a = s.heap.get? a) : obsSG n fa fn xs g = (hookS n fa fn xs).obs s := by
  have e : g = s.heap.get? := funext h
  rw [e] <;> rfl
section
variable {fa : List He.Fa} {fn : List He.DefD} {xs : Tbs} {w : World} {K : PySem.W.Frag}
theorem SaysS.d (c : SaysS fa fn xs w K) : He.SaysD fa fn K := He.SaysT.d (congrArg (fun z : AlS => z.1) c)
theorem SaysS.tab (c : SaysS fa fn xs w K) (i : Nat) {p : Str × List (Str × Int)} {mg : Str → Option Value} (h : xs[i]? = some p) (hm : mg p.1 = some (.ref (He.ga K p.1))) : Tabl K w mg p.1 p.2 := by
  have c1 : He.SaysT fa fn (tsOf xs) w K := congrArg (fun z : AlS => z.1) c
  obtain ⟨es, n, Dd⟩ := c1.tab i (t := (fun K => He.ga K p.1, p.2.map (·.1))) (by unfold tsOf; rw [List.getElem?_map, h]; rfl)
  have e : (xs.map fun p => tabV K p.1) = xs.map fun p => some (p.2.map some) := congrArg (fun z : AlS => z.2) c
  have e2 : (xs.map fun p => tabV K p.1)[i]? = (xs.map fun p => some (p.2.map some))[i]? := by rw [e]
  rw [List.getElem?_map, List.getElem?_map, h] at e2
  have e3 : tabV K p.1 = some (p.2.map some) := Option.some.inj e2
  have hat := Dd.at_
  unfold tabV at e3
  rw [hat] at e3
  have e4 : es.toList.map ent = p.2.map some := Option.some.inj e3
  refine ⟨He.ga K p.1, es, n, hm, Dd, fun z => ?_⟩
  obtain ⟨g1, g2⟩ := ent_find z e4
  unfold PySem.W.nsIn
  rw [hat]
  cases hf : p.2.find? fun p => decide (p.1 = z) with
  | none =>
    rw [hf] at g2
    have g2 : es.toList.find? (·.key.isStr z) = none := g2
    refine ⟨none, ?_, rfl⟩
    simp only [g2, g1]
    rfl
  | some q =>
    rw [hf] at g2
    obtain ⟨e, t, h1, h2⟩ := g2
    refine ⟨some e.val, ?_, t, by rw [h2]⟩
    simp only [h1]
end
end Pu

namespace Pu
open PySem PySem.Spec PyProof.Rows L2
variable [TabT]
/-! ### zip of a list and a tuple -/
def ItM (K : PySem.W.Frag) (l t : Addr) : It where
  go := fun k Hh => ∃ (us ws : List V) (u v : V), (SqL K Hh l us ∧ us[k]? = some u) ∧ (SqT K Hh t ws ∧ ws[k]? = some v)
  yld := fun k Hh q Hn => ∃ (N : Addr) (u v : V), (q = .ref N ∧ Hh N = none ∧ Hn = upd Hh N (.tup [u, v])) ∧ (∀ us, SqL K Hh l us → us[k]? = some u) ∧ (∀ ws, SqT K Hh t ws → ws[k]? = some v)
  stop := fun k Hh => ∃ us ws : List V, (SqL K Hh l us ∧ SqT K Hh t ws) ∧ (k ≤ us.length ∧ k ≤ ws.length) ∧ (us.length = k ∨ ws.length = k)
def StM (zz ti to p1 p2 l t : Addr) (k : Nat) (hh : Heap) : Prop := (IsZip hh zz ti to .none ∧ IsTupOf2 hh ti (.ref p1) (.ref p2)) ∧ (∃ u v, IsTupOf2 hh to u v) ∧ (hh.IsListIter p1 l k ∧ hh.IsTupleIter p2 t k)
theorem five {zz ti to p1 p2 q : Addr} (h : q ∈ [zz, ti, to, p1, p2]) : q = zz ∨ q = ti ∨ q = to ∨ q = p1 ∨ q = p2 := by simpa using h
theorem turn_M {P : Program} {w : World} {K : PySem.W.Frag} {elts : List Expr} {kk : Nat} {tpos : Pos} {l t zz ti to p1 p2 : Addr} (S : ZipSep2 zz ti to p1 p2 [p1, l] [p2, t]) (n1 : l ≠ p1) (n2 : t ≠ p2) :
    Turn P w K (.Tuple elts kk tpos) (ItM K l t) [zz, ti, to, p1, p2] zz (StM zz ti to p1 p2 l t) where
  mem := List.mem_cons_self ..
  obj := fun k hh ⟨⟨a1, a2⟩, ⟨_, _, a3⟩, ⟨o1, e1, _, d1⟩, ⟨o2, e2, _, d2⟩⟩ q hq => by
    rcases five hq with rfl | rfl | rfl | rfl | rfl
    · exact ⟨_, a1, by simp⟩
    · exact ⟨_, a2, by simp⟩
    · exact ⟨_, a3, by simp⟩
    · exact ⟨o1, e1, by simp [d1]⟩
    · exact ⟨o2, e2, by simp [d2]⟩
  keep := fun k hh hn ⟨⟨a1, a2⟩, ⟨u, v, a3⟩, a4, a5⟩ kp => ⟨⟨kp zz (by simp) _ a1, kp ti (by simp) _ a2⟩, ⟨u, v, kp to (by simp) _ a3⟩, a4.at fun o => kp p1 (by simp) o, a5.at fun o => kp p2 (by simp) o⟩
  item := fun X hP hw hK hc k pins s σ Hh E I hf ⟨⟨a1, a2⟩, ⟨u0, v0, a3⟩, a4, a5⟩ ⟨us, ws, u, v, ⟨q1, g1⟩, q2, g2⟩ => by
    subst hP hw hK
    obtain ⟨is1, r1, b1, _⟩ := I.list q1
    obtain ⟨is2, r2, b2, _⟩ := I.tuple q2
    obtain ⟨x1, y1, c1⟩ := r1.get g1
    obtain ⟨x2, y2, c2⟩ := r2.get g2
    have m1 : k < is1.toArray.size := by simpa using (List.getElem?_eq_some_iff.mp y1).1
    have m2 : k < is2.toArray.size := by simpa using (List.getElem?_eq_some_iff.mp y2).1
    have hd : X.A.in1.handled = none := I.ok.hd hc
    have zl := Heap.lt_size a1
    refine wpAny_pyNext_zipD2_item S (Draws.list hd p1 l n1 is1.toArray) (Draws.tuple hd p2 t n2 is2.toArray) a1 a2 a3 ⟨a4, b1.isList⟩ ⟨a5, b2⟩ m1 m2 fun z1 z2 hn tk f1 f2 w1 w2 w3 w4 w5 w6 w7 => ?_
    have f1 : z1 = x1 := by
      have : is1.toArray[k]? = some x1 := by simpa using y1
      rw [this] at f1
      exact (Option.some.inj f1).symm
    have f2 : z2 = x2 := by
      have : is2.toArray[k]? = some x2 := by simpa using y2
      rw [this] at f2
      exact (Option.some.inj f2).symm
    subst f1 f2
    refine ⟨_, rfl, wpAny_letOwnedTupleGo_zip (s := { s with heap := hn, toks := tk }) w1 fun hq w8 sb => ?_⟩
    have nw := (sb.2 _ (Nat.ne_of_gt zl)).trans w5
    have Iq := I.turnedNew (t' := tk) (ch := [zz, ti, to, p1, p2]) (h' := hq) (ob := .tup [u, v]) (fun c o nb e => (sb.2 c fun ez => nb (by simp [ez])).trans (w7 c o (fun ez => nb (by simp [ez])) (fun ez => nb (by simp [ez])) (fun ez => nb (by simp [ez])) (fun ez => nb (by simp [ez])) e)) hf (Nat.le_refl _)
      ⟨by show 2 ≤ sizeLine; decide, [z1, z2], .cons c1 (.cons c2 .nil), ⟨_, nw, rfl, _, rfl⟩⟩
    refine ⟨.ref s.heap.objs.size, _, Iq, rfl, ⟨_, u, v, ⟨rfl, I.hok.fresh (Nat.le_refl _), rfl⟩, fun us' e => ?_, fun ws' e => ?_⟩, ⟨⟨w8, ?_⟩, ⟨z1, z2, ?_⟩, ?_, ?_⟩, fun c hm => ?_⟩
    · rw [I.list_inj e q1]
      exact g1
    · rw [I.tuple_inj e q2]
      exact g2
    · exact (sb.2 _ S.TIz).trans (w7 _ _ S.TIz S.TITO S.TIi1 S.TIi2 a2)
    · exact (sb.2 _ S.TOz).trans w2
    · exact w3.1.at fun o e => (sb.2 _ S.zi1.symm).trans e
    · exact w4.1.at fun o e => (sb.2 _ S.zi2.symm).trans e
    · have lt : c < s.heap.objs.size := by
        rcases five hm with rfl | rfl | rfl | rfl | rfl
        · exact zl
        · exact Heap.lt_size a2
        · exact Heap.lt_size a3
        · exact a4.elim fun o e => Heap.lt_size e.1
        · exact a5.elim fun o e => Heap.lt_size e.1
      rw [upd_ne (Nat.ne_of_lt lt)]
      exact (hf c hm).1
  done := fun X hP hw hK hc k pins s σ Hh E I hf ⟨⟨a1, a2⟩, ⟨u0, v0, a3⟩, a4, a5⟩ ⟨us, ws, ⟨q1, q2⟩, ⟨m1, m2⟩, m3⟩ => by
    subst hP hw hK
    obtain ⟨is1, r1, b1, _⟩ := I.list q1
    obtain ⟨is2, r2, b2, _⟩ := I.tuple q2
    have l1 := r1.length
    have l2 := r2.length
    have hd : X.A.in1.handled = none := I.ok.hd hc
    refine wpAny_pyNext_zipD2_end S (Draws.list hd p1 l n1 is1.toArray) (Draws.tuple hd p2 t n2 is2.toArray) a1 a2 a3 ⟨a4, b1.isList⟩ ⟨a5, b2⟩ (by simp; omega) (by simp; omega) (by simp; omega) fun hn tk kp => ?_
    exact ⟨rfl, I.turnedL (t' := tk) (ch := [zz, ti, to, p1, p2]) (fun c o nb e => kp c o (fun ez => nb (by simp [ez])) (fun ez => nb (by simp [ez])) (fun ez => nb (by simp [ez])) (fun ez => nb (by simp [ez])) e) hf⟩
  self := fun A k s Q E st hq => wpAny_pyIter_zip st.1.1 hq
def iZipM (K : PySem.W.Frag) (ta : TA) : TI := fun σ Hh R => ta σ Hh fun vs Hn => ∃ l t us ws, vs = [.ref l, .ref t] ∧ (SqL K Hn l us ∧ SqT K Hn t ws) ∧ R (ItM K l t) Hn
theorem pi_zipM {X : Cx} {e e2 : Expr} {ta : TA} {p pos tpos : Pos} {elts : List Expr} {kk : Nat} (hg : Gl X "zip") (hm : X.mg "zip" = none) (ha : PA X [e, e2] ta) (hs : starEach [e, e2] X.env = (false, eval e X.env) :: starEach [e2] X.env)
    (hpl : (backTo pos (starEach [e2] X.env)).any (·.1) = false) : PI X (.Tuple elts kk tpos) (.Call (.Name "zip" p) [e, e2] [] pos) (iZipM X.K ta) := by
  refine ⟨fun pins s σ Hh R I h0 => Call_ (ld_blt I hg hm PyProof.Rows.boot_zip (PyProof.Rows.callWith_type1 (thn (ha.run pos pins s σ Hh _ I h0) fun us sn ⟨vs, Hn, In, rn, q⟩ => ?_) hs hpl))⟩
  obtain ⟨l, t, xs, ys, rfl, ⟨q1, q2⟩, q3⟩ := q
  obtain ⟨is1, r1, b1, _⟩ := In.list q1
  obtain ⟨is2, r2, b2, _⟩ := In.tuple q2
  cases rn with
  | cons ra rr =>
    cases rr with
    | cons rb rr =>
      cases rr
      cases ra
      cases rb
      have ltl : l < sn.heap.objs.size := b1.lt
      have ltt : t < sn.heap.objs.size := by
        obtain ⟨o, e, _⟩ := b2
        exact Heap.lt_size e
      refine zip_begins2 (begins_list l is1.toArray) (begins_tuple t is2.toArray) b1.isList b2 fun hn a1 a2 a3 a4 a5 a6 a7 => wpAny_pyIter_zip a1 ?_
      have I2 : Inv X pins σ Hn { sn with heap := hn } := In.kept (t' := sn.toks) a7
      refine ⟨sn.heap.objs.size + 4, [sn.heap.objs.size + 4, sn.heap.objs.size + 2, sn.heap.objs.size + 3, sn.heap.objs.size, sn.heap.objs.size + 1], StM (sn.heap.objs.size + 4) (sn.heap.objs.size + 2) (sn.heap.objs.size + 3) sn.heap.objs.size (sn.heap.objs.size + 1) l t, _, Hn, rfl, I2,
        turn_M (zip_sep2 (by simpa using ltl) (by simpa using ltt)) (Nat.ne_of_lt ltl) (Nat.ne_of_lt (Nat.lt_succ_of_lt ltt)), ⟨⟨a1, a2⟩, ⟨_, _, a3⟩, ⟨_, a4, rfl, rfl⟩, ⟨_, a5, rfl, rfl⟩⟩, fun c hc => ?_, q3⟩
      have le : sn.heap.objs.size ≤ c := by
        rcases five hc with rfl | rfl | rfl | rfl | rfl
        · exact Nat.le_add_right _ _
        · exact Nat.le_add_right _ _
        · exact Nat.le_add_right _ _
        · exact Nat.le_refl _
        · exact Nat.le_add_right _ _
      exact In.fpOk le (In.hok.fresh le)
theorem yl_zipM {K : PySem.W.Frag} {F : Hp} {l t : Addr} {vs ws : List V} {ds es : List D} (h : SqL K F l vs) (hr : RpAll K F vs ds) (h' : SqT K F t ws) (hr' : RpAll K F ws es) : Yl K F (ItM K l t) (zipD ds es) where
  go := fun i H hi e => by
    rw [zipD_len] at hi
    have l1 := dpa_len hr
    have l2 := dpa_len hr'
    exact ⟨vs, ws, vs[i]'(by omega), ws[i]'(by omega), ⟨e.l h, List.getElem?_eq_getElem (by omega)⟩, e.t h', List.getElem?_eq_getElem (by omega)⟩
  stop := fun H e => ⟨vs, ws, ⟨e.l h, e.t h'⟩, by
    rw [zipD_len, dpa_len hr, dpa_len hr']
    omega⟩
  yld := fun i H x H' d hd e ⟨T, y1, y2, ⟨e1, nT, e2⟩, q1, q2⟩ => by
    obtain ⟨d1, d2, g1, g2, rfl⟩ := zipD_some hd
    obtain ⟨v, h2, h3⟩ := dpa_get hr g1
    obtain ⟨w, h4, h5⟩ := dpa_get hr' g2
    have z1 := h2.symm.trans (q1 vs (e.l h))
    have z2 := h4.symm.trans (q2 ws (e.t h'))
    cases z1
    cases z2
    exact .inr ⟨T, _, _, e1, nT, e2, rfl, .cons h3 (.cons h5 .nil)⟩
def zipMx : List D → Option (List D)
  | [.list xs, .tuple ys] => some (zipD xs ys)
  | [.list xs, .list ys] => some (zipD xs ys)
  | [.tuple xs, .tuple ys] => some (zipD xs ys)
  | _ => none
section
variable {X : Cx} {c : Cc}
theorem pi_or' {tg iter : Expr} {t1 t2 : TI} (h1 : PI X tg iter t1) (h2 : PI X tg iter t2) : PI X tg iter (fun st H R => t1 st H R ∨ t2 st H R) := ⟨fun pins s st H R I q => q.elim (h1.run pins s st H R I) (h2.run pins s st H R I)⟩
theorem i_zipM {e e2 : Expr} {ms : M (List D)} {p pos tpos : Pos} {elts : List Expr} {kk : Nat} (ha : PA X [e, e2] (tA c ms)) (hm : X.mg "zip" = none) (hK : c.K = X.K := by rfl) (hg : Gl X "zip" := by rfl) (hs : starEach [e, e2] X.env = (false, eval e X.env) :: starEach [e2] X.env := by rfl)
    (hpl : (backTo pos (starEach [e2] X.env)).any (·.1) = false := by rfl) : PI X (.Tuple elts kk tpos) (.Call (.Name "zip" p) [e, e2] [] pos) (iM c (iBy zipMx ms)) :=
  pi_cq (pi_or' (pi_zipM hg hm ha hs hpl) (i_zip (c := c) ha hm hK hg hs hpl)) fun st H R ⟨pa, H0, F0, F, r, ok, po⟩ => by
    have po : Po (XW c pa H0 F0 F) (((ms.bind fun ds => M.opt (zipMx ds)) : M (List D)) r) _ := po
    have po := Po.bind po
    cases hr : ms r with
    | no =>
      rw [hr] at po
      exact po.elim
    | ex x r1 =>
      rw [hr] at po
      exact .inl ⟨pa, H0, F0, F, r, ok, by rw [hr]; exact po⟩
    | ok ds r1 =>
      rw [hr] at po
      obtain ⟨xs, hx, q⟩ := opt_po (show Po _ (M.opt (zipMx ds) r1) _ from po)
      by_cases hz : zipOf ds = some xs
      · refine .inr ⟨pa, H0, F0, F, r, ok, ?_⟩
        show Po _ (((ms.bind fun ds => M.opt (zipOf ds)) : M (List D)) r) _
        rw [M.bind_ap, hr, Re.bind_ok, hz]
        exact q
      · refine .inl ⟨pa, H0, F0, F, r, ok, ?_⟩
        rw [hr]
        intro F1 H1 vs k1 e1 dps
        unfold zipMx at hx
        split at hx
        · cases hx
          obtain ⟨v, w, rfl, d, d2⟩ := rpa_two dps
          cases d with
          | @lst a us _ h1 h2 =>
            cases d2 with
            | @tup b ws _ h3 h4 => exact ⟨a, b, us, ws, rfl, ⟨by rw [← hK]; exact k1.fH.l h1, by rw [← hK]; exact k1.fH.t h3⟩, q F1 H1 _ k1 e1 (by rw [← hK]; exact yl_zipM h1 h2 h3 h4)⟩
        · exact absurd hx hz
        · exact absurd hx hz
        · cases hx
end
end Pu

namespace Pu
open PySem PySem.Spec PyProof.Rows L2
variable [TabT]

/-! ### an object that stands already is tracked -/
structure Newly (X : Cx) (pins : List (Addr × Obj)) (a : Addr) : Prop where
  loc : a ≠ X.env.locals
  cel : ∀ x c, X.env.cells.lookup x = some c → c ≠ a
  pin : ∀ p ∈ X.pn ++ pins, p.1 ≠ a
  old : X.s_0.heap.get? a = none
theorem Inv.track {X : Cx} {pins : List (Addr × Obj)} {st : L2.St} {H : Hp} {s : Shared} {a : Addr} {o : HO} (I : Inv X pins st H s) (nw : Newly X pins a) (hn : H a = none) (new : ObjOk X.prog X.w (upd H a o) s.heap a o) : Inv X pins st (upd H a o) s where
  ok := I.ok
  os := I.os
  bare := I.bare
  base := {
    keep := I.base.keep
    slot := I.base.slot
    free := fun b u q n x => by
      rw [upd_ne (fun z => by rw [z, nw.old] at q; cases q)]
      exact I.base.free b u q n x
    there := I.base.there
    tups := fun b xs q => by
      have q := I.base.tups b xs q
      rw [upd_ne (ne_of_none q hn)]
      exact q
    frzs := fun b u xs q => by
      have q := I.base.frzs b u xs q
      rw [upd_ne (ne_of_none q hn)]
      exact q
    tbls := fun b ps q => by
      obtain ⟨more, q⟩ := I.base.tbls b ps q
      refine ⟨more, ?_⟩
      rw [upd_ne (ne_of_none q hn)]
      exact q }
  loc := I.loc
  cell := I.cell
  free := by
    rw [upd_ne (Ne.symm nw.loc)]
    exact I.free
  freeC := fun x c e => by
    rw [upd_ne (nw.cel x c e)]
    exact I.freeC x c e
  pin := fun p hp => by
    obtain ⟨h1, h2, h3⟩ := I.pin p hp
    refine ⟨h1, ?_, h3⟩
    rw [upd_ne (nw.pin p hp)]
    exact h2
  hok := I.hok.laidN (fun _ _ q => q) hn new
  len := I.len
theorem Newly.of {X : Cx} {pins : List (Addr × Obj)} {st : L2.St} {H : Hp} {s : Shared} {a : Addr} (I : Inv X pins st H s) (h : s.heap.get? a = none) (hx : X.ex = []) : Newly X pins a where
  loc := fun z => by
    obtain ⟨m, ⟨o, es, ep, q, _⟩, _⟩ := I.loc
    rw [← z, h] at q
    cases q
  cel := fun x c e z => by
    obtain ⟨v, o, q, _⟩ := I.cell x c e
    rw [z, h] at q
    cases q
  pin := fun p hp z => by
    obtain ⟨q, _⟩ := I.pin p hp
    rw [z, h] at q
    cases q
  old := by
    cases q : X.s_0.heap.get? a with
    | none => rfl
    | some o =>
      obtain ⟨o', q2⟩ := I.base.there a o q (by rw [hx]; simp)
      rw [h] at q2
      cases q2

/-! ### try: .. except x as n: y = n -/
/-- what is wished of an exception of the body: n in slot i, y in slot k -/
def wKeep (K : PySem.W.Frag) (c : Value) (i k : Nat) (Dd : Ends) : WX := fun cls d st H =>
  PySem.W.exmOne K cls c = some true ∧ ∀ a, H a = none → Dd.nx (((st.set i (some (.ref a))).set k (some (.ref a))).set i none) (upd H a (CauO cls d a))
set_option maxHeartbeats 4000000 in
theorem ps_try_keep {X : Cx} {x n y : Str} {c : Value} {i k : Nat} {body : List Stmt} {np p1 p2 p3 pos pos' : Pos} {tb : WX → TS} (hs : X.stack = X.env :: X.outer) (hf : X.env.frame = some X.env.locals) (hex : X.ex = []) (hN : X.N.Nodup) (hi : X.N[i]? = some n) (hln : X.env.kindOf n = some .local) (hk : X.N[k]? = some y) (hly : X.env.kindOf y = some .local) (hc : Names X x c)
    (hdn : (n == ("__debug__" : Str)) = false) (hcn : (n == ("__classdict__" : Str)) = false) (hsw : swapsWith (.Name n p2) (some (.Name y p1)) p3.line X.env = pure false)
    (hb : ∀ (W : WX) (pn : List (Addr × Obj)) (xe : Value → Shared → Prop), Takes (X.tr pn xe) W → PassesOwn (model X.prog X.w) X.A X.env xe → PSs (X.tr pn xe) body (tb W)) :
    PS X (.Try body [.ExceptHandler (some (.Name x np)) (some n) [.Assign [.Name y p1] (.Name n p2) p3] pos'] [] [] pos) (fun Dd st H => tb (wKeep X.K c i k Dd) Dd st H) := by
  refine ⟨fun pins s st H Dd I h => ?_⟩
  have ok := I.ok
  have hfr : X.A.frames = some (X.env :: X.outer) := by rw [ok.frames, hs]
  have hloc : Loc X.env.scope n := .inl hln
  have hlocy : Loc X.env.scope y := .inl hly
  refine wpAny_Try_except ?_
  refine wpAny_mono ((hb (wKeep X.K c i k Dd) (X.pn ++ pins) (fun e s₁ => wpAny (model X.prog X.w) X.A (noteFrame e X.env) (fun _ s₂ => wpAny (model X.prog X.w) X.A (setFlight e none) (fun _ s₃ =>
    wpAny (model X.prog X.w) X.A (handleBy e X.env [.ExceptHandler (some (.Name x np)) (some n) [.Assign [.Name y p1] (.Name n p2) p3] pos']) (SP X pins Dd) X.xe s₃) X.xe s₂) X.xe s₁) (fun u s' xx => ?_) PassesOwn.looking).run [] s st H Dd (I.toTry _) h) (fun f s1 hsp => ?_) (fun e s1 he => he)
  · -- the catch
    obtain ⟨a, B, sI, pins', st', H', cls, d, rfl, J', nb, up, sky, na, os, ag, hb1, hyes⟩ := xx
    have J : Inv X pins st' H' sI := J'.ofTry ok
    have sky' : Sky B (X.env :: X.outer) a (Zc cls d) X.env.locals s'.heap := by rw [← hs]; exact sky
    show wpAny (model X.prog X.w) X.A (noteFrame (.ref a) X.env) _ _ _
    refine Sky.land Zc.steady hfr hf sky' fun h3 fl3 up3 => ?_
    have J3 : Inv X pins st' H' { s' with heap := h3 } := J.landed nb fl3.1 (up.trans up3) os ag
    obtain ⟨oe3, vs3, he3, hz3, hd3⟩ := fl3.there
    have notFr : ∀ {h : Heap} {o : Obj} {vs : Array Value}, h.FunFrames B (X.env :: X.outer) → h.get? a = some o → o.data = .fields vs → a ∉ frs (X.env :: X.outer) := fun {h o vs} ff e dd hm => by
      obtain ⟨_, o', e', hnf⟩ := ff.mem hm
      rw [e] at e'; cases e'
      exact hnf _ dd
    have nfr := notFr fl3.2.2.1 he3 hd3
    have nL : a ≠ X.env.locals := fun z => nfr (List.mem_filterMap.mpr ⟨X.env, List.mem_cons_self, by rw [hf, z]⟩)
    have nF : a ∉ X.fs := fun hm => by
      obtain ⟨e, he, q⟩ := List.mem_filterMap.mp hm
      exact nfr (List.mem_filterMap.mpr ⟨e, List.mem_cons_of_mem _ he, q⟩)
    -- it wasn't there
    have nI : sI.heap.get? a = none := by
      cases q : sI.heap.get? a with
      | none => rfl
      | some o =>
        have q2 := nb a o q (by rw [hs]; exact nfr)
        rw [fl3.2.1] at q2
        cases q2
    have nw : Newly X pins a := Newly.of J nI hex
    have S3 := J3.suite he3 hd3 na nL nF
    refine wpAny_handleBy_cons (codeAny_handlers_test ?_) (by intro q; cases q)
    have LT : PySem.W.Looks (model X.prog X.w) h3 (typeOf (.ref a)) cls := fun A Q E s k q => wpAny_typeOf_ref (k _ _ he3) (by rw [hz3.1]; exact q)
    have LM := PySem.W.exm_one (M := model X.prog X.w) (J3.kIn) LT hb1
    have test : ∀ {Q : Value → Shared → Prop} {E : Value → Shared → Prop}, Q c { s' with heap := h3 } → wpAny (model X.prog X.w) (X.A.mark (some (.ref a))) (eval (.Name x np) X.env) Q E { s' with heap := h3 } := fun {Q E} q => by
      obtain ⟨hg, hdbg, hm | ⟨hm, hv, hnn⟩⟩ := hc
      · exact ld_glob (X := X.suite a ((a, oe3) :: (X.pn ++ pins))) S3 hg hm q hdbg
      · exact ld_blt (X := X.suite a ((a, oe3) :: (X.pn ++ pins))) S3 hg hm hv q hnn hdbg
    refine test (LM.here ?_)
    refine codeAny_handlers_suite_as ?_
    refine HandSPX.lands_againZ fl3 fun h4 fl4 up4 => ?_
    have J4 : Inv X pins st' H' { s' with heap := h4 } := J.landed nb fl4.1 ((up.trans up3).trans up4) os ag
    obtain ⟨oe4, vs4, he4, hz4, hd4⟩ := fl4.there
    have S4 := J4.suite he4 hd4 na nL nF
    refine store_ok (X := X.suite a ((a, oe4) :: (X.pn ++ pins))) (v := .ref a) S4 hN hi hloc rfl (fun s5 S5 => ?_) (.inr hln)
    have su : PSs (X.suite a ((a, oe4) :: (X.pn ++ pins))) [.Assign [.Name y p1] (.Name n p2) p3] (fun Dd' σ H => tVar i σ H fun v H1 => Dd'.nx (σ.set k (some v)) H1) := pss_one (ps_set (X := X.suite a ((a, oe4) :: (X.pn ++ pins))) (i := k) hN hk hlocy (pe_var (i := i) hi (.inl hln) hdn hcn) hsw (.inr hly))
    have hlt : i < st'.length := by
      rw [J.len]
      exact (List.getElem?_eq_some_iff.mp hi).1
    refine wpAny_mono (su.run [] s5 _ H' { nx := fun σ' H'' => σ' = (st'.set i (some (.ref a))).set k (some (.ref a)) ∧ H'' = H', rt := fun _ _ => False, bk := fun _ _ => False, ct := fun _ _ => False } S5 ⟨.ref a, List.getElem?_set_self hlt, rfl, rfl⟩) (fun f s6 hsp => ?_) (fun _ _ z => False.elim z)
    cases f with
    | next =>
      obtain ⟨σ6, H6, S6, rfl, rfl⟩ := hsp
      refine gone_ok (X := X.suite a ((a, oe4) :: (X.pn ++ pins))) S6 hN hi hln fun s7 S7 => ?_
      have he7 : s7.heap.get? a = some oe4 := (S7.pin (a, oe4) (by
        rw [List.append_nil]
        exact List.mem_cons_self)).1
      have J7 : Inv X pins _ H6 s7 := S7.unsuite ok
      refine ⟨_, _, Pu.Inv.track (o := CauO cls d a) J7 nw na ⟨⟨oe4, vs4, he7, hz4, hd4⟩, ⟨_, he7⟩, fun h1 h2 ⟨oe, vs, z1, z2⟩ kk => ⟨oe, vs, kk _ z1, z2⟩⟩, hyes a na⟩
    | brk =>
      obtain ⟨σ6, H6, S6, q6⟩ := hsp
      exact q6.elim
    | cont =>
      obtain ⟨σ6, H6, S6, q6⟩ := hsp
      exact q6.elim
    | ret u =>
      obtain ⟨v6, σ6, H6, S6, r6, q6⟩ := hsp
      exact q6.elim
  · cases f with
    | next =>
      obtain ⟨st', H', J', q⟩ := hsp
      exact wpAny_execs_nil ⟨st', H', J'.ofTry ok, q⟩
    | brk =>
      obtain ⟨st', H', J', q⟩ := hsp
      exact ⟨st', H', J'.ofTry ok, q⟩
    | cont =>
      obtain ⟨st', H', J', q⟩ := hsp
      exact ⟨st', H', J'.ofTry ok, q⟩
    | ret u =>
      obtain ⟨v, st', H', J', r, q⟩ := hsp
      exact ⟨v, st', H', J'.ofTry ok, r, q⟩

/-! ### the classes of the program -/
/-- raise nm('..') -/
structure RaiK (K : PySem.W.Frag) (mg : Str → Option Value) (nm : Str) : Prop where
  g : mg nm = some (.ref (He.ga K nm))
  x : PySem.W.excIn K (He.ga K nm) He.veBase "ValueError.__new__" = true
  k : PySem.W.keepIn K (.ref (He.ga K nm)) = true
  b : PySem.W.subIn K (.ref (He.ga K nm)) (.type "BaseException") = some true
  t : PySem.W.typeIn K (.ref (He.ga K nm)) = some (.type "type")
def houseE : Str := "HouseError"
def isB (nm y : Str) : Bool := decide (nm = y) || decide (y = houseE)
structure XTab (K : PySem.W.Frag) (mg : Str → Option Value) (ns ys : List Str) : Prop where
  ex : ∀ nm ∈ ns, ExcK K nm
  is : ∀ nm ∈ ns, ∀ y ∈ ys, PySem.W.kitOne K (.ref (He.ga K nm)) (.ref (He.ga K y)) = some (isB nm y)
  ve : ∀ nm ∈ ns, PySem.W.kitOne K (.ref (He.ga K nm)) (.type "ValueError") = some true
  em : ∀ nm ∈ ns, PySem.W.exmOne K (.ref (He.ga K nm)) (.ref (He.ga K houseE)) = some true
  g : ∀ y ∈ houseE :: ys, mg y = some (.ref (He.ga K y))
def excCB (K : PySem.W.Frag) (D : Addr) : Bool :=
  decide (PySem.W.findIn K (.ref D) "__getattribute__" = some (some (.builtin "BaseException.__getattribute__"))) && (decide (PySem.W.findIn K (.ref D) "__getattr__" = some none) && (decide (PySem.W.subIn K (.ref D) (.type "BaseException") = some true) && (PySem.W.hasDictIn K D && (decide (PySem.W.findIn K (.ref D) "__class__" = some (some (.builtin "object.__class__"))) && (decide (PySem.W.specialIn K (.builtin "object.__class__") "__get__" = some (some (.builtin "getset_descriptor.__get__"))) && (decide (PySem.W.takesIn K (.builtin "object.__class__") = some true) && decide (PySem.W.mroIn K D (.type "object") = some true)))))))
theorem excCB_ok {K : PySem.W.Frag} {D : Addr} (h : excCB K D = true) : ExcC K D := by
  unfold excCB at h
  simp only [Bool.and_eq_true, decide_eq_true_eq] at h
  obtain ⟨h1, h2, h3, h4, h5, h6, h7, h8⟩ := h
  exact ⟨h1, h2, h3, h4, h5, h6, h7, h8⟩
def xtB (ns ys : List Str) (K : PySem.W.Frag) : Bool := ns.all fun nm => excCB K (He.ga K nm) && ((basicT.all fun T => decide (PySem.W.kitOne K (.ref (He.ga K nm)) (.type T) = some false)) && ((ys.all fun y => decide (PySem.W.kitOne K (.ref (He.ga K nm)) (.ref (He.ga K y)) = some (isB nm y))) && (decide (PySem.W.kitOne K (.ref (He.ga K nm)) (.type "ValueError") = some true) && decide (PySem.W.exmOne K (.ref (He.ga K nm)) (.ref (He.ga K houseE)) = some true))))
theorem xtB_ok {K : PySem.W.Frag} {mg : Str → Option Value} {ns ys : List Str} (h : xtB ns ys K = true) (g : ∀ y ∈ houseE :: ys, mg y = some (.ref (He.ga K y))) : XTab K mg ns ys := by
  have key : ∀ nm ∈ ns, ExcK K nm ∧ (∀ y ∈ ys, PySem.W.kitOne K (.ref (He.ga K nm)) (.ref (He.ga K y)) = some (isB nm y)) ∧ PySem.W.kitOne K (.ref (He.ga K nm)) (.type "ValueError") = some true ∧ PySem.W.exmOne K (.ref (He.ga K nm)) (.ref (He.ga K houseE)) = some true := fun nm hn => by
    have q := List.all_eq_true.mp h nm hn
    simp only [Bool.and_eq_true, decide_eq_true_eq, List.all_eq_true] at q
    obtain ⟨q1, q2, q3, q4, q5⟩ := q
    exact ⟨⟨excCB_ok q1, q2⟩, q3, q4, q5⟩
  exact ⟨fun nm hn => (key nm hn).1, fun nm hn => (key nm hn).2.1, fun nm hn => (key nm hn).2.2.1, fun nm hn => (key nm hn).2.2.2, g⟩

/-! ### the rules -/
def sRaise (nm : Str) : M Fl := fun r => .ex ⟨nm, []⟩ r
def exOf (e : Exn) : D := .dict ((.str e.name, .none) :: e.flds.map fun p => (.str p.1, p.2))
/-- try: body, except HouseError as (slot j): (slot i) = it -/
def sTry (ns : List Str) (j i : Nat) (mb : M Fl) : M Fl := fun r => match mb r with
  | .ex e r1 => if e.name ∈ ns then (match (setN j (.v (exOf e)) r1).bind (setN i (.v (exOf e))) with
    | some r2 => .ok .nx (r2.set j .unk)
    | none => .no) else .no
  | x => x
def isED (ns : List Str) (y : Str) : D → Option D
  | .dict ((.str nm, .none) :: _) => if nm ∈ ns then some (.bool (isB nm y)) else none
  | _ => none
def isEV (ns : List Str) : D → Option D
  | .dict ((.str nm, .none) :: _) => if nm ∈ ns then some (.bool true) else none
  | _ => none
def isET (ns : List Str) (ys : List Str) : D → Option D
  | .dict ((.str nm, .none) :: _) => if nm ∈ ns then some (.bool (ys.any fun y => isB nm y)) else none
  | _ => none
section
variable {X : Cx} {c : Cc}
theorem s_raise {x m : Str} {j : Nat} {p p2 pos pos' : Pos} (R : RaiK X.K X.mg x) (tk : Takes X c.W) (hK : c.K = X.K := by rfl) (hc : X.calm = true := by rfl) (hg : Gl X x := by rfl) (hdb : (x == ("__debug__" : Str)) = false := by decide) :
    PS X (.Raise (some (.Call (.Name x p) [.Constant (.str m) j p2] [] pos)) none pos') (sM c (sRaise x)) :=
  ps_cq (ps_raise hc tk (pmk_own PySem.F.excBase_ValueError R.x R.g R.k (raises_own R.b R.t) hg hdb)) fun Dd st H ⟨pa, H0, F0, F, r, ok, po⟩ => by
    have po : XW c pa H0 F0 F ⟨x, []⟩ r := po
    exact po F H st _ none ok (Ex.refl F) ⟨by rw [hK], .inl ⟨rfl, rfl⟩⟩
theorem exRp {K : PySem.W.Frag} {mg : Str → Option Value} {W : WX} {F H : Hp} {e : Exn} {cls : Value} {dd : Option Addr} {a : Addr} (h : ExOk ⟨K, mg, W⟩ F H e cls dd) (x : ExcK K e.name) (ha : F a = none) : Rp K (upd F a (CauO cls dd a)) (.ref a) (exOf e) := by
  obtain ⟨rfl, h⟩ := h
  rcases h with ⟨h1, rfl⟩ | ⟨d, fs, rfl, h1, h2, h3⟩
  · unfold exOf
    rw [h1]
    exact .exc0 upd_same x
  · refine .excF (fs := fs) upd_same ((Ex.new ha).at_ _ _ h1 (fun ps z => nomatch z)) x ?_ ?_
    · rw [List.map_map]
      have e2 : e.flds.map ((fun p : D × D => p.1) ∘ fun p : Str × D => ((.str p.1, p.2) : D × D)) = (e.flds.map (·.1)).map PyData.str := by
        rw [List.map_map]
        rfl
      rw [e2, ← h2, List.map_map]
      rfl
    · rw [List.map_map]
      have e2 : e.flds.map ((fun p : D × D => p.2) ∘ fun p : Str × D => ((.str p.1, p.2) : D × D)) = e.flds.map (·.2) := rfl
      rw [e2]
      exact dpa_mono (Ex.new ha) h3
theorem s_try {n y : Str} {i j : Nat} {ns ys : List Str} {body : List Stmt} {np p1 p2 p3 pos pos' : Pos} {mb : M Fl} (T : XTab X.K X.mg ns ys) (hN : X.N.Nodup)
    (hb : ∀ (W : WX) (pn : List (Addr × Obj)) (xe : Value → Shared → Prop), Takes (X.tr pn xe) W → PassesOwn (model X.prog X.w) X.A X.env xe → PSs (X.tr pn xe) body (sM { c with W := W } mb))
    (hK : c.K = X.K := by rfl) (hs : X.stack = X.env :: X.outer := by rfl) (hf : X.env.frame = some X.env.locals := by rfl) (hex : X.ex = [] := by rfl) (hj : X.N[j]? = some n := by rfl) (hln : X.env.kindOf n = some .local := by rfl) (hi : X.N[i]? = some y := by rfl) (hly : X.env.kindOf y = some .local := by rfl)
    (hg : Gl X houseE := by rfl) (hdn : (n == ("__debug__" : Str)) = false := by decide) (hcn : (n == ("__classdict__" : Str)) = false := by decide) (hsw : swapsWith (.Name n p2) (some (.Name y p1)) p3.line X.env = pure false := by rfl) :
    PS X (.Try body [.ExceptHandler (some (.Name houseE np)) (some n) [.Assign [.Name y p1] (.Name n p2) p3] pos'] [] [] pos) (sM c (sTry ns j i mb)) :=
  ps_cq (ps_try_keep (c := .ref (He.ga X.K houseE)) (tb := fun W => sM { c with W := W } mb) hs hf hex hN hj hln hi hly ⟨hg, by decide, .inl (T.g houseE (List.mem_cons_self ..))⟩ hdn hcn hsw hb) fun Dd st H ⟨pa, H0, F0, F, r, ok, po⟩ => by
    refine ⟨pa, H0, F0, F, r, ok, ?_⟩
    unfold sTry at po
    cases hm : mb r with
    | no =>
      rw [hm] at po
      exact po.elim
    | ok fl r1 =>
      rw [hm] at po
      exact po
    | ex e r1 =>
      rw [hm] at po
      dsimp only at po
      split at po
      case isFalse => exact po.elim
      rename_i hn
      have xk := T.ex e.name hn
      intro F' H' st' cls dd k1 e1 xo
      have xo' := xo
      obtain ⟨hcls, _⟩ := xo
      refine ⟨by rw [hcls, hK]; exact T.em e.name hn, fun a na => ?_⟩
      have nF := k1.fH.nn na
      have k2 := k1.layF (o := CauO cls dd a) na
      have dp : Rp c.K (upd F' a (CauO cls dd a)) (.ref a) (exOf e) := exRp (mg := c.mg) (W := wKeep X.K (.ref (He.ga X.K houseE)) j i Dd) xo' (by rw [hK]; exact xk) nF
      cases h1 : setN j (.v (exOf e)) r1 with
      | none =>
        rw [h1] at po
        exact po.elim
      | some r2 =>
        rw [h1] at po
        cases h2 : setN i (.v (exOf e)) r2 with
        | none =>
          rw [show (some r2).bind (setN i (.v (exOf e))) = setN i (.v (exOf e)) r2 from rfl, h2] at po
          exact po.elim
        | some r3 =>
          rw [show (some r2).bind (setN i (.v (exOf e))) = setN i (.v (exOf e)) r2 from rfl, h2] at po
          obtain ⟨rfl, z1⟩ := setN_some h1
          obtain ⟨rfl, z2⟩ := setN_some h2
          exact po _ _ _ (((k2.setV z1 dp).setV z2 dp).forget (x := none)) (e1.trans (Ex.new nF))
theorem isED_some {ns : List Str} {y : Str} {d z : D} (h : isED ns y d = some z) : ∃ nm kv, d = .dict ((.str nm, .none) :: kv) ∧ nm ∈ ns ∧ z = .bool (isB nm y) := by
  unfold isED at h
  split at h
  · split at h
    · cases h
      exact ⟨_, _, rfl, by assumption, rfl⟩
    · cases h
  · cases h
theorem isEV_some {ns : List Str} {d z : D} (h : isEV ns d = some z) : ∃ nm kv, d = .dict ((.str nm, .none) :: kv) ∧ nm ∈ ns ∧ z = .bool true := by
  unfold isEV at h
  split at h
  · split at h
    · cases h
      exact ⟨_, _, rfl, by assumption, rfl⟩
    · cases h
  · cases h
/-- isinstance(e, y), y a class of the program -/
theorem e_isE {ns ys : List Str} {y : Str} {e : Expr} {m : M D} {p py pos : Pos} (T : XTab X.K X.mg ns ys) (h : PE X e (tM c m)) (hm : X.mg "isinstance" = none) (hy : y ∈ ys := by decide) (hK : c.K = X.K := by rfl) (hg : Gl X "isinstance" := by rfl) (hgy : Gl X y := by rfl) (hdT : (y == ("__debug__" : Str)) = false := by decide)
    (hs1 : starEach [e, .Name y py] X.env = (false, eval e X.env) :: starEach [.Name y py] X.env := by rfl) (hs2 : starEach [.Name y py] X.env = (false, eval (.Name y py) X.env) :: starEach [] X.env := by rfl) (hpl : (backTo pos (starEach [.Name y py] X.env)).any (·.1) = false := by rfl) :
    PE X (.Call (.Name "isinstance" p) [e, .Name y py] [] pos) (tM c (una (isED ns y) m)) :=
  pe_cq (pe_callB call_isX hg hm (by decide +kernel) (pa_cons h (pa_cons (pe_glob (v := .ref (He.ga X.K y)) hgy (T.g y (List.mem_cons_of_mem _ hy)) rfl hdT) pa_nil hs2) hs1) (by decide) (by decide) hs1 hpl) fun st H Q ⟨pa, H0, F0, F, r, ok, po⟩ => seqM ok po fun d r1 F1 H1 v k1 e1 dp q => by
    obtain ⟨z, hz, q⟩ := opt_po q
    obtain ⟨nm, kv, rfl, hn, rfl⟩ := isED_some hz
    obtain ⟨a, rfl, g1, g2⟩ := rp_exAt dp k1.fH
    exact ⟨a, He.ga c.K nm, .ref (He.ga X.K y), .ref (He.ga X.K y), isB nm y, rfl, g1, by rw [← hK]; exact g2.c, fun u ru => ru, by rw [hK]; exact T.is nm hn y hy, q F1 H1 _ k1 e1 (.bl _)⟩
theorem e_isEV {ns ys : List Str} {e : Expr} {m : M D} {p py pos : Pos} (T : XTab X.K X.mg ns ys) (h : PE X e (tM c m)) (hm : X.mg "isinstance" = none) (hmT : X.mg "ValueError" = none) (hK : c.K = X.K := by rfl) (hg : Gl X "isinstance" := by rfl) (hgT : Gl X "ValueError" := by rfl)
    (hs1 : starEach [e, .Name "ValueError" py] X.env = (false, eval e X.env) :: starEach [.Name "ValueError" py] X.env := by rfl) (hs2 : starEach [.Name "ValueError" py] X.env = (false, eval (.Name "ValueError" py) X.env) :: starEach [] X.env := by rfl) (hpl : (backTo pos (starEach [.Name "ValueError" py] X.env)).any (·.1) = false := by rfl) :
    PE X (.Call (.Name "isinstance" p) [e, .Name "ValueError" py] [] pos) (tM c (una (isEV ns) m)) :=
  pe_cq (pe_callB call_isX hg hm (by decide +kernel) (pa_cons h (pa_cons (pe_bltn (v := .ty "ValueError") hgT hmT (by decide +kernel) rfl (by decide) (by decide)) pa_nil hs2) hs1) (by decide) (by decide) hs1 hpl) fun st H Q ⟨pa, H0, F0, F, r, ok, po⟩ => seqM ok po fun d r1 F1 H1 v k1 e1 dp q => by
    obtain ⟨z, hz, q⟩ := opt_po q
    obtain ⟨nm, kv, rfl, hn, rfl⟩ := isEV_some hz
    obtain ⟨a, rfl, g1, g2⟩ := rp_exAt dp k1.fH
    exact ⟨a, He.ga c.K nm, .ty "ValueError", .type "ValueError", true, rfl, g1, by rw [← hK]; exact g2.c, fun u ru => ru, by rw [hK]; exact T.ve nm hn, q F1 H1 _ k1 e1 (.bl _)⟩
end

/-! ### isinstance with a tuple of classes -/
def GlA (K : PySem.W.Frag) (ys : List Str) : TA := fun _ H Q => Q (ys.map fun y => V.ref (He.ga K y)) H
def TyA (Ts : List String) : TA := fun _ H Q => Q (Ts.map V.ty) H
def rIsXT (K : PySem.W.Frag) : List V → Hp → VK → Prop := fun xs H Q => ∃ (a C tp : Addr) (cs : List V) (us : List Value) (b : Bool), xs = [.ref a, .ref tp] ∧ H tp = some (.tup cs) ∧ (∀ ws, Vals cs ws → ws = us) ∧ ExAt H a C ∧ ExcC K C ∧ PySem.W.kitAny K (.ref C) us = some b ∧ Q (.bl b) H
section
variable {X : Cx} {c : Cc}
theorem gl_nil : PA X [] (GlA X.K []) := pa_nil
theorem gl_cons {y : Str} {py : Pos} {es : List Expr} {ys : List Str} (h : PA X es (GlA X.K ys)) (g : X.mg y = some (.ref (He.ga X.K y))) (hgy : Gl X y := by rfl) (hdT : (y == ("__debug__" : Str)) = false := by decide) (hs : starEach (.Name y py :: es) X.env = (false, eval (.Name y py) X.env) :: starEach es X.env := by rfl) : PA X (.Name y py :: es) (GlA X.K (y :: ys)) :=
  pa_cq (pa_cons (pe_glob (v := .ref (He.ga X.K y)) hgy g rfl hdT) h hs) fun st H Q h => h
theorem ty_nil : PA X [] (TyA []) := pa_nil
theorem ty_cons {y : Str} {T : String} {py : Pos} {es : List Expr} {Ts : List String} (h : PA X es (TyA Ts)) (hmT : X.mg y = none) (hvT : bootBuiltins y = some (.type T) := by decide +kernel) (hgT : Gl X y := by rfl) (hnT : y ≠ "__name__" := by decide) (hdT : (y == ("__debug__" : Str)) = false := by decide) (hs : starEach (.Name y py :: es) X.env = (false, eval (.Name y py) X.env) :: starEach es X.env := by rfl) : PA X (.Name y py :: es) (TyA (T :: Ts)) :=
  pa_cq (pa_cons (pe_bltn (v := .ty T) hgT hmT hvT rfl hnT hdT) h hs) fun st H Q h => h
theorem call_isXT : CallR X (.builtin "isinstance") (rIsXT X.K) := by
  intro pins s st H xs us Q I r h
  obtain ⟨a, C, tp, cs, ws, b, rfl, hT, hu, ha, hC, e, q⟩ := h
  obtain ⟨u1, u2, rfl, r1, r2⟩ := vals2 r
  cases (show u2 = Value.ref tp from r2)
  cases (show u1 = Value.ref a from r1)
  obtain ⟨ox, od, J⟩ := exAt_inst I ha
  obtain ⟨_, its, rv, o, h1, h2, n, h3⟩ := (show ObjOk X.prog X.w H s.heap tp (.tup cs) from I.hok tp _ hT)
  have e3 := hu _ rv
  subst e3
  obtain ⟨oc, od, dt, sl⟩ := o
  simp only at h2 h3
  subst h2 h3
  exact PySem.W.kia_tup (excC_kit hC) I.kIn J h1 e (fun z => nomatch z) fun tk => ⟨.bl b, H, I.tok tk, rfl, q⟩
theorem vals_gl {K : PySem.W.Frag} : ∀ {ys : List Str} {ws : List Value}, Vals (ys.map fun y => V.ref (He.ga K y)) ws → ws = ys.map fun y => Value.ref (He.ga K y)
  | [], _, .nil => rfl
  | _ :: _, _, .cons r t => by
    cases (show _ = Value.ref _ from r)
    rw [vals_gl t]
    rfl
theorem vals_ty : ∀ {Ts : List String} {ws : List Value}, Vals (Ts.map V.ty) ws → ws = Ts.map Value.type
  | [], _, .nil => rfl
  | _ :: _, _, .cons r t => by
    cases (show _ = Value.type _ from r)
    rw [vals_ty t]
    rfl
theorem kitAny_gl {K : PySem.W.Frag} {nm : Str} : ∀ {ys : List Str}, (∀ y ∈ ys, PySem.W.kitOne K (.ref (He.ga K nm)) (.ref (He.ga K y)) = some (isB nm y)) → PySem.W.kitAny K (.ref (He.ga K nm)) (ys.map fun y => Value.ref (He.ga K y)) = some (ys.any fun y => isB nm y)
  | [], _ => rfl
  | y :: ys, h => by
    have h1 := h y (List.mem_cons_self ..)
    have h2 := kitAny_gl fun z hz => h z (List.mem_cons_of_mem _ hz)
    rw [List.map_cons, List.any_cons]
    unfold PySem.W.kitAny
    rw [h1]
    cases isB nm y with
    | true => rfl
    | false => exact h2
theorem isET_some {ns ys : List Str} {d z : D} (h : isET ns ys d = some z) : ∃ nm kv, d = .dict ((.str nm, .none) :: kv) ∧ nm ∈ ns ∧ z = .bool (ys.any fun y => isB nm y) := by
  unfold isET at h
  split at h
  · split at h
    · cases h
      exact ⟨_, _, rfl, by assumption, rfl⟩
    · cases h
  · cases h
theorem e_isET {ns ys zs : List Str} {e : Expr} {es : List Expr} {m : M D} {k : Nat} {p pt pos : Pos} (T : XTab X.K X.mg ns ys) (h : PE X e (tM c m)) (hm : X.mg "isinstance" = none) (hp : PA X es (GlA X.K zs)) (hz : ∀ z ∈ zs, z ∈ ys := by decide) (hlen : zs.length ≤ 100 := by decide) (hK : c.K = X.K := by rfl) (hg : Gl X "isinstance" := by rfl)
    (hs1 : starEach [e, .Tuple es k pt] X.env = (false, eval e X.env) :: starEach [.Tuple es k pt] X.env := by rfl) (hs2 : starEach [.Tuple es k pt] X.env = (false, eval (.Tuple es k pt) X.env) :: starEach [] X.env := by rfl) (hpl : (backTo pos (starEach [.Tuple es k pt] X.env)).any (·.1) = false := by rfl) :
    PE X (.Call (.Name "isinstance" p) [e, .Tuple es k pt] [] pos) (tM c (una (isET ns zs) m)) :=
  pe_cq (pe_callB call_isXT hg hm (by decide +kernel) (pa_cons h (pa_cons (pe_tup hp) pa_nil hs2) hs1) (by decide) (by decide) hs1 hpl) fun st H Q ⟨pa, H0, F0, F, r, ok, po⟩ => seqM ok po fun d r1 F1 H1 v k1 e1 dp q => by
    obtain ⟨z, hz2, q⟩ := opt_po q
    obtain ⟨nm, kv, rfl, hn, rfl⟩ := isET_some hz2
    refine ⟨by rw [List.length_map, sizeLine_eq]; omega, fun tp np => ?_⟩
    have k2 := k1.lay (o := .tup (zs.map fun y => V.ref (He.ga X.K y))) np
    obtain ⟨a, rfl, g1, g2⟩ := rp_exAt dp k2.fH
    exact ⟨a, He.ga c.K nm, tp, _, _, _, rfl, upd_same, fun ws hw => vals_gl hw, g1, by rw [← hK]; exact g2.c, by rw [hK]; exact kitAny_gl fun y hy => T.is nm hn y (hz y hy), q F1 _ _ k2 e1 (.bl _)⟩
/-! .. of built-in classes -/
def isiTD : List String → D → Option D
  | [], _ => some (.bool false)
  | T :: Ts, d => match isiD T d with
    | some (.bool true) => some (.bool true)
    | some (.bool false) => isiTD Ts d
    | _ => none
theorem kitAny_ty {K : PySem.W.Frag} {t : Value} {d : D} (h : ∀ T z, isiD T d = some z → ∃ b, z = .bool b ∧ PySem.W.kitOne K t (.type T) = some b) : ∀ {Ts : List String} {z : D}, isiTD Ts d = some z → ∃ b, z = .bool b ∧ PySem.W.kitAny K t (Ts.map Value.type) = some b
  | [], z, e => by
    cases e
    exact ⟨false, rfl, rfl⟩
  | T :: Ts, z, e => by
    unfold isiTD at e
    cases hi : isiD T d with
    | none =>
      rw [hi] at e
      cases e
    | some y =>
      obtain ⟨b, rfl, hb⟩ := h T y hi
      rw [hi] at e
      rw [List.map_cons]
      unfold PySem.W.kitAny
      rw [hb]
      cases b with
      | true =>
        cases e
        exact ⟨true, rfl, rfl⟩
      | false => exact kitAny_ty h e
theorem paired_ty : ∀ Ts : List String, Paired ClsV (Ts.map V.ty) (Ts.map Value.type)
  | [] => .nil
  | T :: Ts => .cons (.ty T) (paired_ty Ts)
theorem e_isiT {Ts : List String} {e : Expr} {es : List Expr} {m : M D} {k : Nat} {p pt pos : Pos} (h : PE X e (tM c m)) (hm : X.mg "isinstance" = none) (hp : PA X es (TyA Ts)) (hlen : Ts.length ≤ 100 := by decide) (hK : c.K = X.K := by rfl) (hg : Gl X "isinstance" := by rfl)
    (hs1 : starEach [e, .Tuple es k pt] X.env = (false, eval e X.env) :: starEach [.Tuple es k pt] X.env := by rfl) (hs2 : starEach [.Tuple es k pt] X.env = (false, eval (.Tuple es k pt) X.env) :: starEach [] X.env := by rfl) (hpl : (backTo pos (starEach [.Tuple es k pt] X.env)).any (·.1) = false := by rfl) :
    PE X (.Call (.Name "isinstance" p) [e, .Tuple es k pt] [] pos) (tM c (una (isiTD Ts) m)) :=
  pe_cq (pe_callB (callr_or call_isiT call_isXT) hg hm (by decide +kernel) (pa_cons h (pa_cons (pe_tup hp) pa_nil hs2) hs1) (by decide) (by decide) hs1 hpl) fun st H Q ⟨pa, H0, F0, F, r, ok, po⟩ => seqM ok po fun d r1 F1 H1 v k1 e1 dp q => by
    obtain ⟨z, hz2, q9⟩ := opt_po q
    refine ⟨by rw [List.length_map, sizeLine_eq]; omega, fun tp np => ?_⟩
    have k2 := k1.lay (o := .tup (Ts.map V.ty)) np
    by_cases hx : ∃ x kv, d = .dict (x :: kv)
    · obtain ⟨x, kv, rfl⟩ := hx
      obtain ⟨nm, rfl⟩ := rp_dict1 dp
      obtain ⟨a, rfl, g1, g2⟩ := rp_exAt dp k2.fH
      obtain ⟨b, rfl, hb⟩ := kitAny_ty (K := X.K) (t := .ref (He.ga c.K nm)) (fun T z hi => by
        rcases isiD_dict hi with ⟨x, kv, _, hT, rfl⟩ | hi
        · exact ⟨false, rfl, by rw [← hK]; exact g2.t T hT⟩
        · cases hi) hz2
      exact .inr ⟨a, He.ga c.K nm, tp, _, _, b, rfl, upd_same, fun ws hw => vals_ty hw, g1, by rw [← hK]; exact g2.c, hb, q9 F1 _ _ k2 e1 (.bl _)⟩
    · cases hn : tyName d with
      | none =>
        exfalso
        cases d with
        | dict kvs =>
          cases kvs with
          | nil => cases hn
          | cons x kv => exact hx ⟨x, kv, rfl⟩
        | _ => cases hn
      | some n =>
        obtain ⟨b, rfl, hb⟩ := kitAny_ty (K := X.K) (t := .type n) (fun T z hi => by
          rcases isiD_dict hi with ⟨x, kv, rfl, _⟩ | hi
          · exact absurd ⟨x, kv, rfl⟩ hx
          · rw [hn] at hi
            have hi : (kitB n T).map PyData.bool = some z := hi
            cases hk : kitB n T with
            | none =>
              rw [hk] at hi
              cases hi
            | some b =>
              rw [hk] at hi
              cases hi
              exact ⟨b, rfl, kit_ty hk⟩) hz2
        exact .inl ⟨v, tp, Ts.map V.ty, .type n, Ts.map Value.type, b, rfl, upd_same, paired_ty Ts, by rw [← hK]; exact ty_data dp k2.fH hn, hb, q9 F1 _ _ k2 e1 (.bl _)⟩
end

/-! ### the head with one more Bool -/
abbrev AlB : Type := He.AlD × Bool
def obsBG (n : Nat) (fa : List He.Fa) (fn : List He.DefD) (ex : PySem.W.Frag → Bool) (g : Addr → Option Obj) : AlB := (He.obsD fa fn (He.frG g (He.asD g n)), ex (He.frG g (He.asD g n)))
def SaysB (fa : List He.Fa) (fn : List He.DefD) (ex : PySem.W.Frag → Bool) (K : PySem.W.Frag) : Prop := He.SaysD fa fn K ∧ ex K = true
def hookB (n : Nat) (fa : List He.Fa) (fn : List He.DefD) (ex : PySem.W.Frag → Bool) : PySem.W.Hook where
  α := AlB
  obs := fun s => obsBG n fa fn ex s.heap.get?
  val := fun _ => (He.valD fn, true)
  says := fun _ h => ∃ K : PySem.W.Frag, K.In h ∧ SaysB fa fn ex K
  of := fun _ _ e => ⟨_, He.frG_in, congrArg (fun z : AlB => z.1) e, congrArg (fun z : AlB => z.2) e⟩
  keeps := fun _ _ _ ⟨K, hK, c⟩ k => ⟨K, PySem.W.Frag.In.keeps hK k, c⟩
theorem obsBG_eq {n : Nat} {fa : List He.Fa} {fn : List He.DefD} {ex : PySem.W.Frag → Bool} {g : Addr → Option Obj} {s : Shared} (h : ∀ a, g a = s.heap.get? a) : obsBG n fa fn ex g = (hookB n fa fn ex).obs s := by
  have e : g = s.heap.get? := funext h
  rw [e] <;> rfl
end Pu

namespace Pu
open PySem PySem.Spec PyProof.Rows L2
variable [TabT]
/-! ### zip of three tuples -/
def It3 (K : PySem.W.Frag) (l t r : Addr) : It where
  go := fun k Hh => ∃ (us ws rs : List V) (u v x : V), (SqT K Hh l us ∧ us[k]? = some u) ∧ (SqT K Hh t ws ∧ ws[k]? = some v) ∧ (SqT K Hh r rs ∧ rs[k]? = some x)
  yld := fun k Hh q Hn => ∃ (N : Addr) (u v x : V), (q = .ref N ∧ Hh N = none ∧ Hn = upd Hh N (.tup [u, v, x])) ∧ (∀ us, SqT K Hh l us → us[k]? = some u) ∧ (∀ ws, SqT K Hh t ws → ws[k]? = some v) ∧ (∀ rs, SqT K Hh r rs → rs[k]? = some x)
  stop := fun k Hh => ∃ us ws rs : List V, (SqT K Hh l us ∧ SqT K Hh t ws ∧ SqT K Hh r rs) ∧ (k ≤ us.length ∧ k ≤ ws.length ∧ k ≤ rs.length) ∧ (us.length = k ∨ ws.length = k ∨ rs.length = k)
def St3 (zz ti to p1 p2 p3 l t r : Addr) (k : Nat) (hh : Heap) : Prop := (IsZip hh zz ti to .none ∧ IsTupOf3 hh ti (.ref p1) (.ref p2) (.ref p3)) ∧ (∃ u v x, IsTupOf3 hh to u v x) ∧ (hh.IsTupleIter p1 l k ∧ hh.IsTupleIter p2 t k ∧ hh.IsTupleIter p3 r k)
theorem six {zz ti to p1 p2 p3 q : Addr} (h : q ∈ [zz, ti, to, p1, p2, p3]) : q = zz ∨ q = ti ∨ q = to ∨ q = p1 ∨ q = p2 ∨ q = p3 := by simpa using h
theorem turn_3 {P : Program} {w : World} {K : PySem.W.Frag} {elts : List Expr} {kk : Nat} {tpos : Pos} {l t r zz ti to p1 p2 p3 : Addr} (S : ZipSep3 zz ti to p1 p2 p3 [p1, l] [p2, t] [p3, r]) (n1 : l ≠ p1) (n2 : t ≠ p2) (n3 : r ≠ p3) :
    Turn P w K (.Tuple elts kk tpos) (It3 K l t r) [zz, ti, to, p1, p2, p3] zz (St3 zz ti to p1 p2 p3 l t r) where
  mem := List.mem_cons_self ..
  obj := fun k hh ⟨⟨a1, a2⟩, ⟨_, _, _, a3⟩, ⟨o1, e1, _, d1⟩, ⟨o2, e2, _, d2⟩, ⟨o3, e3, _, d3⟩⟩ q hq => by
    rcases six hq with rfl | rfl | rfl | rfl | rfl | rfl
    · exact ⟨_, a1, by simp⟩
    · exact ⟨_, a2, by simp⟩
    · exact ⟨_, a3, by simp⟩
    · exact ⟨o1, e1, by simp [d1]⟩
    · exact ⟨o2, e2, by simp [d2]⟩
    · exact ⟨o3, e3, by simp [d3]⟩
  keep := fun k hh hn ⟨⟨a1, a2⟩, ⟨u, v, x, a3⟩, a4, a5, a6⟩ kp => ⟨⟨kp zz (by simp) _ a1, kp ti (by simp) _ a2⟩, ⟨u, v, x, kp to (by simp) _ a3⟩, a4.at fun o => kp p1 (by simp) o, a5.at fun o => kp p2 (by simp) o, a6.at fun o => kp p3 (by simp) o⟩
  item := fun X hP hw hK hc k pins s σ Hh E I hf ⟨⟨a1, a2⟩, ⟨u0, v0, x0, a3⟩, a4, a5, a6⟩ ⟨us, ws, rs, u, v, x, ⟨q1, g1⟩, ⟨q2, g2⟩, q3, g3⟩ => by
    subst hP hw hK
    obtain ⟨is1, r1, b1, _⟩ := I.tuple q1
    obtain ⟨is2, r2, b2, _⟩ := I.tuple q2
    obtain ⟨is3, r3, b3, _⟩ := I.tuple q3
    obtain ⟨x1, y1, c1⟩ := r1.get g1
    obtain ⟨x2, y2, c2⟩ := r2.get g2
    obtain ⟨x3, y3, c3⟩ := r3.get g3
    have m1 : k < is1.toArray.size := by simpa using (List.getElem?_eq_some_iff.mp y1).1
    have m2 : k < is2.toArray.size := by simpa using (List.getElem?_eq_some_iff.mp y2).1
    have m3 : k < is3.toArray.size := by simpa using (List.getElem?_eq_some_iff.mp y3).1
    have hd : X.A.in1.handled = none := I.ok.hd hc
    have zl := Heap.lt_size a1
    refine wpAny_pyNext_zipD3_item S (Draws.tuple hd p1 l n1 is1.toArray) (Draws.tuple hd p2 t n2 is2.toArray) (Draws.tuple hd p3 r n3 is3.toArray) a1 a2 a3 ⟨a4, b1⟩ ⟨a5, b2⟩ ⟨a6, b3⟩ m1 m2 m3 fun z1 z2 z3 hn tk f1 f2 f3 w1 w2 w3 w4 wx w5 w6 w7 => ?_
    have f1 : z1 = x1 := by
      have : is1.toArray[k]? = some x1 := by simpa using y1
      rw [this] at f1
      exact (Option.some.inj f1).symm
    have f2 : z2 = x2 := by
      have : is2.toArray[k]? = some x2 := by simpa using y2
      rw [this] at f2
      exact (Option.some.inj f2).symm
    have f3 : z3 = x3 := by
      have : is3.toArray[k]? = some x3 := by simpa using y3
      rw [this] at f3
      exact (Option.some.inj f3).symm
    subst f1 f2 f3
    refine ⟨_, rfl, wpAny_letOwnedTupleGo_zip (s := { s with heap := hn, toks := tk }) w1 fun hq w8 sb => ?_⟩
    have nw := (sb.2 _ (Nat.ne_of_gt zl)).trans w5
    have Iq := I.turnedNew (t' := tk) (ch := [zz, ti, to, p1, p2, p3]) (h' := hq) (ob := .tup [u, v, x]) (fun c o nb e => (sb.2 c fun ez => nb (by simp [ez])).trans (w7 c o (fun ez => nb (by simp [ez])) (fun ez => nb (by simp [ez])) (fun ez => nb (by simp [ez])) (fun ez => nb (by simp [ez])) (fun ez => nb (by simp [ez])) e)) hf (Nat.le_refl _)
      ⟨by show 3 ≤ sizeLine; decide, [z1, z2, z3], .cons c1 (.cons c2 (.cons c3 .nil)), ⟨_, nw, rfl, _, rfl⟩⟩
    refine ⟨.ref s.heap.objs.size, _, Iq, rfl, ⟨_, u, v, x, ⟨rfl, I.hok.fresh (Nat.le_refl _), rfl⟩, fun us' e => ?_, fun ws' e => ?_, fun rs' e => ?_⟩, ⟨⟨w8, ?_⟩, ⟨z1, z2, z3, ?_⟩, ?_, ?_, ?_⟩, fun c hm => ?_⟩
    · rw [I.tuple_inj e q1]
      exact g1
    · rw [I.tuple_inj e q2]
      exact g2
    · rw [I.tuple_inj e q3]
      exact g3
    · exact (sb.2 _ S.TIz).trans (w7 _ _ S.TIz S.TITO S.TIi1 S.TIi2 S.TIi3 a2)
    · exact (sb.2 _ S.TOz).trans w2
    · exact w3.1.at fun o e => (sb.2 _ S.zi1.symm).trans e
    · exact w4.1.at fun o e => (sb.2 _ S.zi2.symm).trans e
    · exact wx.1.at fun o e => (sb.2 _ S.zi3.symm).trans e
    · have lt : c < s.heap.objs.size := by
        rcases six hm with rfl | rfl | rfl | rfl | rfl | rfl
        · exact zl
        · exact Heap.lt_size a2
        · exact Heap.lt_size a3
        · exact a4.elim fun o e => Heap.lt_size e.1
        · exact a5.elim fun o e => Heap.lt_size e.1
        · exact a6.elim fun o e => Heap.lt_size e.1
      rw [upd_ne (Nat.ne_of_lt lt)]
      exact (hf c hm).1
  done := fun X hP hw hK hc k pins s σ Hh E I hf ⟨⟨a1, a2⟩, ⟨u0, v0, x0, a3⟩, a4, a5, a6⟩ ⟨us, ws, rs, ⟨q1, q2, q3⟩, ⟨m1, m2, m3⟩, m4⟩ => by
    subst hP hw hK
    obtain ⟨is1, r1, b1, _⟩ := I.tuple q1
    obtain ⟨is2, r2, b2, _⟩ := I.tuple q2
    obtain ⟨is3, r3, b3, _⟩ := I.tuple q3
    have l1 := r1.length
    have l2 := r2.length
    have l3 := r3.length
    have hd : X.A.in1.handled = none := I.ok.hd hc
    refine wpAny_pyNext_zipD3_end S (Draws.tuple hd p1 l n1 is1.toArray) (Draws.tuple hd p2 t n2 is2.toArray) (Draws.tuple hd p3 r n3 is3.toArray) a1 a2 a3 ⟨a4, b1⟩ ⟨a5, b2⟩ ⟨a6, b3⟩ (by simp; omega) (by simp; omega) (by simp; omega) (by simp; omega) fun hn tk kp => ?_
    exact ⟨rfl, I.turnedL (t' := tk) (ch := [zz, ti, to, p1, p2, p3]) (fun c o nb e => kp c o (fun ez => nb (by simp [ez])) (fun ez => nb (by simp [ez])) (fun ez => nb (by simp [ez])) (fun ez => nb (by simp [ez])) (fun ez => nb (by simp [ez])) e) hf⟩
  self := fun A k s Q E st hq => wpAny_pyIter_zip st.1.1 hq
def iZip3 (K : PySem.W.Frag) (ta : TA) : TI := fun σ Hh R => ta σ Hh fun vs Hn => ∃ l t r us ws rs, vs = [.ref l, .ref t, .ref r] ∧ (SqT K Hn l us ∧ SqT K Hn t ws ∧ SqT K Hn r rs) ∧ R (It3 K l t r) Hn
theorem pi_zip3 {X : Cx} {e e2 e3 : Expr} {ta : TA} {p pos tpos : Pos} {elts : List Expr} {kk : Nat} (hg : Gl X "zip") (hm : X.mg "zip" = none) (ha : PA X [e, e2, e3] ta) (hs : starEach [e, e2, e3] X.env = (false, eval e X.env) :: starEach [e2, e3] X.env)
    (hpl : (backTo pos (starEach [e2, e3] X.env)).any (·.1) = false) : PI X (.Tuple elts kk tpos) (.Call (.Name "zip" p) [e, e2, e3] [] pos) (iZip3 X.K ta) := by
  refine ⟨fun pins s σ Hh R I h0 => Call_ (ld_blt I hg hm PyProof.Rows.boot_zip (PyProof.Rows.callWith_type1 (thn (ha.run pos pins s σ Hh _ I h0) fun us sn ⟨vs, Hn, In, rn, q⟩ => ?_) hs hpl))⟩
  obtain ⟨l, t, r, xs, ys, zs, rfl, ⟨q1, q2, q3⟩, q4⟩ := q
  obtain ⟨is1, r1, b1, _⟩ := In.tuple q1
  obtain ⟨is2, r2, b2, _⟩ := In.tuple q2
  obtain ⟨is3, r3, b3, _⟩ := In.tuple q3
  cases rn with
  | cons ra rr =>
    cases rr with
    | cons rb rr =>
      cases rr with
      | cons rc rr =>
        cases rr
        cases ra
        cases rb
        cases rc
        have ltl : l < sn.heap.objs.size := by
          obtain ⟨o, e, _⟩ := b1
          exact Heap.lt_size e
        have ltt : t < sn.heap.objs.size := by
          obtain ⟨o, e, _⟩ := b2
          exact Heap.lt_size e
        have ltr : r < sn.heap.objs.size := by
          obtain ⟨o, e, _⟩ := b3
          exact Heap.lt_size e
        refine zip_begins3 (begins_tuple l is1.toArray) (begins_tuple t is2.toArray) (begins_tuple r is3.toArray) b1 b2 b3 fun hn a1 a2 a3 a4 a5 a6 a7 a8 => wpAny_pyIter_zip a1 ?_
        have I2 : Inv X pins σ Hn { sn with heap := hn } := In.kept (t' := sn.toks) a8
        refine ⟨sn.heap.objs.size + 5, [sn.heap.objs.size + 5, sn.heap.objs.size + 3, sn.heap.objs.size + 4, sn.heap.objs.size, sn.heap.objs.size + 1, sn.heap.objs.size + 2], St3 (sn.heap.objs.size + 5) (sn.heap.objs.size + 3) (sn.heap.objs.size + 4) sn.heap.objs.size (sn.heap.objs.size + 1) (sn.heap.objs.size + 2) l t r, _, Hn, rfl, I2,
          turn_3 (zip_sep3 (by simpa using ltl) (by simpa using ltt) (by simpa using ltr)) (Nat.ne_of_lt ltl) (Nat.ne_of_lt (Nat.lt_succ_of_lt ltt)) (Nat.ne_of_lt (Nat.lt_add_right 2 ltr)), ⟨⟨a1, a2⟩, ⟨_, _, _, a3⟩, ⟨_, a4, rfl, rfl⟩, ⟨_, a5, rfl, rfl⟩, ⟨_, a6, rfl, rfl⟩⟩, fun c hc => ?_, q4⟩
        have le : sn.heap.objs.size ≤ c := by
          rcases six hc with rfl | rfl | rfl | rfl | rfl | rfl
          · exact Nat.le_add_right _ _
          · exact Nat.le_add_right _ _
          · exact Nat.le_add_right _ _
          · exact Nat.le_refl _
          · exact Nat.le_add_right _ _
          · exact Nat.le_add_right _ _
        exact In.fpOk le (In.hok.fresh le)
def zip3D : List D → List D → List D → List D
  | x :: xs, y :: ys, z :: zs => .tuple [x, y, z] :: zip3D xs ys zs
  | _, _, _ => []
theorem zip3D_len : ∀ xs ys zs : List D, (zip3D xs ys zs).length = min (min xs.length ys.length) zs.length
  | [], _, _ => by simp [zip3D]
  | _ :: _, [], _ => by simp [zip3D]
  | _ :: _, _ :: _, [] => by simp [zip3D]
  | x :: xs, y :: ys, z :: zs => by
    simp only [zip3D, List.length_cons, zip3D_len xs ys zs]
    omega
theorem zip3D_some : ∀ {xs ys zs : List D} {i : Nat} {d : D}, (zip3D xs ys zs)[i]? = some d → ∃ x y z, xs[i]? = some x ∧ ys[i]? = some y ∧ zs[i]? = some z ∧ d = .tuple [x, y, z]
  | [], _, _, _, _, h => by simp [zip3D] at h
  | _ :: _, [], _, _, _, h => by simp [zip3D] at h
  | _ :: _, _ :: _, [], _, _, h => by simp [zip3D] at h
  | x :: xs, y :: ys, z :: zs, 0, d, h => by
    simp [zip3D] at h
    exact ⟨x, y, z, rfl, rfl, rfl, h.symm⟩
  | x :: xs, y :: ys, z :: zs, i + 1, d, h => by
    simp only [zip3D, List.getElem?_cons_succ] at h ⊢
    exact zip3D_some h
theorem yl_zip3 {K : PySem.W.Frag} {F : Hp} {l t r : Addr} {vs ws us : List V} {ds es fs : List D} (h : SqT K F l vs) (hr : RpAll K F vs ds) (h' : SqT K F t ws) (hr' : RpAll K F ws es) (h2 : SqT K F r us) (hr2 : RpAll K F us fs) : Yl K F (It3 K l t r) (zip3D ds es fs) where
  go := fun i H hi e => by
    rw [zip3D_len] at hi
    have l1 := dpa_len hr
    have l2 := dpa_len hr'
    have l3 := dpa_len hr2
    exact ⟨vs, ws, us, vs[i]'(by omega), ws[i]'(by omega), us[i]'(by omega), ⟨e.t h, List.getElem?_eq_getElem (by omega)⟩, ⟨e.t h', List.getElem?_eq_getElem (by omega)⟩, e.t h2, List.getElem?_eq_getElem (by omega)⟩
  stop := fun H e => ⟨vs, ws, us, ⟨e.t h, e.t h', e.t h2⟩, by
    rw [zip3D_len, dpa_len hr, dpa_len hr', dpa_len hr2]
    omega⟩
  yld := fun i H x H' d hd e ⟨T, y1, y2, y3, ⟨e1, nT, e2⟩, q1, q2, q3⟩ => by
    obtain ⟨d1, d2, d3, g1, g2, g3, rfl⟩ := zip3D_some hd
    obtain ⟨v, h3, h4⟩ := dpa_get hr g1
    obtain ⟨w, h5, h6⟩ := dpa_get hr' g2
    obtain ⟨u, h7, h8⟩ := dpa_get hr2 g3
    have z1 := h3.symm.trans (q1 vs (e.t h))
    have z2 := h5.symm.trans (q2 ws (e.t h'))
    have z3 := h7.symm.trans (q3 us (e.t h2))
    cases z1
    cases z2
    cases z3
    exact .inr ⟨T, _, _, e1, nT, e2, rfl, .cons h4 (.cons h6 (.cons h8 .nil))⟩
def zip3Of : List D → Option (List D)
  | [.tuple xs, .tuple ys, .tuple zs] => some (zip3D xs ys zs)
  | _ => none
/-! ### x.insert(n, e) -/
noncomputable def sInsert (i : Nat) (mk m : M D) : M Fl := fun r => match getC i r with
  | some (.l _) => (mk r).bind fun k r => (m r).bind fun d r => match k, getC i r with
    | .int n, some (.l ds) => cI (ds.length < 16777216 ∧ 0 ≤ n ∧ n < 2 ^ 63) (.ok .nx (putC i (.l (ds.take n.toNat ++ [d] ++ ds.drop n.toNat)) r)) .no
    | _, _ => .no
  | _ => .no
theorem lays_non : Lays (tC .non) := fun st H Q h => h _ H fun _ _ e => e
section
variable {X : Cx} {c : Cc}
theorem i_zip3 {e e2 e3 : Expr} {ms : M (List D)} {p pos tpos : Pos} {elts : List Expr} {kk : Nat} (ha : PA X [e, e2, e3] (tA c ms)) (hm : X.mg "zip" = none) (hK : c.K = X.K := by rfl) (hg : Gl X "zip" := by rfl) (hs : starEach [e, e2, e3] X.env = (false, eval e X.env) :: starEach [e2, e3] X.env := by rfl)
    (hpl : (backTo pos (starEach [e2, e3] X.env)).any (·.1) = false := by rfl) : PI X (.Tuple elts kk tpos) (.Call (.Name "zip" p) [e, e2, e3] [] pos) (iM c (iBy zip3Of ms)) :=
  pi_cq (pi_zip3 hg hm ha hs hpl) fun st H R ⟨pa, H0, F0, F, r, ok, po⟩ => seqA ok po fun ds r1 F1 H1 vs k1 e1 dps q => by
    obtain ⟨xs, hx, q⟩ := opt_po q
    unfold zip3Of at hx
    split at hx
    · cases hx
      cases dps with
      | cons d1 t1 =>
        obtain ⟨v2, v3, rfl, d2, d3⟩ := rpa_two t1
        cases d1 with
        | tup g1 g2 =>
          cases d2 with
          | tup g3 g4 =>
            cases d3 with
            | tup g5 g6 => exact ⟨_, _, _, _, _, _, rfl, ⟨by rw [← hK]; exact k1.fH.t g1.s, by rw [← hK]; exact k1.fH.t g3.s, by rw [← hK]; exact k1.fH.t g5.s⟩, q F1 H1 _ k1 e1 (by rw [← hK]; exact yl_zip3 g1 g2 g3 g4 g5 g6)⟩
    · cases hx
theorem s_insert (i : Nat) {x : Str} {ek e : Expr} {mk m : M D} {px apos cpos pos : Pos} (hk : PE X ek (tM c mk)) (h : PE X e (tM c m)) (hK : c.K = X.K := by rfl) (hN : X.N[i]? = some x := by rfl) (hv : Vis X.env.scope x := by first | exact Or.inl rfl | exact Or.inr (Or.inl rfl) | exact Or.inr (Or.inr rfl)) (hd : (x == ("__debug__" : Str)) = false := by decide)
    (hcd : (x == ("__classdict__" : Str)) = false := by decide) (hs1 : starEach [ek, e] X.env = (false, eval ek X.env) :: starEach [e] X.env := by rfl) (hs2 : starEach [e] X.env = [(false, eval e X.env)] := by rfl)
    (hbase : attributeBase (.Name x px) "insert" X.env (eval (.Name x px) X.env) = eval (.Name x px) X.env := by rfl)
    (hfew : ((backTo cpos (starEach [ek, e] X.env)).all (fun x => !x.1) && (backToKw cpos (keywordEach [] X.env)).all (fun x => x.1.isSome) && decide (([ek, e] : List Expr).length + ([] : List Keyword).length + (if ([] : List Keyword).isEmpty then 0 else 1) < 30)) = true := by rfl)
    (hline : (apos.endLine == cpos.line) = true := by rfl) (hplain : (backTo cpos (starEach [e] X.env)).any (·.1) = false := by rfl) (hsw : swapsWith (.Call (.Attribute (.Name x px) "insert" apos) [ek, e] [] cpos) none pos.line X.env = pure false := by rfl) :
    PS X (.Expr (.Call (.Attribute (.Name x px) "insert" apos) [ek, e] [] cpos) pos) (sM c (sInsert i mk m)) :=
  ps_cq (ps_expr (pe_bm PySem.F.plainAttrs_list PySem.F.slot_list_insert PySem.F.type_list_insert mt_insert (pe_var (i := i) hN hv hd hcd) (pa_cons hk (pa_cons h pa_nil hs2) hs1) hbase hfew hline hs1 hplain) hsw) fun Dd st H ⟨pa, H0, F0, F, r, ok, po⟩ => by
    unfold sInsert at po
    split at po
    · rename_i ds0 hg
      obtain ⟨s0, hs0, hso0⟩ := getC_some hg
      obtain ⟨a, hst, nF, n0, vs0, hH0, hr0⟩ := ok.ownd hs0 hso0
      refine ⟨_, hst, .inl ⟨rfl, vs0, .inl (.inl hH0)⟩, ?_⟩
      refine seqM ok po fun k r1 F1 H1 v k1 e1 dp q9 => ?_
      refine seqM k1 q9 fun d r2 F2 H2 v2 k2 e2 dp2 q8 => ?_
      cases k with
      | int n =>
        cases hg1 : getC i r2 with
        | none =>
          rw [hg1] at q8
          exact q8.elim
        | some ct =>
          cases ct with
          | d kv =>
            rw [hg1] at q8
            exact q8.elim
          | t kv =>
            rw [hg1] at q8
            exact q8.elim
          | l ds =>
            rw [hg1] at q8
            dsimp only at q8
            rw [cI_eq] at q8
            split at q8
            · rename_i hl
              obtain ⟨s1, hs1, hso1⟩ := getC_some hg1
              obtain ⟨a1, hst1, nF1, n01, vs, hH1, hr1⟩ := k2.ownd hs1 hso1
              rw [hst] at hst1
              cases hst1
              cases rp_int dp
              refine ⟨a, vs, n, v2, rfl, rfl, hH1, by rw [dpa_len hr1, sizeLine_eq]; exact hl.1, hl.2.1, hl.2.2, ?_⟩
              exact q8 F2 _ st (k2.putC hg1 hst ⟨_, upd_same, dpa_app (dpa_app (dpa_take _ hr1) (.cons dp2 .nil)) (dpa_drop _ hr1)⟩) (e1.trans e2)
            · exact q8.elim
      | _ => exact q8.elim
    · exact po.elim
end
end Pu

namespace L2
open PySem PySem.Spec PyProof.Rows
section
variable {P : Program} {w : World} {A : Around} {E : Value → Shared → Prop} {s : Shared}
set_option maxRecDepth 100000 in
set_option maxHeartbeats 3200000 in
theorem call_set_lstI {l : Addr} {items : Array Value} (ns : List Int) {Q : Value → Shared → Prop} (hh : A.handled = none) (hl : s.heap.IsList l items) (hit : IntsAre items.toList ns) (hb : ns.length + 1 < scanBound)
    (h : ∀ (h' : Heap) (tk c : Nat), SetR w h' s.heap.objs.size (fun j => decide (j ∈ ns)) c → c ≤ ns.length → (∀ b o, s.heap.get? b = some o → h'.get? b = some o) → Q (.ref s.heap.objs.size) { s with heap := h', toks := tk }) :
    wpAny (model P w) A (call (.type "set") [.ref l]) Q E s := by
  have hisz : items.size = ns.length := by
    have q := IntsAre.length hit
    rw [Array.length_toList] at q
    exact q
  obtain ⟨c, tl, hmro⟩ := F.called_set.mro
  have hmade := F.called_set.made
  have hsub := F.called_set.sub
  refine wpAny_call (codeAny_of_tree ?_)
  show wpAny _ _ (callAny (.type "set") _) _ _ _
  refine wpAny_pure ⟨Code.quiet_builtin _ (by decide +kernel), codeAny_builtin F.entry_type_call ?_⟩
  rw [Around.under_plain (weight_type_call_type "set" [.ref l] []) rfl]
  have h1 := F.called_set.notType
  have h2 := F.called_set.canCreate
  have hct := F.typeCall_set_1 (.ref l)
  repeat (any_goals (first | assumption | wp_step))

  refine codeAny_mono (code_set_led1 (.ref l) (E := E) (Q₁ := fun obj s₁ => obj = .ref s.heap.objs.size ∧ s₁ = { s with heap := s.heap.push { cls := .type "set", dict := none, data := .set #[] 0 (.fresh 0 0 (!w.params.followText "set-order")) } }) ⟨rfl, rfl⟩) fun r s₁ hr => ?_
  cases r with
  | error e => exact hr
  | ok fl =>
    cases fl with
    | ret obj =>
      obtain ⟨rfl, rfl⟩ := hr
      have hS : (s.heap.push { cls := .type "set", dict := none, data := .set #[] 0 (.fresh 0 0 (!w.params.followText "set-order")) }).get? s.heap.objs.size = some { cls := .type "set", dict := none, data := .set #[] 0 (.fresh 0 0 (!w.params.followText "set-order")) } := Heap.get?_push_size _ rfl
      have hT : Shared.TypeIs { s with heap := s.heap.push { cls := .type "set", dict := none, data := .set #[] 0 (.fresh 0 0 (!w.params.followText "set-order")) } } (.ref s.heap.objs.size) "set" := ⟨_, hS, rfl⟩
      have hli := F.called_set.init.lookup
      have hbi := F.called_set.init.bind (.ref s.heap.objs.size)
      repeat (any_goals (first | assumption | wp_step))

      refine codeAny_mono (codeAny_call_builtin (R := wants (fun r s₂ => r = .none ∧ ∃ h' tk c, s₂ = { s with heap := h', toks := tk } ∧ SetR w h' s.heap.objs.size (fun j => decide (j ∈ ns)) c ∧ c ≤ ns.length ∧
          (∀ b o, s.heap.get? b = some o → h'.get? b = some o)) E) F.called_set.init.plain F.entry_set_init (check_set_init_1 hT ?_)) fun r₂ s₂ hr₂ => ?_
      · obtain ⟨ol, hol, hcl, nl, hdl⟩ := hl
        obtain ⟨ocls, odict, odata, oslots⟩ := ol
        simp only at hcl hdl
        subst hcl; subst hdl
        have hol' : (s.heap.push { cls := .type "set", dict := none, data := .set #[] 0 (.fresh 0 0 (!w.params.followText "set-order")) }).get? l = some { cls := .type "list", dict := odict, data := .seq items nl, slots := oslots } := Heap.get?_push_of_some _ hol
        have hsls := F.sub_list_set
        have hslf := F.sub_list_frozenset
        have hne : (Value.type "list" == Value.type "dict") = false := by decide
        have hl1 : (s.heap.push { cls := .type "set", dict := none, data := .set #[] 0 (.fresh 0 0 (!w.params.followText "set-order")) }).IsList l items := ⟨_, hol', rfl, nl, rfl⟩
        unfold Builtin.«set.__init__» noKeywords Builtin.Frozenset.updateFrom
        generalize hPI : pyIter = PI
        wp_walk
        subst hPI

        refine wpAny_pyIter_list hl1 ?_
        refine wpAny_bind (wpAny_runValue ?_)
        have hlS : l < s.heap.objs.size := Heap.lt_size hol
        have hh3 : A.in1.in1.in1.handled = none := by simp [hh]
        have hz1 : (s.heap.push { cls := .type "set", dict := none, data := .set #[] 0 (.fresh 0 0 (!w.params.followText "set-order")) }).objs.size = s.heap.objs.size + 1 := Heap.size_push ..
        have hneI : l ≠ (s.heap.push { cls := .type "set", dict := none, data := .set #[] 0 (.fresh 0 0 (!w.params.followText "set-order")) }).objs.size := by
          rw [Heap.size_push]; exact Nat.ne_of_lt (Nat.lt_succ_of_lt hlS)
        have hSf : s.heap.objs.size ∉ [(s.heap.push { cls := .type "set", dict := none, data := .set #[] 0 (.fresh 0 0 (!w.params.followText "set-order")) }).objs.size, l] := by
          rw [Heap.size_push]; simp only [List.mem_cons, List.mem_singleton, List.not_mem_nil, or_false, not_or]
          exact ⟨Nat.ne_of_lt (Nat.lt_succ_self _), Nat.ne_of_gt hlS⟩
        have hval : ∀ (i : Nat) (v : Value), items[i]? = some v → ∃ k t, ns[i]? = some k ∧ v = .int k t := fun i v hv => by
          have hi : i < ns.length := by rw [← hisz]; exact (Array.getElem?_eq_some_iff.mp hv).1
          obtain ⟨t, e⟩ := PyProof.Rows.IntsAre.int_at hit i v (by rw [Array.getElem?_toList]; exact hv)
          refine ⟨ns[i], t, List.getElem?_eq_getElem hi, ?_⟩
          rw [e, List.getD_eq_getElem?_getD, List.getElem?_eq_getElem hi] <;> rfl
        refine set_update_ints ((Walks.list hh3 _ l hneI items).toS) s.heap.objs.size
          hSf ns hisz hb hval (items.size - 0) 0 _ (by omega) (Nat.zero_le _)
          ⟨⟨_, Heap.get?_push_size _ rfl, rfl, rfl⟩, (hl1.push _)⟩ ?hS0 ?hR
        case hS0 =>
          have hget : ((s.heap.push { cls := .type "set", dict := none, data := .set #[] 0 (.fresh 0 0 (!w.params.followText "set-order")) }).push { cls := .type "list_iterator", data := .fields #[.ref l, .int 0 0] }).get? s.heap.objs.size
              = some { cls := .type "set", dict := none, data := .set #[] 0 (.fresh 0 0 (!w.params.followText "set-order")) } := Heap.get?_push_of_some _ hS
          exact ⟨0, Nat.le_refl 0, setR_new_at hget⟩
        case hR =>
          intro s' c' hm hc' hS'
          obtain ⟨h', g2, d', tk', os'⟩ := s'
          have eg : g2 = s.gens := hm.gens
          have ed : d' = s.drawn := hm.drawn
          have eo : os' = s.os := hm.os
          subst eg; subst ed; subst eo
          show wpAny _ _ _ _ _ _
          refine wpAny_pure ?_
          show wpAny _ _ (ret Value.none) _ _ _
          rw [hisz] at hc'
          refine wpAny_pure ⟨rfl, h', tk', c', rfl, hS', hc', fun b o e => ?_⟩
          have hb0 : b < s.heap.objs.size := Heap.lt_size e
          have hb1 : b ≠ s.heap.objs.size := Nat.ne_of_lt hb0
          have hb2 : b ≠ (s.heap.push { cls := .type "set", dict := none, data := .set #[] 0 (.fresh 0 0 (!w.params.followText "set-order")) }).objs.size := by
            rw [Heap.size_push]; exact Nat.ne_of_lt (Nat.lt_succ_of_lt hb0)
          exact hm.heap b o (by simp only [List.mem_cons, List.mem_singleton, List.not_mem_nil, or_false, not_or]; exact ⟨hb1, hb2⟩) (Heap.get?_push_of_some _ (Heap.get?_push_of_some _ e))

      · cases r₂ with
        | error e => exact hr₂
        | ok fl₂ =>
          cases fl₂ with
          | ret r =>
            obtain ⟨rfl, h', tk, c', rfl, hS', hc', hk'⟩ := hr₂
            repeat (any_goals (first | assumption | wp_step))
            exact h _ _ _ hS' hc' hk'
          | _ => exact hr₂.elim
    | _ => exact hr.elim

end
end L2
namespace Pu
open PySem PySem.Spec PyProof.Rows L2
variable [TabT]
/-! ### sorted(set(a list of ints)) -/
def insU (k : Int) : List Int → List Int
  | [] => [k]
  | x :: xs => if k < x then k :: x :: xs else if k = x then x :: xs else x :: insU k xs
def sset : List Int → List Int
  | [] => []
  | k :: ks => insU k (sset ks)
theorem insU_mem (k j : Int) : ∀ l : List Int, j ∈ insU k l ↔ j = k ∨ j ∈ l
  | [] => by simp [insU]
  | x :: xs => by
    unfold insU
    split
    · simp
    · split
      · rename_i h
        subst h
        simp
      · simp [insU_mem k j xs]
        constructor
        · rintro (h | h | h) <;> simp [h]
        · rintro (h | h | h) <;> simp [h]
theorem insU_pw (k : Int) : ∀ l : List Int, l.Pairwise (· < ·) → (insU k l).Pairwise (· < ·)
  | [], _ => by simp [insU]
  | x :: xs, h => by
    unfold insU
    rw [List.pairwise_cons] at h
    split
    · rename_i hk
      rw [List.pairwise_cons, List.pairwise_cons]
      refine ⟨fun y hy => ?_, h⟩
      rcases List.mem_cons.mp hy with rfl | hy
      · exact hk
      · exact Int.lt_trans hk (h.1 y hy)
    · split
      · exact List.pairwise_cons.mpr h
      · rw [List.pairwise_cons]
        refine ⟨fun y hy => ?_, insU_pw k xs h.2⟩
        rcases (insU_mem k y xs).mp hy with rfl | hy
        · omega
        · exact h.1 y hy
theorem sset_mem (j : Int) : ∀ l : List Int, j ∈ sset l ↔ j ∈ l
  | [] => by simp [sset]
  | k :: ks => by simp [sset, insU_mem, sset_mem j ks]
theorem sset_pw : ∀ l : List Int, (sset l).Pairwise (· < ·)
  | [] => by simp [sset]
  | k :: ks => insU_pw k _ (sset_pw ks)
theorem insU_len (k : Int) : ∀ l : List Int, (insU k l).length ≤ l.length + 1
  | [] => by simp [insU]
  | x :: xs => by
    unfold insU
    have := insU_len k xs
    split
    · simp
    · split <;> simp <;> omega
theorem sset_len : ∀ l : List Int, (sset l).length ≤ l.length
  | [] => by simp [sset]
  | k :: ks => by
    have := sset_len ks
    have := insU_len k (sset ks)
    simp [sset]
    omega
theorem pw_uniq : ∀ {l m : List Int}, l.Pairwise (· < ·) → m.Pairwise (· < ·) → (∀ k, k ∈ l ↔ k ∈ m) → l = m
  | [], [], _, _, _ => rfl
  | [], y :: ys, _, _, h => by simpa using (h y).mpr (by simp)
  | x :: xs, [], _, _, h => by simpa using (h x).mp (by simp)
  | x :: xs, y :: ys, hl, hm, h => by
    rw [List.pairwise_cons] at hl hm
    have e : x = y := by
      have h1 := (h x).mp (by simp)
      have h2 := (h y).mpr (by simp)
      rcases List.mem_cons.mp h1 with e | e
      · exact e
      · rcases List.mem_cons.mp h2 with e2 | e2
        · exact e2.symm
        · have a := hm.1 x e
          have b := hl.1 y e2
          omega
    subst e
    refine congrArg _ (pw_uniq hl.2 hm.2 fun k => ?_)
    constructor
    · intro hk
      have a := hl.1 k hk
      rcases List.mem_cons.mp ((h k).mp (by simp [hk])) with e | e
      · omega
      · exact e
    · intro hk
      have a := hm.1 k hk
      rcases List.mem_cons.mp ((h k).mpr (by simp [hk])) with e | e
      · omega
      · exact e
theorem sset_uniq {l m : List Int} (h : l.Pairwise (· < ·)) (hm : ∀ k, k ∈ l ↔ k ∈ m) : l = sset m :=
  pw_uniq h (sset_pw m) fun k => by rw [hm, sset_mem]
theorem perm_of : ∀ {l m : List Int}, l.Nodup → m.Nodup → (∀ k, k ∈ l ↔ k ∈ m) → l.Perm m := fun {l m} a b h => (List.perm_ext_iff_of_nodup a b).mpr h
theorem rpa_of_ints {K : PySem.W.Frag} {F : Hp} : ∀ ns : List Int, RpAll K F (ns.map V.int) (ns.map .int)
  | [] => .nil
  | k :: ks => .cons (.int k) (rpa_of_ints ks)
def tSortSet (K : PySem.W.Frag) (ta : TE) : TE := fun σ H Q => ta σ H fun x H1 => ∃ (l : Addr) (ns : List Int), x = .ref l ∧ SqL K H1 l (ns.map V.int) ∧ ns.length < 1000 ∧ (sset ns).length < 64 ∧ ∀ p, H1 p = none → Q (.ref p) (upd H1 p (.lst ((sset ns).map V.int)))
theorem pe_sortSet {X : Cx} {a : Expr} {ta : TE} {p p2 q pos : Pos} (hg : Gl X "sorted") (hm : X.mg "sorted" = none) (hg2 : Gl X "set") (hm2 : X.mg "set" = none) (ha : PE X a ta) (hc : X.calm = true)
    (na : starEach [a] X.env = (false, eval a X.env) :: starEach [] X.env) (nb : starEach [.Call (.Name "set" p2) [a] [] q] X.env = (false, eval (.Call (.Name "set" p2) [a] [] q) X.env) :: starEach [] X.env) : PE X (.Call (.Name "sorted" p) [.Call (.Name "set" p2) [a] [] q] [] pos) (tSortSet X.K ta) := by
  refine ⟨fun pins s σ H Q I h => ?_⟩
  refine Call_ (ld_blt I hg hm boot_sorted ?_)
  refine PyProof.Rows.callWith_builtin1 (PyProof.Rows.args_cons ?_ rfl) rfl rfl
  refine Call_ (ld_blt I hg2 hm2 boot_set ?_)
  refine PyProof.Rows.callWith_type1 (PyProof.Rows.args_cons (thn (ha.run pins s σ H _ I h) fun v s1 ⟨x, H1, I1, r1, q1⟩ => PyProof.Rows.args_nil ?_) na) na rfl
  obtain ⟨l, ns, rfl, hq, hl, h64, q1⟩ := q1
  cases r1
  obtain ⟨its, r, pl, hz⟩ := I1.list hq
  refine call_set_lstI ns (I1.ok.hd hc) pl.isList (by simpa using RZ.intsAre_vals r) (by unfold scanBound; omega) fun h' tk c hS hcl hk => ?_
  refine PyProof.Rows.args_nil ?_
  have I2 : Inv X pins σ H1 { s1 with heap := h', toks := tk } := I1.kept fun b o e => hk b o e
  have S2 : SetR X.w ({ s1 with heap := h', toks := tk } : Shared).heap s1.heap.objs.size (fun j => decide (j ∈ ns)) c := hS
  have hd2 := I1.ok.hd hc
  generalize ({ s1 with heap := h', toks := tk } : Shared) = s2 at I2 S2 ⊢
  have hcn : c < 64 := by
    obtain ⟨o, es, ep, t, ho, hex, hd, hgood, hnd, hmem, hsb, hf, hn, _⟩ := S2
    have hp : (es.toList.map keyOf).Perm (sset ns) := by
      refine perm_of hnd ((sset_pw ns).imp fun h => Int.ne_of_lt h) fun k => ?_
      rw [← hmem k, decide_eq_true_eq, sset_mem]
    have := hp.length_eq
    rw [List.length_map, Array.length_toList] at this
    omega
  refine sorted_set S2 hd2 hcn fun s' p out cc ms k g o hp hgt hi hs hmm hlen => ?_
  have hms : ms = sset ns := sset_uniq hs fun k => by rw [hmm, decide_eq_true_eq]
  subst hms
  have hln : ((sset ns).map V.int).length ≤ sizeLine := by rw [List.length_map, sizeLine_eq]; omega
  have hn : H1 p = none := I2.hok.fresh hp
  have J : Inv X pins σ (upd H1 p (.lst ((sset ns).map V.int))) { s2 with heap := s'.heap, gens := s'.gens, drawn := s'.drawn, toks := s'.toks } :=
    I2.call (ch := []) (Un.laid k hp hn) (I2.hok.laid k hp ⟨hln, out.toList, cc, vals_of_ints hi, hgt⟩) (by rw [g]; exact I2.bare) (fun _ z => nomatch z)
  have e : s' = { s2 with heap := s'.heap, gens := s'.gens, drawn := s'.drawn, toks := s'.toks } := by
    cases s'
    cases s2
    cases o
    rfl
  rw [e]
  exact ⟨.ref p, _, J, rfl, q1 p hn⟩
def unaO (g : D → Option (List D)) (ma : M D) : M RV := ma.bind fun x => M.opt ((g x).map fun z => .o (.l z))
noncomputable def ssetD : D → Option (List D)
  | .list ds => (intsOf ds).bind fun ns => cI (ns.length < 1000 ∧ (sset ns).length < 64) (some ((sset ns).map .int)) none
  | _ => none
theorem ssetD_some {ds : D} {z : List D} (h : ssetD ds = some z) : ∃ ns : List Int, ds = .list (ns.map .int) ∧ ns.length < 1000 ∧ (sset ns).length < 64 ∧ z = (sset ns).map .int := by
  unfold ssetD at h
  split at h
  · rename_i ds
    cases e : intsOf ds with
    | none =>
      rw [e] at h
      cases h
    | some ns =>
      rw [e] at h
      have h : cI (ns.length < 1000 ∧ (sset ns).length < 64) (some ((sset ns).map PyData.int)) none = some z := h
      rw [cI_eq] at h
      split at h
      · rename_i hh
        cases h
        exact ⟨ns, by rw [intsOf_some e], hh.1, hh.2, rfl⟩
      · cases h
  · cases h
section
variable {X : Cx} {c : Cc}
theorem o_sset {a : Expr} {m : M D} {p p2 q pos : Pos} (hm : X.mg "sorted" = none) (hm2 : X.mg "set" = none) (ha : PE X a (tM c m)) (hK : c.K = X.K := by rfl) (hg : Gl X "sorted" := by rfl) (hg2 : Gl X "set" := by rfl) (hc : X.calm = true := by rfl)
    (na : starEach [a] X.env = (false, eval a X.env) :: starEach [] X.env := by rfl) (nb : starEach [.Call (.Name "set" p2) [a] [] q] X.env = (false, eval (.Call (.Name "set" p2) [a] [] q) X.env) :: starEach [] X.env := by rfl) : PE X (.Call (.Name "sorted" p) [.Call (.Name "set" p2) [a] [] q] [] pos) (tO c (unaO ssetD m)) :=
  pe_cq (pe_sortSet hg hm hg2 hm2 ha hc na nb) fun st H Q ⟨pa, H0, F0, F, r, ok, po⟩ => seqM ok po fun d r1 F1 H1 v k1 e1 dp q => by
    obtain ⟨z, hz, q3⟩ := opt_po q
    cases hg2 : ssetD d with
    | none =>
      rw [hg2] at hz
      cases hz
    | some w =>
      rw [hg2] at hz
      cases hz
      obtain ⟨ns, e, h1, h2, rfl⟩ := ssetD_some hg2
      cases e
      cases dp with
      | @lst a vs ds g1 g2 =>
        have e := rpa_ints g2
        subst e
        exact ⟨a, ns, rfl, by rw [← hK]; exact k1.fH.l g1, h1, h2, fun p np => oA_end k1 (fun F' H' v ok ex dp => q3 F' H' v ok (e1.trans ex) dp) p _ np (rpa_of_ints _)⟩
end
/-! ### sorted(a list of ints) -/
def insS (k : Int) : List Int → List Int
  | [] => [k]
  | x :: xs => if k ≤ x then k :: x :: xs else x :: insS k xs
def isort : List Int → List Int
  | [] => []
  | k :: ks => insS k (isort ks)
theorem insS_perm (k : Int) : ∀ l : List Int, (insS k l).Perm (k :: l)
  | [] => .refl _
  | x :: xs => by
    unfold insS
    split
    · exact .refl _
    · exact ((insS_perm k xs).cons x).trans (.swap k x xs)
theorem isort_perm : ∀ l : List Int, (isort l).Perm l
  | [] => .refl _
  | k :: ks => (insS_perm k _).trans ((isort_perm ks).cons k)
theorem insS_pw (k : Int) : ∀ l : List Int, l.Pairwise (· ≤ ·) → (insS k l).Pairwise (· ≤ ·)
  | [], _ => by simp [insS]
  | x :: xs, h => by
    unfold insS
    rw [List.pairwise_cons] at h
    split
    · rename_i hk
      rw [List.pairwise_cons, List.pairwise_cons]
      refine ⟨fun y hy => ?_, h⟩
      rcases List.mem_cons.mp hy with rfl | hy
      · exact hk
      · exact Int.le_trans hk (h.1 y hy)
    · rw [List.pairwise_cons]
      refine ⟨fun y hy => ?_, insS_pw k xs h.2⟩
      rcases List.mem_cons.mp ((insS_perm k xs).mem_iff.mp hy) with rfl | hy
      · omega
      · exact h.1 y hy
theorem isort_pw : ∀ l : List Int, (isort l).Pairwise (· ≤ ·)
  | [] => by simp [isort]
  | k :: ks => insS_pw k _ (isort_pw ks)
theorem pw_uniq2 {l m : List Int} (hl : l.Pairwise (· ≤ ·)) (hm : m.Pairwise (· ≤ ·)) (h : l.Perm m) : l = m := by
  induction l generalizing m with
  | nil => exact h.nil_eq
  | cons x xs ih =>
    cases m with
    | nil => exact absurd h.symm.nil_eq (by simp)
    | cons y ys =>
      rw [List.pairwise_cons] at hl hm
      have e : x = y := by
        have a : x ∈ y :: ys := h.mem_iff.mp (by simp)
        have b : y ∈ x :: xs := h.mem_iff.mpr (by simp)
        rcases List.mem_cons.mp a with e | e
        · exact e
        · rcases List.mem_cons.mp b with e2 | e2
          · exact e2.symm
          · have := hm.1 x e
            have := hl.1 y e2
            omega
      subst e
      rw [ih hl.2 hm.2 h.cons_inv]
def sortD : List D → Option (List D)
  | [.list ds] => (intsOf ds).map fun ns => (isort ns).map .int
  | _ => none
theorem sort_data {X : Cx} {c : Cc} (hK : c.K = X.K := by rfl) : CallR X (.builtin "sorted") (rDAo c.K sortD) := callr_cq cr_sortedI fun xs H Q ⟨F, ds, z, fh, dps, hz, q⟩ => by
  unfold sortD at hz
  split at hz
  · rename_i es
    cases e : intsOf es with
    | none =>
      rw [e] at hz
      cases hz
    | some ns =>
      rw [e] at hz
      cases hz
      rw [intsOf_some e] at dps
      obtain ⟨v, rfl, dp⟩ := rpa_one dps
      cases dp with
      | @lst a vs _ g1 g2 =>
        have e := rpa_ints g2
        subst e
        refine ⟨a, ns, rfl, by rw [← hK]; exact fh.l g1, fun ns' p pm pw np => ?_⟩
        have : ns' = isort ns := pw_uniq2 pw (isort_pw ns) (pm.trans (isort_perm ns).symm)
        subst this
        exact q p _ np (rpa_of_ints _)
  · cases hz
end Pu

namespace Pu
open PySem PySem.Spec PyProof.Rows L2
variable [TabT]
def clsS : Stmt → Nat → Stmt
  | .ClassDef _ _ _ body _ _ _ _ _ _ _, j => body.getD j (.Pass ⟨0, 0, 0, 0⟩)
  | s, _ => s
/-! ### the fields of a caught exception -/
def kvGet (n : Str) : List (D × D) → Option D
  | (.str m, d) :: kv => if n = m then some d else kvGet n kv
  | _ => none
def fldD (tab : List (Str × Str)) (n : Str) : D → Option D
  | .dict ((.str nm, .none) :: kv) => if (nm, n) ∈ tab then kvGet n kv else none
  | _ => none
def tFld (K : PySem.W.Frag) (n : Str) (te : TE) : TE := fun σ H Q => te σ H fun x H1 => ∃ (a dd : Addr) (nm : Str) (fs : List (Str × V)) (v : V), x = .ref a ∧ H1 a = some (CauO (.ref (He.ga K nm)) (some dd) a) ∧ H1 dd = some (.xd fs) ∧ ExcC K (He.ga K nm) ∧ PySem.W.findIn K (.ref (He.ga K nm)) n = some none ∧ fs.lookup n = some v ∧ Q v H1
theorem pe_fld {X : Cx} {e : Expr} {te : TE} {pos : Pos} {n : Str} (he : PE X e te) (hb : attributeBase e n X.env (eval e X.env) = eval e X.env) : PE X (.Attribute e n pos) (tFld X.K n te) := by
  refine ⟨fun pins s σ H Q I h => ?_⟩
  refine attr_of hb (thn (he.run pins s σ H _ I h) fun u s1 hh => ?_)
  obtain ⟨x, H1, I1, rx, a, dd, nm, fs, v, ex, ha, ea, T, hno, l, q⟩ := hh
  subst ex
  obtain rfl : u = Value.ref a := rx
  have hx0 : ObjOk X.prog X.w H1 s1.heap a (.ext fun h => ∃ (oe : Obj) (vs : Array Value), h.get? a = some oe ∧ Zc (.ref (He.ga X.K nm)) (some dd) oe ∧ oe.data = .fields vs) := I1.hok a _ ha
  obtain ⟨oe, vs, hoe, hz, hd⟩ := hx0.1
  have hx : ObjOk X.prog X.w H1 s1.heap dd (.xd fs) := I1.hok dd _ ea
  obtain ⟨mA, hns, hr⟩ := hx
  obtain ⟨od, ho, hl⟩ := lookIn_ns hns
  obtain ⟨u, hu, ru⟩ := RelO.some_of (v := v) (o := mA n) (by rw [← l]; exact hr n)
  have J : PySem.W.InstAt s1.heap a oe (He.ga X.K nm) (some od) := ⟨hoe, hz.1, by unfold PySem.W.notCls; rw [hd] <;> rfl, by rw [hz.2]; exact ho⟩
  exact HandSPX.exc_get I1.kIn J T.hg T.hk T.hs (PySem.W.findObj_own T.hd hno rfl (by rw [hl, hu])) (handed_of ru) ⟨v, H1, I1.tok _, ru, q⟩
theorem kvGet_ok {K : PySem.W.Frag} {H : Hp} {n : Str} : ∀ {kv : List (D × D)} {fs : List (Str × V)} {d : D}, kv.map (·.1) = fs.map (fun p => PyData.str p.1) → RpAll K H (fs.map (·.2)) (kv.map (·.2)) → kvGet n kv = some d → ∃ v, fs.lookup n = some v ∧ Rp K H v d
  | [], _, _, _, _, h => by cases h
  | (k, x) :: kv, [], _, e, _, _ => by cases e
  | (k, x) :: kv, (m, y) :: fs, d, e, r, h => by
    rw [List.map_cons, List.map_cons] at e
    obtain ⟨e1, e2⟩ := List.cons.inj e
    have e1 : k = .str m := e1
    subst e1
    have h : (if n = m then some x else kvGet n kv) = some d := h
    rw [lookup_put]
    cases r with
    | cons r1 r2 =>
      by_cases hn : n = m
      · rw [if_pos hn] at h ⊢
        cases h
        exact ⟨_, rfl, r1⟩
      · rw [if_neg hn] at h ⊢
        exact kvGet_ok e2 r2 h
def FTab (K : PySem.W.Frag) (tab : List (Str × Str)) : Prop := ∀ p ∈ tab, PySem.W.findIn K (.ref (He.ga K p.1)) p.2 = some none
def ftB (tab : List (Str × Str)) (K : PySem.W.Frag) : Bool := tab.all fun p => decide (PySem.W.findIn K (.ref (He.ga K p.1)) p.2 = some none)
theorem ftB_ok {K : PySem.W.Frag} {tab : List (Str × Str)} (h : ftB tab K = true) : FTab K tab := fun p hp => of_decide_eq_true (List.all_eq_true.mp h p hp)
theorem fldD_some {tab : List (Str × Str)} {n : Str} {d z : D} (h : fldD tab n d = some z) : ∃ nm kv, d = .dict ((.str nm, .none) :: kv) ∧ (nm, n) ∈ tab ∧ kvGet n kv = some z := by
  unfold fldD at h
  split at h
  · split at h
    · exact ⟨_, _, rfl, by assumption, h⟩
    · cases h
  · cases h
section
variable {X : Cx} {c : Cc}
theorem e_fld {tab : List (Str × Str)} {e : Expr} {m : M D} {n : Str} {pos : Pos} (T : FTab X.K tab) (h : PE X e (tM c m)) (hK : c.K = X.K := by rfl) (hb : attributeBase e n X.env (eval e X.env) = eval e X.env := by rfl) :
    PE X (.Attribute e n pos) (tM c (una (fldD tab n) m)) :=
  pe_cq (pe_fld h hb) fun st H Q ⟨pa, H0, F0, F, r, ok, po⟩ => seqM ok po fun d r1 F1 H1 v k1 e1 dp q => by
    obtain ⟨z, hz, q9⟩ := opt_po q
    obtain ⟨nm, kv, rfl, ht, hk⟩ := fldD_some hz
    cases dp with
    | exc0 _ _ => cases hk
    | @excF a dd _ fs _ g1 g2 g3 g4 g5 =>
      obtain ⟨v, hl, hv⟩ := kvGet_ok g4 g5 hk
      exact ⟨a, dd, nm, fs, v, rfl, by rw [← hK]; exact k1.fH.at_ _ _ g1 cau_ne, k1.fH.at_ _ _ g2 (fun ps z => nomatch z), by rw [← hK]; exact g3.c, T _ ht, hl, q9 F1 H1 _ k1 e1 hv⟩
end

/-! ### HouseError.__init__(self, ..) -/
structure HeI (K : PySem.W.Frag) (mg : Str → Option Value) : Prop where
  g : mg houseE = some (.ref (He.ga K houseE))
  rd : PySem.W.readsIn K (He.ga K houseE) (.type "type") = true
  ga : PySem.W.specialIn K (.ref (He.ga K houseE)) "__getattribute__" = some (some (.builtin "type.__getattribute__"))
  v : PySem.W.findCls K (.ref (He.ga K houseE)) (.type "type") "__init__" = some (.val (.builtin "ValueError.__init__"))
def heB (K : PySem.W.Frag) : Bool := PySem.W.readsIn K (He.ga K houseE) (.type "type") && (decide (PySem.W.specialIn K (.ref (He.ga K houseE)) "__getattribute__" = some (some (.builtin "type.__getattribute__"))) && (match PySem.W.findCls K (.ref (He.ga K houseE)) (.type "type") "__init__" with
  | some (.val (.builtin "ValueError.__init__")) => true
  | _ => false))
theorem heB_ok {K : PySem.W.Frag} {mg : Str → Option Value} (h : heB K = true) (g : mg houseE = some (.ref (He.ga K houseE))) : HeI K mg := by
  unfold heB at h
  simp only [Bool.and_eq_true, decide_eq_true_eq] at h
  obtain ⟨h1, h2, h3⟩ := h
  refine ⟨g, h1, h2, ?_⟩
  split at h3
  · assumption
  · cases h3
theorem pe_heinit {X : Cx} {e : Expr} {es : List Expr} {ta : TA} {p1 p2 pos : Pos} {pl : Sem Bool} (E : HeI X.K X.mg) (ha : PA X (e :: es) ta) (hg : Gl X houseE := by rfl)
    (hc : eval (.Call (.Attribute (.Name houseE p1) "__init__" p2) (e :: es) [] pos) X.env = (do
      let ov ← eval (.Name houseE p1) X.env
      standAt p2.atName
      let (f, first) ← holding [ov] (getMethod ov "__init__" pl)
      callWith pos f first (backTo pos (starEach (e :: es) X.env)) (backToKw pos (keywordEach [] X.env))) := by rfl)
    (he : starEach (e :: es) X.env = (false, eval e X.env) :: starEach es X.env := by rfl) (hpl : (backTo pos (starEach es X.env)).any (·.1) = false := by rfl) :
    PE X (.Call (.Attribute (.Name houseE p1) "__init__" p2) (e :: es) [] pos) (tVeI X.K ta) := by
  refine ⟨fun pins s σ H Q I h => ?_⟩
  refine PySem.W.methodCall_KW (ld_glob I hg E.g ?_ (by decide)) hc
  refine PySem.W.method_cls I.kIn E.ga (PySem.W.cls_value I.kIn E.rd E.v (by decide +kernel) ?_)
  show wpAny _ _ (callWith pos (Value.builtin "ValueError.__init__") [] (backTo pos (starEach (e :: es) X.env)) []) _ _ _
  refine PyProof.Rows.callWith_method1 (thn (ha.run pos pins _ σ H _ (I.tok _) h) fun us s1 ⟨vs, H1, I1, r1, a, C, ws, ev, hl, T, ea, q⟩ => ?_) he hpl
  subst ev
  cases r1 with
  | @cons _ u0 _ ur ra rw' =>
    obtain rfl : u0 = Value.ref a := ra
    have hlen : ur.length ≤ sizeLine := by
      rw [← Paired.length rw', sizeLine_eq]
      omega
    exact oinit_ok T I1 ea hlen fun s' J => ⟨.non, H1, J, rfl, q⟩

/-! ### the own __init__ of an exception: its fields are its parameters -/
def oexB (K : PySem.W.Frag) (C : Addr) : Bool := (match K.lookup C with
  | some ⟨.type "type", _, .cls cd, sl⟩ => (match cd.mro, sl.toList with
    | .ref C' :: bm, [_, _, _, _, some (.builtin n), _] => C' == C && (n == "ValueError.__new__" && (!cd.hasDel && (cd.hasDict && PySem.HandSPX.refsVE bm)))
    | _, _ => false)
  | _ => false) && (decide (PySem.W.findIn K (.ref C) "__setattr__" = some (some (.builtin "object.__setattr__"))) && (decide (PySem.W.subIn K (.ref C) (.type "BaseException") = some true) && (decide (PySem.W.typeIn K (.ref C) = some (.type "type")) && PySem.W.keepIn K (.ref C))))
theorem oexB_ok {K : PySem.W.Frag} {C : Addr} (h : oexB K C = true) : OexC K C := by
  unfold oexB at h
  simp only [Bool.and_eq_true, decide_eq_true_eq] at h
  obtain ⟨q, h1, h2, h3, h4⟩ := h
  refine ⟨?_, h1, h2, h3, h4⟩
  split at q
  · rename_i dd cd sl ho
    split at q
    · rename_i C' bm k0 k1 k2 k3 n k5 hm hs
      simp only [Bool.and_eq_true, beq_iff_eq, Bool.not_eq_true'] at q
      obtain ⟨rfl, rfl, hdel, hdc, hbm⟩ := q
      obtain ⟨nm, bs, mro, ns, qn, hd, sn, sub, ab, col, del⟩ := cd
      dsimp only at hm hdel hdc
      subst hm hdel hdc
      have hsl : sl = #[k0, k1, k2, k3, some (.builtin "ValueError.__new__"), k5] := by
        obtain ⟨l⟩ := sl
        simp only at hs
        rw [hs]
      subst hsl
      exact ⟨nm, qn, ns, bs, bm, sn, sub, ab, col, dd, k0, k1, k2, k3, k5, ho, hbm⟩
    · cases q
  · cases q
structure OeI (K : PySem.W.Frag) (mg : Str → Option Value) (nm : Str) (fs : List Str) : Prop where
  T : OexC K (He.ga K nm)
  g : mg nm = some (.ref (He.ga K nm))
  i : PySem.W.findIn K (.ref (He.ga K nm)) "__init__" = some (some (.ref (He.fAd K (nm, some "__init__"))))
  t : PySem.W.typeIn K (.ref (He.fAd K (nm, some "__init__"))) = some (.type "function")
  no : ∀ f ∈ fs, PySem.W.findIn K (.ref (He.ga K nm)) f = some none
def oeB (K : PySem.W.Frag) (nm : Str) (fs : List Str) : Bool := oexB K (He.ga K nm) && (decide (PySem.W.findIn K (.ref (He.ga K nm)) "__init__" = some (some (.ref (He.fAd K (nm, some "__init__"))))) && (decide (PySem.W.typeIn K (.ref (He.fAd K (nm, some "__init__"))) = some (.type "function")) && fs.all fun f => decide (PySem.W.findIn K (.ref (He.ga K nm)) f = some none)))
theorem oeB_ok {K : PySem.W.Frag} {mg : Str → Option Value} {nm : Str} {fs : List Str} (h : oeB K nm fs = true) (g : mg nm = some (.ref (He.ga K nm))) : OeI K mg nm fs := by
  unfold oeB at h
  simp only [Bool.and_eq_true, decide_eq_true_eq, List.all_eq_true] at h
  obtain ⟨h1, h2, h3, h4⟩ := h
  exact ⟨oexB_ok h1, g, h2, h3, h4⟩
def spI (C : Addr) (fs : List Str) : Sp := fun vs H Q _ => ∃ (a : Addr) (ys : List V), vs = .ref a :: ys ∧ ys.length = fs.length ∧ H a = some (exo a C none) ∧ ∀ dx, H dx = none → dx ≠ a → Q .non (upd (upd H dx (exd dx (fs.zip ys).reverse)) a (exo a C (some dx)))
abbrev CXn : CXT := fun _ _ _ _ _ _ => False
theorem spI_len {C : Addr} {fs : List Str} {vs : List V} {H : Hp} {Q : VK} {E : XK} (h : spI C fs vs H Q E) : vs.length = (("self" : Str) :: fs).length := by
  obtain ⟨a, ys, rfl, hl, _⟩ := h
  simp [hl]
theorem spI_1 {K : PySem.W.Frag} {mg : Str → Option Value} {nm f : Str} {m : Str} {vs : List V} {H : Hp} {Q : VK} {E : XK} (O : OeI K mg nm [f]) (h : spI (He.ga K nm) [f] vs H Q E) :
    tSeq (tDrop (tVeI K (tCons (tVar 0) (tCons (tC (.str m)) tNil)))) (tOst K f (tVar 0) (tVar 1)) { nx := fun _ G => Q .non G, rt := Q } (start ["self", f] vs) H := by
  obtain ⟨a, ys, rfl, hl, ha, q⟩ := h
  match ys, hl with
  | [y], _ =>
    refine ⟨.ref a, rfl, a, He.ga K nm, [.str m], rfl, by simp, O.T, ha, y, rfl, .ref a, rfl, a, He.ga K nm, rfl, O.T, O.no f (by simp), .inl ⟨ha, fun dx n ne => q dx n ne⟩⟩
theorem upd_comm {H : Hp} {a b : Addr} {o u v : HO} (h : b ≠ a) : upd (upd (upd H b o) a u) b v = upd (upd H b v) a u := by
  funext x
  by_cases h1 : x = b
  · subst h1
    rw [upd_same, upd_ne h, upd_same]
  · rw [upd_ne h1]
    by_cases h2 : x = a
    · subst h2
      rw [upd_same, upd_same]
    · rw [upd_ne h2, upd_ne h1, upd_ne h2, upd_ne h1]
theorem spI_2 {K : PySem.W.Frag} {mg : Str → Option Value} {nm f g : Str} {m : Str} {vs : List V} {H : Hp} {Q : VK} {E : XK} (O : OeI K mg nm [f, g]) (h : spI (He.ga K nm) [f, g] vs H Q E) :
    tSeq (tDrop (tVeI K (tCons (tVar 0) (tCons (tC (.str m)) tNil)))) (tSeq (tOst K f (tVar 0) (tVar 1)) (tOst K g (tVar 0) (tVar 2))) { nx := fun _ G => Q .non G, rt := Q } (start ["self", f, g] vs) H := by
  obtain ⟨a, ys, rfl, hl, ha, q⟩ := h
  match ys, hl with
  | [y, z], _ =>
    refine ⟨.ref a, rfl, a, He.ga K nm, [.str m], rfl, by simp, O.T, ha, y, rfl, .ref a, rfl, a, He.ga K nm, rfl, O.T, O.no f (by simp), .inl ⟨ha, fun dx n ne => ?_⟩⟩
    refine ⟨z, rfl, .ref a, rfl, a, He.ga K nm, rfl, O.T, O.no g (by simp), .inr ⟨dx, [(f, y)], upd_same, by rw [upd_ne ne, upd_same], by simp, ?_⟩⟩
    have := q dx n ne
    rw [upd_comm ne]
    exact this
structure IniK (P : Program) (w : World) (K : PySem.W.Frag) (mg : Str → Option Value) (base : Heap) (nm : Str) (fs : List Str) : Prop where
  o : OeI K mg nm fs
  ex : ∃ (fd : FuncData) (ps : List Str), FnOk P w K mg base CXn 1 (He.fAd K (nm, some "__init__")) fd ps (spI (He.ga K nm) fs) ∧ Binds K fd ps []
def sRaiseF (nm : Str) (fs : List Str) (ms : M (List D)) : M Fl := ms.bind fun ds => fun r => if ds.length = fs.length then .ex ⟨nm, (fs.zip ds).reverse⟩ r else .no
theorem rpa_rev {K : PySem.W.Frag} {H : Hp} : ∀ {vs : List V} {ds : List D} {ws : List V} {es : List D}, RpAll K H vs ds → RpAll K H ws es → RpAll K H (vs.reverse ++ ws) (ds.reverse ++ es)
  | [], _, _, _, .nil, h => h
  | v :: vs, d :: ds, ws, es, .cons a b, h => by
    rw [List.reverse_cons, List.reverse_cons, List.append_assoc, List.append_assoc]
    exact rpa_rev b (.cons a h)
theorem zip_snd {α β : Type} : ∀ {fs : List α} {ys : List β}, ys.length = fs.length → (fs.zip ys).map (·.2) = ys
  | [], [], _ => rfl
  | _ :: fs, _ :: ys, h => by simp [zip_snd (fs := fs) (ys := ys) (by simpa using h)]
theorem zip_fst {α β : Type} : ∀ {fs : List α} {ys : List β}, ys.length = fs.length → (fs.zip ys).map (·.1) = fs
  | [], [], _ => rfl
  | _ :: fs, _ :: ys, h => by simp [zip_fst (fs := fs) (ys := ys) (by simpa using h)]
theorem upd_del {H : Hp} {a d : Addr} {o u v w : HO} (ha : H a = none) (h : d ≠ a) : upd (del (upd (upd (upd H a o) d u) a v) a) d w = upd H d w := by
  funext x
  by_cases h1 : x = d
  · subst h1
    rw [upd_same, upd_same]
  · rw [upd_ne h1, upd_ne h1]
    by_cases h2 : x = a
    · subst h2
      rw [del_same, ha]
    · rw [del_ne h2, upd_ne h2, upd_ne h1, upd_ne h2]
section
variable {X : Cx} {c : Cc}
theorem s_raiseF {x : Str} {fs : List Str} {e : Expr} {es : List Expr} {ms : M (List D)} {p pos pos' : Pos} (R : IniK X.prog X.w X.K X.mg X.base x fs) (tk : Takes X c.W) (hr : Room 2 X.A) (ha : PA X (e :: es) (tA c ms)) (hf : fs.length ≤ 100 := by decide) (hK : c.K = X.K := by rfl) (hc : X.calm = true := by rfl) (hg : Gl X x := by rfl) (hdb : (x == ("__debug__" : Str)) = false := by decide)
    (he : starEach (e :: es) X.env = (false, eval e X.env) :: starEach es X.env := by rfl) (hpl : (backTo pos (starEach es X.env)).any (·.1) = false := by rfl) :
    PS X (.Raise (some (.Call (.Name x p) (e :: es) [] pos)) none pos') (sM c (sRaiseF x fs ms)) := by
  obtain ⟨fd, ps, F1, hb⟩ := R.ex
  have O := R.o
  refine ps_cq (ps_raise hc tk (pmk_oex (dvs := []) (ds := []) O.T O.i O.t F1 hr hb .nil (fun _ _ _ _ _ _ _ h => h.elim) hg O.g ha hdb he hpl)) fun Dd st H ⟨pa, H0, F0, F, r, ok, po⟩ => seqA ok po fun ds r1 F1 H1 vs k1 e1 dps q => ?_
  by_cases hl : ds.length = fs.length
  · have q : Po (XW c pa H0 F0 F1) (if ds.length = fs.length then Re.ex ⟨x, (fs.zip ds).reverse⟩ r1 else .no) _ := q
    rw [if_pos hl] at q
    have q : XW c pa H0 F0 F1 ⟨x, (fs.zip ds).reverse⟩ r1 := q
    have hv : vs.length = fs.length := (dpa_len dps).trans hl
    refine ⟨by omega, fun a na => ⟨a, vs, by simp, hv, upd_same, fun dx n ne => ⟨rfl, dx, _, upd_same, by rw [upd_ne ne, upd_same], ?_, ?_⟩⟩⟩
    · rw [upd_ne ne] at n
      exact n
    · rw [upd_ne ne] at n
      rw [upd_del na ne]
      refine q _ _ st _ _ (k1.layF n) (Ex.new (k1.fH.nn n)) ⟨by rw [hK], .inr ⟨dx, _, rfl, upd_same, ?_, ?_⟩⟩
      · rw [List.map_reverse, List.map_reverse, zip_fst hv, zip_fst hl]
      · rw [List.map_reverse, List.map_reverse, zip_snd hv, zip_snd hl]
        have := rpa_rev (dpa_mono (Ex.new (o := .xd (fs.zip vs).reverse) (k1.fH.nn n)) dps) .nil
        simpa using this
  · have q : Po (XW c pa H0 F0 F1) (if ds.length = fs.length then Re.ex ⟨x, (fs.zip ds).reverse⟩ r1 else .no) _ := q
    rw [if_neg hl] at q
    exact q.elim
end
/-! ### the head with the statics -/
def asC (g : Addr → Option Obj) (n : Nat) : List Addr := He.asD g n ++ [cStatics]
def obsCG (n : Nat) (fa : List He.Fa) (fn : List He.DefD) (ex : PySem.W.Frag → Bool) (g : Addr → Option Obj) : AlB := (He.obsD fa fn (He.frG g (asC g n)), ex (He.frG g (asC g n)))
def hookC (n : Nat) (fa : List He.Fa) (fn : List He.DefD) (ex : PySem.W.Frag → Bool) : PySem.W.Hook where
  α := AlB
  obs := fun s => obsCG n fa fn ex s.heap.get?
  val := fun _ => (He.valD fn, true)
  says := fun _ h => ∃ K : PySem.W.Frag, K.In h ∧ SaysB fa fn ex K
  of := fun _ _ e => ⟨_, He.frG_in, congrArg (fun z : AlB => z.1) e, congrArg (fun z : AlB => z.2) e⟩
  keeps := fun _ _ _ ⟨K, hK, c⟩ k => ⟨K, PySem.W.Frag.In.keeps hK k, c⟩
theorem obsCG_eq {n : Nat} {fa : List He.Fa} {fn : List He.DefD} {ex : PySem.W.Frag → Bool} {g : Addr → Option Obj} {s : Shared} (h : ∀ a, g a = s.heap.get? a) : obsCG n fa fn ex g = (hookC n fa fn ex).obs s := by
  have e : g = s.heap.get? := funext h
  rw [e] <;> rfl
end Pu

namespace Pu
open PySem PySem.Spec PyProof.Rows L2
/-! ### the tables of the defs that make lambdas -/
/-- the code object and its table of the global def x -/
def tabP (K : PySem.W.Frag) (x : Str) : Option (Addr × Addr) := match K.lookup (He.ga K x) with
  | some ⟨_, _, .func fd, _⟩ => (match fd.code with
    | .ref c => (match K.lookup c with
      | some ⟨_, _, .fields vs, _⟩ => (match (vs[11]? : Option Value) with
        | some (.ref P) => some (c, P)
        | _ => none)
      | _ => none)
    | _ => none)
  | _ => none
def lamQ (x : Str) : Str := (x ++ ".<locals>.") ++ "<lambda>"
def tabsN (ln : List Str) (K : PySem.W.Frag) : List (Addr × Str) := ln.filterMap fun x => (tabP K x).map fun p => (p.2, lamQ x)
def csN (ln : List Str) (K : PySem.W.Frag) : List (Addr × Addr) := ln.filterMap (tabP K)
def emptyT : Option Obj → Bool
  | some ⟨.none, none, .fields vs, sl⟩ => vs.isEmpty && sl.isEmpty
  | _ => false
theorem emptyT_ok {o : Option Obj} (h : emptyT o = true) : o = some { cls := .none, data := .fields #[] } := by
  unfold emptyT at h
  split at h
  · simp only [Bool.and_eq_true, Array.isEmpty_iff] at h
    obtain ⟨rfl, rfl⟩ := h
    rfl
  · cases h
def lamB (ln : List Str) (K : PySem.W.Frag) (g : Addr → Option Obj) : Bool := (ln.all fun x => match tabP K x with
  | some (c, P) => PySem.W.codeHdIn K c P && ((K.lookup P).isNone && emptyT (g P))
  | none => false) && (tabsN ln K).all fun p => (tabsN ln K).all fun q => !(p.1 == q.1) || p.2 == q.2
structure LamOk (ln : List Str) (K : PySem.W.Frag) (h : Heap) : Prop where
  at_ : ∀ x ∈ ln, ∃ c P, tabP K x = some (c, P) ∧ PySem.W.codeHdIn K c P = true ∧ K.lookup P = none ∧ h.get? P = some { cls := .none, data := .fields #[] }
  un : ∀ p ∈ tabsN ln K, ∀ q ∈ tabsN ln K, p.1 = q.1 → p.2 = q.2
theorem lamB_ok {ln : List Str} {K : PySem.W.Frag} {h : Heap} (e : lamB ln K h.get? = true) : LamOk ln K h := by
  unfold lamB at e
  simp only [Bool.and_eq_true, List.all_eq_true] at e
  obtain ⟨e1, e2⟩ := e
  refine ⟨fun x hx => ?_, fun p hp q hq z => ?_⟩
  · have q := e1 x hx
    cases ht : tabP K x with
    | none =>
      rw [ht] at q
      cases q
    | some cp =>
      obtain ⟨c, P⟩ := cp
      rw [ht] at q
      simp only [Bool.and_eq_true] at q
      obtain ⟨q1, q2, q3⟩ := q
      exact ⟨c, P, rfl, q1, Option.isNone_iff_eq_none.mp q2, emptyT_ok q3⟩
  · have y := e2 p hp q hq
    simp only [Bool.or_eq_true, Bool.not_eq_true', beq_iff_eq, beq_eq_false_iff_ne] at y
    rcases y with y | y
    · exact absurd z y
    · exact y
theorem LamOk.keeps {ln : List Str} {K : PySem.W.Frag} {h h' : Heap} (l : LamOk ln K h) (k : ∀ b o, h.get? b = some o → h'.get? b = some o) : LamOk ln K h' := ⟨fun x hx => by
  obtain ⟨c, P, q1, q2, q3, q4⟩ := l.at_ x hx
  exact ⟨c, P, q1, q2, q3, k _ _ q4⟩, l.un⟩
def asL (g : Addr → Option Obj) (n : Nat) (ln : List Str) : List Addr :=
  let as := He.asD g n ++ [cStatics]
  let ts := (csN ln (He.frG g as)).map (·.2)
  as.filter fun a => !ts.contains a
def obsLG (n : Nat) (fa : List He.Fa) (fn : List He.DefD) (ex : PySem.W.Frag → Bool) (ln : List Str) (g : Addr → Option Obj) : AlB := (He.obsD fa fn (He.frG g (asL g n ln)), ex (He.frG g (asL g n ln)) && lamB ln (He.frG g (asL g n ln)) g)
def hookL (n : Nat) (fa : List He.Fa) (fn : List He.DefD) (ex : PySem.W.Frag → Bool) (ln : List Str) : PySem.W.Hook where
  α := AlB
  obs := fun s => obsLG n fa fn ex ln s.heap.get?
  val := fun _ => (He.valD fn, true)
  says := fun _ h => ∃ K : PySem.W.Frag, K.In h ∧ SaysB fa fn ex K ∧ LamOk ln K h
  of := fun _ _ e => by
    have e2 := congrArg (fun z : AlB => z.2) e
    have e2 := Bool.and_eq_true_iff.mp e2
    exact ⟨_, He.frG_in, ⟨congrArg (fun z : AlB => z.1) e, e2.1⟩, lamB_ok e2.2⟩
  keeps := fun _ _ _ ⟨K, hK, c, l⟩ k => ⟨K, PySem.W.Frag.In.keeps hK k, c, l.keeps k⟩
theorem obsLG_eq {n : Nat} {fa : List He.Fa} {fn : List He.DefD} {ex : PySem.W.Frag → Bool} {ln : List Str} {g : Addr → Option Obj} {s : Shared} (h : ∀ a, g a = s.heap.get? a) : obsLG n fa fn ex ln g = (hookL n fa fn ex ln).obs s := by
  have e : g = s.heap.get? := funext h
  rw [e] <;> rfl
/-- what the law's start is told of the tables -/
theorem LamOk.cs {ln : List Str} {K : PySem.W.Frag} {h : Heap} (l : LamOk ln K h) (X : K.In h) : (∀ p ∈ csN ln K, h.get? p.2 = some { cls := .none, data := .fields #[] }) ∧ (∀ p ∈ csN ln K, K.lookup p.2 = none) ∧ (∀ p ∈ csN ln K, PySem.W.CodeHd h p.1 p.2) := by
  have key : ∀ p ∈ csN ln K, PySem.W.codeHdIn K p.1 p.2 = true ∧ K.lookup p.2 = none ∧ h.get? p.2 = some { cls := .none, data := .fields #[] } := fun p hp => by
    obtain ⟨x, hx, e⟩ := List.mem_filterMap.mp hp
    obtain ⟨c, P, q1, q2, q3, q4⟩ := l.at_ x hx
    rw [q1] at e
    cases e
    exact ⟨q2, q3, q4⟩
  exact ⟨fun p hp => (key p hp).2.2, fun p hp => (key p hp).2.1, fun p hp => PySem.W.codeHd_of_K X (key p hp).1⟩
theorem tabs_start {ln : List Str} {K : PySem.W.Frag} {H : Hp} (h : ∀ p ∈ csN ln K, H p.2 = some (.tbl #[])) : LamX.Tabs (tabsN ln K) H := fun p hp => by
  obtain ⟨x, hx, e⟩ := List.mem_filterMap.mp hp
  cases ht : tabP K x with
  | none =>
    rw [ht] at e
    cases e
  | some cp =>
    rw [ht] at e
    cases e
    exact LamX.TabS.nil (h cp (List.mem_filterMap.mpr ⟨x, hx, ht⟩))
/-! ### the lambda called, with no guard under way -/
section
open LamX
variable {X : Cx} {pins : List (Addr × Obj)} {σ : L2.St} {H HZ : Hp} {s s1 : Shared}
theorem lam_make3 {T : List (Addr × Str)} {c P : Addr} {params : Arguments} {body : Expr} {scope : Scope} {pos : Pos} {E : Value → Shared → Prop} {Q : Value → Shared → Prop} (I : Inv X pins σ H s) (TB : TabB X.base X.mg c P) (hcode : X.env.code = .ref c)
    (hm : (P, X.env.qual ++ "<lambda>") ∈ T) (hu : ∀ p ∈ T, p.1 = P → p.2 = X.env.qual ++ "<lambda>") (hT : Tabs T H) (hdef : defaultsOf params X.env = ([], [])) (hfree : ∀ y ∈ scope.names, y.2 = .free → ∃ c, X.env.cells.lookup y.1 = some c)
    (h : ∀ (f c' : Addr) (pm ctv : Value) (H1 : Hp) (s' : Shared), Inv X pins σ H1 s' → Ex H H1 → Tabs T H1 →
      s'.heap.get? f = some (PySem.W.kla_obj "<lambda>" (X.env.qual ++ "<lambda>") params body scope (cloFrom X.env.cells scope.names []) pm c' ctv) → H1 f = none → f ∉ frs X.stack → H1 c' = some (CodeO c' (X.env.qual ++ "<lambda>")) → Q (.ref f) s') :
    wpAny (model X.prog X.w) X.A (eval (.Lambda params body scope pos) X.env) Q E s := by
  obtain ⟨ps, hP, ht, ha⟩ := hT _ hm
  refine PySem.W.kla_eval hdef ?_
  have bP : s.heap.BuiltinsAt X.mg P := TB.bm.keeps I.bk
  have hP' : s.heap.get? P = some { cls := .none, data := .fields ps } := I.hok P _ hP
  have nofr : ∀ f, s.heap.objs.size ≤ f → f ∉ frs X.stack := fun f hf z => by
    rcases List.mem_cons.mp (I.stkSub _ z) with e | e
    · have h1 := I.lt
      rw [← e] at h1
      exact Nat.lt_irrefl _ (Nat.lt_of_lt_of_le h1 hf)
    · exact I.nofs hf e
  cases hc : codeAmong pos ps.toList with
  | none =>
    refine PySem.W.kla_makeFunction (mg := X.mg) (c := c) (P := P) (ps := ps) (closure_ok hfree) I.ok.glob (I.mod.glob.keeps I.bk) hcode (TB.code.keeps I.bk) hP' ht hc TB.gP bP fun c' ctv h' tk hx hge hlt hrec htb => ?_
    obtain ⟨c2, oc, vs, t, e2, hoc, hd, hv⟩ := hrec
    cases e2
    have hsz : s.heap.objs.size ≤ h'.objs.size := Nat.le_trans hge (Nat.le_of_lt hlt)
    have nC : H c' = none := I.hok.fresh hge
    have I1 := inv_table (t' := tk) (more := #[rawInt pos.line, rawInt pos.col, .ref c']) (h' := h'.push (PySem.W.kla_obj "<lambda>" (X.env.qual ++ "<lambda>") params body scope (cloFrom X.env.cells scope.names []) ((X.mg "__name__").getD .none) c' ctv)) I hP
      (fun b o hb e => Heap.get?_push_of_some _ (hx b o hb e)) (Heap.get?_push_of_some _ htb) hge ⟨oc, vs, t, Heap.get?_push_of_some _ hoc, hd, hv⟩
    have hE : ExtN H (upd (upd H P (.tbl (ps ++ #[rawInt pos.line, rawInt pos.col, .ref c']))) c' (CodeO c' (X.env.qual ++ "<lambda>"))) := fun b o e n => by
      rw [upd_ne (ne_of_none e nC), upd_ne (fun z => n ps (Option.some.inj (e.symm.trans (by rw [z]; exact hP))))]
      exact e
    have eL : (ps ++ #[rawInt pos.line, rawInt pos.col, .ref c']).toList = ps.toList ++ [rawInt pos.line, rawInt pos.col, .ref c'] := by simp
    have hG : Ex H (upd (upd H P (.tbl (ps ++ #[rawInt pos.line, rawInt pos.col, .ref c']))) c' (CodeO c' (X.env.qual ++ "<lambda>"))) := ⟨hE, fun b qs e => by
      rw [upd_ne (ne_of_none e nC)]
      by_cases hb : b = P
      · rw [hb, hP] at e
        cases e
        exact ⟨_, by rw [hb, upd_same]⟩
      · exact ⟨#[], by rw [upd_ne hb, Array.append_empty]; exact e⟩⟩
    refine h h'.objs.size c' ((X.mg "__name__").getD .none) ctv _ _ I1 hG (fun p hp => ?_) (Heap.get?_push_size _ rfl) ?_ (nofr _ hsz) upd_same
    · by_cases hb : p.1 = P
      · rw [hu p hp hb, hb]
        refine ⟨_, by rw [upd_ne (ne_of_none hP nC), upd_same], by rw [eL]; exact PySem.TriplesOk_snoc _ _ _ _ ht, fun p' cv hcv => ?_⟩
        rw [eL] at hcv
        rcases among_app _ ht hcv with z | z
        · obtain ⟨c0, e1, e2⟩ := ha p' cv z
          exact ⟨c0, e1, hE _ _ e2 codeO_ne⟩
        · exact ⟨c', z, upd_same⟩
      · obtain ⟨ps', a1, a2, a3⟩ := hT p hp
        refine ⟨ps', by rw [upd_ne (ne_of_none a1 nC), upd_ne hb]; exact a1, a2, fun p' cv hcv => ?_⟩
        obtain ⟨c0, e1, e2⟩ := a3 p' cv hcv
        exact ⟨c0, e1, hE _ _ e2 codeO_ne⟩
    · have n1 : h'.objs.size ≠ c' := Nat.ne_of_gt hlt
      have n2 : h'.objs.size ≠ P := Nat.ne_of_gt (Nat.lt_of_lt_of_le (Heap.lt_size hP') hsz)
      rw [upd_ne n1, upd_ne n2]
      exact I.hok.fresh hsz
  | some cv =>
    obtain ⟨c', e, hco⟩ := ha pos cv hc
    subst e
    refine PySem.W.kla_makeFunctionHit (mg := X.mg) (c := c) (P := P) (ps := ps) (closure_ok hfree) I.ok.glob (I.mod.glob.keeps I.bk) hcode (TB.code.keeps I.bk) hP' ht hc bP fun ctv h' tk hx hsz => ?_
    have I1 : Inv X pins σ H { s with heap := h'.push (PySem.W.kla_obj "<lambda>" (X.env.qual ++ "<lambda>") params body scope (cloFrom X.env.cells scope.names []) ((X.mg "__name__").getD .none) c' ctv), toks := tk } := I.kept fun b o e => Heap.get?_push_of_some _ (hx b o e)
    exact h h'.objs.size c' ((X.mg "__name__").getD .none) ctv H _ I1 (Ex.refl H) hT (Heap.get?_push_size _ rfl) (I.hok.fresh hsz) (nofr _ hsz) hco
/-- x(), in the def that got the lambda: Z is that def's context, entered at s -/
theorem pe_actG {CXg : CXT} {Eg : XK} {Ng : List Str} {qg : Str} {sg : Scope} {g f c' : Addr} {cdg pm ctv : Value} {params : Arguments} {body : Expr} {scope : Scope} {k i : Nat} {a : Str} {pn : List (Addr × Obj)} {xe : Value → Shared → Prop} {W : WX} {tb : XK → TE} {p1 p2 : Pos}
    (I : Inv X pins σ H s) (L : LamS X.env.scope scope) (hf : s.heap.get? f = some (PySem.W.kla_obj "<lambda>" (X.env.qual ++ "<lambda>") params body scope (cloFrom X.env.cells scope.names []) pm c' ctv)) (hfn : H f = none) (hfr : f ∉ frs X.stack)
    (hbind : bindArgs (PySem.W.kla_fn "<lambda>" (X.env.qual ++ "<lambda>") params body scope (cloFrom X.env.cells scope.names []) pm (.ref c') ctv) ⟨[], []⟩ = pure [])
    (tk : Takes ((cxOf CXg X.prog X.w X.K X.mg X.base Ng qg sg g cdg X.A X.stack s H Eg).tr pn xe) W) (hr : Rm (k + 1) (X.A.deeper (envOfC qg sg s.heap.objs.size g cdg)))
    (hbody : ∀ (E : XK) (A : Around) (outer : List Env) (s : Shared) (H : Hp), Rm k (A.deeper (lamEnv X scope s.heap.objs.size f c')) → PE (lamCx X A outer s H E scope f c') body (tb E))
    (hN : Ng[i]? = some a) (hv : Vis sg a) (hd : (a == ("__debug__" : Str)) = false := by decide) (hcd : (a == ("__classdict__" : Str)) = false := by decide) :
    PE ((cxOf CXg X.prog X.w X.K X.mg X.base Ng qg sg g cdg X.A X.stack s H Eg).tr pn xe) (.Call (.Name a p1) [] [] p2)
      (fun σZ HZ Q => σZ[i]? = some (some (.ref f)) ∧ HZ c' = some (CodeO c' (X.env.qual ++ "<lambda>")) ∧ tb (WE W σZ) σ HZ Q) := by
  refine ⟨fun pinsZ sZ σZ HZ Q IZ h => ?_⟩
  obtain ⟨hs, hc, ht⟩ := h
  refine wpAny_Call_Name_kw (thn ((pe_var (pos := p1) (i := i) hN hv hd hcd).run pinsZ sZ σZ HZ (fun v H1 => v = .ref f ∧ H1 = HZ) IZ ⟨.ref f, hs, rfl, rfl⟩) fun u s1 ⟨v, H1, I1, r1, q1⟩ => ?_)
  obtain ⟨ev, eH⟩ := q1
  subst ev
  rw [eH] at I1
  obtain rfl : u = Value.ref f := r1
  have of1 : s1.heap.get? f = some (PySem.W.kla_obj "<lambda>" (X.env.qual ++ "<lambda>") params body scope (cloFrom X.env.cells scope.names []) pm c' ctv) := I1.base.keep f _ hf hfn hfr (fun z => nomatch (show f ∈ ([] : List Addr) from z))
  refine PySem.W.callWith_F0 ⟨_, _, _, _, of1⟩ ?_
  have un : Un (frs X.stack) [] H HZ s.heap s1.heap := I1.base
  obtain ⟨⟨oc, vs, t, hoc, hdc, hvc⟩, _, _⟩ := I1.hok c' _ hc
  have rc : codeAny (model X.prog X.w) (X.A.deeper (envOfC qg sg s.heap.objs.size g cdg)) (.call (.ref f) ⟨[], []⟩) (CR (L2.CX X.prog X.w) (envOfC qg sg s.heap.objs.size g cdg :: X.stack) X.prog X.w HZ s1 Q (WE W σZ)) s1 := by
    refine PySem.W.kla_callFunE hr.room.depth of1 rfl L.co L.gen rfl ⟨c', oc, vs, t, rfl, hoc, hdc, hvc⟩ ?_
    rw [hbind]
    refine wpAny_pure (wpAny_newFunctionEnv (fun y hy => (L.own y hy).2) (fun y hy => absurd hy (by simp)) (fun h₁ hns hsb => ⟨I1.nolimit.fresh _ hsb, ?_⟩) L.kind)
    show codeAny _ _ (.expr body (lamEnv X scope s1.heap.objs.size f c')) _ _
    have kp : ∀ b o, s1.heap.get? b = some o → h₁.get? b = some o := fun b o e => hsb.extBut b o (Nat.ne_of_lt (Heap.lt_size e)) (Heap.get?_push_of_some _ e)
    have J : Inv (lamCx X (X.A.deeper (envOfC qg sg s.heap.objs.size g cdg)) (envOfC qg sg s.heap.objs.size g cdg :: X.stack) s1 HZ (WE W σZ) scope f c') [] σ HZ { s1 with heap := h₁, toks := s1.toks + ([] : List (Str × Value)).length } :=
      lam_start2 I L I1.env0 hr.room.hd un hns kp
    refine PySem.W.kla_codeExpr (wpAny_mono ((hbody _ _ _ s1 HZ (hr.deeper _ ⟨L.gen, L.co, rfl, rfl⟩)).run [] _ _ HZ Q J ht) (fun v s' hq => ?_) fun e s' hq => hq)
    obtain ⟨w', H', J', rv, q⟩ := hq
    exact ⟨w', H', J'.os, J'.bare, J'.base, J'.hok, rv, q⟩
  have hx := passAt tk σZ
  refine wpAny_call (codeAny_mono rc fun r s' hq => ?_)
  cases r with
  | error e => exact hx pinsZ HZ s1 e s' I1 hq
  | ok fl =>
    cases fl with
    | ret u => exact I1.after hq
    | next => exact False.elim hq
    | brk => exact False.elim hq
    | cont => exact False.elim hq
end
/-! ### the def that calls the lambda inside its try -/
abbrev E00 : XK := fun _ _ _ => False
section
open LamX
variable [TabT]
/-- the rest of that def, behind its try, with v in slot i -/
def RestQ (K : PySem.W.Frag) (mg : Str → Option Value) (n i : Nat) (br : M Fl) (v : V) (H : Hp) (Q : VK) : Prop := ∃ (pa : Nat → Addr) (F : Hp) (d : D), Rp K F v d ∧ Ex F H ∧ Tabs (TabT.T K) H ∧
  Po (XW (ccOf K mg E00) pa H F F) (br ((List.replicate n Sl.unk).set i (.v d))) fun fl r' => flEnd K pa H F F { nx := fun _ G => Q .non G, rt := Q } r' fl
def TTg (K : PySem.W.Frag) (mg : Str → Option Value) (n i : Nat) (br : M Fl) (tl : XK → Hp → VK → Prop) (H : Hp) (Q : VK) : Prop :=
  tl (fun cls d H' => PySem.W.exmOne K cls (.ref (He.ga K houseE)) = some true ∧ ∀ a, H' a = none → RestQ K mg n i br (.ref a) (upd H' a (CauO cls d a)) Q) H fun _ H' => RestQ K mg n i br .non H' Q
theorem okZ {K : PySem.W.Frag} {pa : Nat → Addr} {F H : Hp} {st : L2.St} {n i : Nat} {d : D} {v : V} (hl : st.length = n) (hv : st[i]? = some (some v)) (dp : Rp K F v d) (fh : Ex F H) (tb : Tabs (TabT.T K) H) : Ok K pa H F F H st ((List.replicate n Sl.unk).set i (.v d)) where
  hH := Ex.refl H
  fF := Ex.refl F
  fH := fh
  sep := fun _ _ h => h
  len := by simp [hl]
  sl := fun j s h ne => by
    by_cases e : i = j
    · subst e
      have hi : i < (List.replicate n Sl.unk).length := by
        have := (List.getElem?_eq_some_iff.mp h).1
        simpa using this
      rw [List.getElem?_set_self hi] at h
      cases h
      exact ⟨v, hv, dp⟩
    · rw [List.getElem?_set_ne e, List.getElem?_replicate] at h
      split at h
      · cases h
        exact absurd rfl ne
      · cases h
  tb := tb
  dis := fun j1 j2 s q c c' a ne h1 h2 o1 => by
    by_cases e : i = j1
    · subst e
      have hi : i < (List.replicate n Sl.unk).length := by
        have := (List.getElem?_eq_some_iff.mp h1).1
        simpa using this
      rw [List.getElem?_set_self hi] at h1
      cases h1
      cases o1
    · rw [List.getElem?_set_ne e, List.getElem?_replicate] at h1
      split at h1
      · cases h1
        cases o1
      · cases h1
/-- what a maker of a lambda asks of the def x that gets it -/
def GivesG (P : Program) (w : World) (K : PySem.W.Frag) (mg : Str → Option Value) (base : Heap) (kk : Nat) (n i : Nat) (br : M Fl) (x : Str) (N : List Str) (scope : Scope) (g : Addr) (bg : List Stmt) (a0 : Str) : Prop :=
  ∀ (cdv : Value) (A : Around) (ou : List Env) (s : Shared) (H : Hp) (f c' : Addr) (q : Str) (Q : VK) (tl : XK → Hp → VK → Prop), Rm kk (A.deeper (envOfC x scope s.heap.objs.size g cdv)) →
    (∀ (W : WX) (pn : List (Addr × Obj)) (xe : Value → Shared → Prop) (p1 p2 : Pos), Takes ((cxOf (L2.CX P w) P w K mg base N x scope g cdv A ou s H E00).tr pn xe) W →
      PE ((cxOf (L2.CX P w) P w K mg base N x scope g cdv A ou s H E00).tr pn xe) (.Call (.Name a0 p1) [] [] p2) (fun σZ HZ Q => σZ[0]? = some (some (.ref f)) ∧ HZ c' = some (CodeO c' q) ∧ tl (WE W σZ) HZ Q)) →
    H c' = some (CodeO c' q) → (∀ Q' E E' , (∀ cls d H', E cls d H' → E' cls d H') → tl E H Q' → tl E' H Q') → (∀ E Q' Q'', (∀ v H', Q' v H' → Q'' v H') → tl E H Q' → tl E H Q'') → TTg K mg n i br tl H Q →
    ∃ t, PSs (cxOf (L2.CX P w) P w K mg base N x scope g cdv A ou s H E00) bg t ∧ t { nx := fun _ G => Q .non G, rt := Q } (start N [.ref f]) H
theorem rest_sM {K : PySem.W.Frag} {mg : Str → Option Value} {n i : Nat} {br : M Fl} {v : V} {H : Hp} {Q : VK} {st : L2.St} (hl : st.length = n) (hv : st[i]? = some (some v)) (h : RestQ K mg n i br v H Q) : sM (ccOf K mg E00) br { nx := fun _ G => Q .non G, rt := Q } st H := by
  obtain ⟨pa, F, d, dp, fh, tb, po⟩ := h
  exact ⟨pa, H, F, F, _, okZ hl hv dp fh tb, po⟩
theorem heard_gives {P : Program} {w : World} {K : PySem.W.Frag} {mg : Str → Option Value} {base : Heap} {kk n i j : Nat} {br : M Fl} {x a0 y n0 : Str} {N : List Str} {scope : Scope} {g : Addr} {rest : List Stmt} {ju : Nat} {p1 p2 p3 q1 q2 q3 np r1 r2 r3 pos pos' : Pos}
    (S : FnScope N [a0] scope) (hn : N.length = n) (hi : N[i]? = some y) (hj : N[j]? = some n0) (hij : i ≠ j) (hi0 : 0 ≠ i) (hyl : scope.names.lookup y = some .local) (hnl : scope.names.lookup n0 = some .local) (hge : scope.names.lookup houseE = some .globalImplicit) (hme : mg houseE = some (.ref (He.ga K houseE)))
    (hrest : ∀ (cdv : Value) (A : Around) (ou : List Env) (s : Shared) (H : Hp), Rm kk (A.deeper (envOfC x scope s.heap.objs.size g cdv)) → PSs (cxOf (L2.CX P w) P w K mg base N x scope g cdv A ou s H E00) rest (sM (ccOf K mg E00) br))
    (hdn : (n0 == ("__debug__" : Str)) = false := by decide) (hcn : (n0 == ("__classdict__" : Str)) = false := by decide) :
    GivesG P w K mg base kk n i br x N scope g
      (.Assign [.Name y p1] (.Constant .none ju p2) p3 :: .Try [.Expr (.Call (.Name a0 q1) [] [] q2) q3] [.ExceptHandler (some (.Name houseE np)) (some n0) [.Assign [.Name y r1] (.Name n0 r2) r3] pos'] [] [] pos :: rest) a0 := by
  intro cdv A ou s H f c' q Q tl hr act hc mE mQ tt
  have hil : i < N.length := (List.getElem?_eq_some_iff.mp hi).1
  have hjl : j < N.length := (List.getElem?_eq_some_iff.mp hj).1
  have hsl : (start N [V.ref f]).length = n := by
    unfold L2.start
    simp
    omega
  have h0 : (start N [V.ref f])[0]? = some (some (.ref f)) := rfl
  refine ⟨_, pss_cons (ps_set (i := i) S.nd hi (.inl hyl) pe_non rfl (.inr hyl)) (pss_cons (ps_try_keep (X := cxOf (L2.CX P w) P w K mg base N x scope g cdv A ou s H E00) (c := .ref (He.ga K houseE)) (i := j) (k := i)
    (tb := fun W Dd σ G => σ[0]? = some (some (.ref f)) ∧ G c' = some (CodeO c' q) ∧ tl (WE W σ) G fun _ G' => Dd.nx σ G') rfl rfl rfl S.nd hj hnl hi hyl ⟨hge, by decide, .inl hme⟩ hdn hcn rfl fun W pn xe tk _ => ?_) (hrest cdv A ou s H hr)), ?_⟩
  · exact pss_one (ps_cq (ps_expr (act W pn xe q1 q2 tk) rfl) fun Dd st G h => h)
  · refine ⟨?_, hc, ?_⟩
    · rw [List.getElem?_set_ne (Ne.symm hi0)]
      exact h0
    · refine mQ _ _ _ (fun v G h => ?_) (mE _ _ _ (fun cls d G h => ?_) tt)
      · refine rest_sM (by rw [List.length_set]; exact hsl) ?_ h
        rw [List.getElem?_set_self (by rw [hsl, ← hn]; exact hil)]
      · refine ⟨h.1, fun a na => ?_⟩
        refine rest_sM (by rw [List.length_set, List.length_set, List.length_set, List.length_set]; exact hsl) ?_ (h.2 a na)
        rw [List.getElem?_set_ne (Ne.symm hij), List.getElem?_set_self (by rw [List.length_set, List.length_set, hsl, ← hn]; exact hil)]
/-! ### x(lambda: E) -/
/-- the lambda sees data alone -/
def hideS : Sl → Sl
  | .v d => .v d
  | _ => .unk
def lamRes (r1 : En) : Re Fl → Re RV
  | .ok (.rt rv) _ => .ok rv r1
  | .ok .nx _ => .ok (.v .none) r1
  | _ => .no
def cLam (ns : List Str) (n i : Nat) (br : M Fl) (th : M D) : M RV := fun r => match th (r.map hideS) with
  | .ok _ _ => lamRes r (br ((List.replicate n Sl.unk).set i (.v .none)))
  | .ex e _ => if e.name ∈ ns then lamRes r (br ((List.replicate n Sl.unk).set i (.v (exOf e)))) else .no
  | .no => .no
theorem hide_get {r : En} {j : Nat} {s : Sl} (h : (r.map hideS)[j]? = some s) (n : s ≠ .unk) : ∃ d, s = .v d ∧ r[j]? = some (.v d) := by
  rw [List.getElem?_map] at h
  cases hr : r[j]? with
  | none =>
    rw [hr] at h
    cases h
  | some q =>
    rw [hr] at h
    cases q with
    | v d =>
      cases h
      exact ⟨d, rfl, rfl⟩
    | unk =>
      cases h
      exact absurd rfl n
    | o c =>
      cases h
      exact absurd rfl n
    | io c =>
      cases h
      exact absurd rfl n
theorem Ok.hide {K : PySem.W.Frag} {pa : Nat → Addr} {H0 F0 F H : Hp} {st : L2.St} {r : En} (k : Ok K pa H0 F0 F H st r) : Ok K pa H F F H st (r.map hideS) where
  hH := Ex.refl H
  fF := Ex.refl F
  fH := k.fH
  sep := fun _ _ h => h
  len := by rw [List.length_map]; exact k.len
  sl := fun j s h n => by
    obtain ⟨d, rfl, h2⟩ := hide_get h n
    exact k.sl j _ h2 (fun z => nomatch z)
  tb := k.tb
  dis := fun j1 j2 s q c c' a ne h1 h2 o1 => by
    obtain ⟨d, rfl, _⟩ := hide_get h1 (by intro z; subst z; cases o1)
    cases o1
structure LamFn (P : Program) (w : World) (K : PySem.W.Frag) (mg : Str → Option Value) (base : Heap) (kk : Nat) (x : Str) (n i : Nat) (br : M Fl) : Prop where
  ex : ∃ (g : Addr) (fd : FuncData) (N : List Str) (sg : Scope) (pg : Arguments) (bg : List Stmt) (a0 : Str), mg x = some (.ref g) ∧ PySem.W.keepIn K (.ref g) = true ∧ FunD K x x pg bg sg [] [] g fd ∧ Binds K fd [a0] [] ∧ FnScope N [a0] sg ∧ N[0]? = some a0 ∧ Vis sg a0 ∧
    (a0 == ("__debug__" : Str)) = false ∧ (a0 == ("__classdict__" : Str)) = false ∧ GivesG P w K mg base kk n i br x N sg g bg a0
theorem no_cxE {P : Program} {w : World} {st : List Env} {H : Hp} {s s' : Shared} {e : Value} (h : L2.CX P w st H s E00 e s') : False := by
  obtain ⟨_, _, _, _, _, _, _, _, _, _, _, _, z⟩ := h
  exact z
theorem o_lam {X : Cx} {c : Cc} {x : Str} {kk n i : Nat} {br : M Fl} {th : M D} {ns ys : List Str} {c0 P : Addr} {params : Arguments} {body : Expr} {scope : Scope} {p lpos pos : Pos} (G : LamFn X.prog X.w X.K X.mg X.base (kk + 1) x n i br) (T : XTab X.K X.mg ns ys) (hr : Rm (kk + 2) X.A) (TB : TabB X.base X.mg c0 P) (hcode : X.env.code = .ref c0)
    (hm : (P, X.env.qual ++ "<lambda>") ∈ TabT.T X.K) (hu : ∀ p ∈ TabT.T X.K, p.1 = P → p.2 = X.env.qual ++ "<lambda>") (L : LamS X.env.scope scope) (hdef : defaultsOf params X.env = ([], []))
    (hbind : ∀ (q : Str) (cl : List (Str × Addr)) (pm cv ctv : Value), bindArgs (PySem.W.kla_fn "<lambda>" q params body scope cl pm cv ctv) ⟨[], []⟩ = pure [])
    (hbody : ∀ (E : XK) (A : Around) (outer : List Env) (s : Shared) (H : Hp) (f c' : Addr), Rm kk (A.deeper (lamEnv X scope s.heap.objs.size f c')) → PE (lamCx X A outer s H E scope f c') body (tM ⟨X.K, X.mg, fun cls d _ H => E cls d H⟩ th))
    (hK : c.K = X.K := by rfl) (hM : c.mg = X.mg := by rfl) (hg : Gl X x := by rfl) (hdb : (x == ("__debug__" : Str)) = false := by decide) :
    PE X (.Call (.Name x p) [.Lambda params body scope lpos] [] pos) (tO c (cLam ns n i br th)) := by
  refine ⟨fun pins s σ H Q I h => ?_⟩
  obtain ⟨pa, H0, F0, F, r, ok, po⟩ := h
  obtain ⟨cK, cM, cW⟩ := c
  cases hK
  cases hM
  obtain ⟨g, fd, N, sg, pg, bg, a0, hmg, hk, FD, hb, S, hN0, hva, hd1, hd2, GG⟩ := G.ex
  obtain ⟨oc, od, dV, kV, doc, pm, an, cdv, ct, osl, rfl, lk, hcd, _, _⟩ := FD.ex
  refine wpAny_Call_Name_kw (ld_glob I hg hmg ?_ hdb)
  refine PySem.W.callWith_K (h₀ := X.base) I.ok.mod.kin hk ?_ (by rfl) (by rfl)
  show wpAny _ _ (spliced ((false, eval (.Lambda params body scope lpos) X.env) :: backTo pos (starEach [] X.env))) _ _ s
  refine Calls.spliced_cons (lam_make3 I TB hcode hm hu ok.tb hdef (L.has I.ok) fun f c' pm' ctv H1 s' I1 eN T1 hf hfn hfr hco => ?_)
  refine Calls.spliced_nil ⟨I1.kIn, ?_⟩
  have ok1 : Ok X.K pa H0 F0 F H1 σ r := ok.grow eN (Ex.refl F) (ok.fH.trans eN) (fun _ h _ => h) T1
  have back : ∀ {F' H' : Hp} {st' : L2.St} {r' : En}, Ok X.K pa H1 F F' H' st' r' → Ok X.K pa H0 F0 F' H' σ r := fun k2 => ok1.grow k2.hH k2.fF k2.fH (fun a h1 h2 => k2.sep a h2 h1) k2.tb
  -- the rest of x, from what the maker wishes
  have fin : ∀ (d : D) (v : V) (F' H' : Hp), Ok X.K pa H0 F0 F' H' σ r → Ex F F' → Rp X.K F' v d → Po (XW ⟨X.K, X.mg, cW⟩ pa H0 F0 F) (lamRes r (br ((List.replicate n Sl.unk).set i (.v d)))) (fun rv r' => ∀ F' H' v, Ok X.K pa H0 F0 F' H' σ r' → Ex F F' → RvOk X.K H0 F' H' σ r' v rv → Q v H') →
      RestQ X.K X.mg n i br v H' Q := fun d v F' H' k1 e1 dp po => by
    refine ⟨pa, F', d, dp, k1.fH, k1.tb, ?_⟩
    have up : ∀ {F2 H2 : Hp} {st2 : L2.St} {r2 : En}, Ok X.K pa H' F' F2 H2 st2 r2 → Ok X.K pa H0 F0 F2 H2 σ r := fun k2 => k1.grow k2.hH k2.fF k2.fH (fun a h1 h2 => k2.sep a h2 h1) k2.tb
    cases hm2 : br ((List.replicate n Sl.unk).set i (.v d)) with
    | no =>
      rw [hm2] at po
      exact po.elim
    | ex e r2 =>
      rw [hm2] at po
      exact po.elim
    | ok fl r2 =>
      rw [hm2] at po
      cases fl with
      | nx => exact fun F2 H2 st2 k2 e2 => po F2 H2 .non (up k2) (e1.trans e2) .non
      | bk => exact po.elim
      | ct => exact po.elim
      | rt rv =>
        refine fun F2 H2 st2 v2 k2 e2 hv => po F2 H2 v2 (up k2) (e1.trans e2) ?_
        cases rv with
        | v d => exact hv
        | o ct =>
          obtain ⟨a, rfl, z1, z2, z3, z4⟩ := hv
          exact ⟨a, rfl, z1, k1.hH.nn z2, z3, k1.nobody z2⟩
  have tt : TTg X.K X.mg n i br (fun E H' Q' => tM ⟨X.K, X.mg, fun cls d _ H => E cls d H⟩ th σ H' Q') H1 Q := by
    refine ⟨pa, H1, F, F, r.map hideS, ok1.hide, ?_⟩
    have po : Po (XW ⟨X.K, X.mg, cW⟩ pa H0 F0 F) (cLam ns n i br th r) _ := po
    unfold cLam at po
    cases ht : th (r.map hideS) with
    | no =>
      rw [ht] at po
      exact po.elim
    | ok d r1 =>
      rw [ht] at po
      exact fun F' H' v k1 e1 dp => fin .none .non F' H' (back k1) e1 .non po
    | ex e r1 =>
      rw [ht] at po
      dsimp only at po
      split at po
      case isFalse => exact po.elim
      rename_i hn
      intro F' H' st' cls dd k1 e1 xo
      have xo' := xo
      obtain ⟨hcls, _⟩ := xo
      refine ⟨by rw [hcls]; exact T.em e.name hn, fun a na => ?_⟩
      have nF := k1.fH.nn na
      have k2 := (back k1).layF (o := CauO cls dd a) na
      exact fin (exOf e) (.ref a) _ _ k2 (e1.trans (Ex.new nF)) (exRp (mg := X.mg) (W := cW) (H := H') xo' (T.ex e.name hn) nF) po
  have rc : codeAny (model X.prog X.w) X.A (.call (.ref g) ⟨[.ref f], []⟩) (CR (L2.CX X.prog X.w) X.stack X.prog X.w H1 s' Q E00) s' := by
    refine LamX.run_ofS (N := N) (ps := [a0]) (us := [.ref f]) (vs := [.ref f]) lk hcd S hr.room I1.env0 (hb s' [.ref f] I1.kIn rfl) (.cons rfl .nil) rfl fun hr' => ?_
    exact GG cdv X.A X.stack s' H1 f c' (X.env.qual ++ "<lambda>") Q _ (hr.deeper _ ⟨S.gen, S.co, rfl, rfl⟩) (fun W pn xe p1 p2 tk => pe_actG (i := 0) I1 L hf hfn hfr (hbind _ _ _ _ _) tk (hr.deeper _ ⟨S.gen, S.co, rfl, rfl⟩) (fun E A outer s H hr2 => hbody E A outer s H f c' hr2) hN0 hva hd1 hd2) hco
      (fun Q' E E' hE ⟨pa, H0, F0, F, r, ok, po⟩ => ⟨pa, H0, F0, F, r, ok, po.mono (fun e r' z F' H' st' cls dd k e1 xo => hE _ _ _ (z F' H' st' cls dd k e1 xo)) fun _ _ z => z⟩)
      (fun E Q' Q'' hQ ⟨pa, H0, F0, F, r, ok, po⟩ => ⟨pa, H0, F0, F, r, ok, po.mono (fun _ _ z => z) fun d r' z F' H' v k e1 dp => hQ _ _ (z F' H' v k e1 dp)⟩) tt
  refine wpAny_call (codeAny_mono rc fun r2 s2 hq => ?_)
  cases r2 with
  | error e => exact (no_cxE hq).elim
  | ok fl =>
    cases fl with
    | ret u => exact I1.after hq
    | next => exact False.elim hq
    | brk => exact False.elim hq
    | cont => exact False.elim hq
/-- what the maker y of lambdas, the def at f, is told of its table -/
structure LamAt (K : PySem.W.Frag) (mg : Str → Option Value) (base : Heap) (y : Str) (f : Addr) : Prop where
  ex : ∃ c P, tabP K y = some (c, P) ∧ TabB base mg c P ∧ f = He.ga K y ∧ (P, lamQ y) ∈ TabT.T K ∧ ∀ p ∈ TabT.T K, p.1 = P → p.2 = lamQ y
theorem tabP_code {K : PySem.W.Frag} {y : Str} {c P : Addr} {cdv : Value} (h : tabP K y = some (c, P)) (hc : CodeAt K (He.ga K y) cdv) : cdv = .ref c := by
  obtain ⟨oc, od, fd, osl, lk, rfl⟩ := hc
  unfold tabP at h
  rw [lk] at h
  dsimp only at h
  split at h
  · rename_i c1 hcode
    split at h
    · split at h
      · cases h
        exact hcode
      · cases h
    · cases h
  · cases h
theorem o_lam2 {X : Cx} {c : Cc} {x y : Str} {kk n i : Nat} {br : M Fl} {th : M D} {ns ys : List Str} {f0 : Addr} {params : Arguments} {body : Expr} {scope : Scope} {p lpos pos : Pos} (G : LamFn X.prog X.w X.K X.mg X.base (kk + 1) x n i br) (T : XTab X.K X.mg ns ys) (hr : Rm (kk + 2) X.A) (LA : LamAt X.K X.mg X.base y f0) (hc : CodeAt X.K f0 X.env.code)
    (L : LamS X.env.scope scope)
    (hbody : ∀ (E : XK) (A : Around) (outer : List Env) (s : Shared) (H : Hp) (f c' : Addr), Rm kk (A.deeper (lamEnv X scope s.heap.objs.size f c')) → PE (lamCx X A outer s H E scope f c') body (tM ⟨X.K, X.mg, fun cls d _ H => E cls d H⟩ th))
    (hq : X.env.qual ++ "<lambda>" = lamQ y := by rfl) (hdef : defaultsOf params X.env = ([], []) := by rfl)
    (hbind : ∀ (q : Str) (cl : List (Str × Addr)) (pm cv ctv : Value), bindArgs (PySem.W.kla_fn "<lambda>" q params body scope cl pm cv ctv) ⟨[], []⟩ = pure [] := by exact fun _ _ _ _ _ => rfl)
    (hK : c.K = X.K := by rfl) (hM : c.mg = X.mg := by rfl) (hg : Gl X x := by rfl) (hdb : (x == ("__debug__" : Str)) = false := by decide) :
    PE X (.Call (.Name x p) [.Lambda params body scope lpos] [] pos) (tO c (cLam ns n i br th)) := by
  obtain ⟨c0, P, h1, TB, hf, hm, hu⟩ := LA.ex
  subst hf
  exact o_lam G T hr TB (tabP_code h1 hc) (by rw [hq]; exact hm) (by rw [hq]; exact hu) L hdef hbind hbody hK hM hg hdb
/-- from the head to the maker -/
theorem lamAt_of {ln : List Str} {K : PySem.W.Frag} {mg : Str → Option Value} {base h : Heap} {y : Str} (e : TabT.T K = tabsN ln K) (l : LamOk ln K h) (hy : y ∈ ln) (TB : ∀ p ∈ csN ln K, TabB base mg p.1 p.2) : LamAt K mg base y (He.ga K y) := by
  obtain ⟨c, P, q1, q2, q3, q4⟩ := l.at_ y hy
  have m1 : (c, P) ∈ csN ln K := List.mem_filterMap.mpr ⟨y, hy, q1⟩
  have m2 : (P, lamQ y) ∈ tabsN ln K := List.mem_filterMap.mpr ⟨y, hy, by rw [q1]; rfl⟩
  exact ⟨c, P, q1, TB _ m1, rfl, by rw [e]; exact m2, by rw [e]; exact fun p hp z => l.un p hp _ m2 z⟩
end
end Pu

namespace Pu
open PySem PySem.Spec PyProof.Rows L2
variable [TabT]
section
variable {X : Cx} {c : Cc}
/-! ### l.remove(x), l.count(x) over data -/
def rRemD (K : PySem.W.Frag) : V → List V → Hp → VK → Prop := fun x xs H Q => ∃ (l : Addr) (vs : List V) (ds : List D) (y : V) (d : D) (j : Nat), x = .ref l ∧ xs = [y] ∧ H l = some (.lst vs) ∧ DpAll K H vs ds ∧ Dp K H y d ∧ SeqAt.shaped (.list ds) = true ∧ SeqAt.shaped d = true ∧ SeqAt.dataPlace ds d = some j ∧ Q .non (upd H l (.lst (vs.eraseIdx j)))
theorem mt_removeD (hu : X.A.units + 65 < cLine) : MtM X "list.remove" (rRemD X.K) := by
  intro pins s σ H x xs v us Q I rx rxs h
  obtain ⟨l, vs, ds, y, d, j, rfl, rfl, hH, ha, hy, sl, sd, hp, q⟩ := h
  cases rx
  cases rxs with
  | cons ry rt =>
    rename_i uy ut
    cases rt
    obtain ⟨bs, r1⟩ := Dp.reads I d y uy hy ry
    have hxs : PyData.canLayAll0 ds = true := SeqAt.canLay_of_shaped sl
    have hroom : X.A.units + 1 + min (PyData.depthAll ds) d.depth < cLine := room_in_shaped sd hu
    obtain ⟨z, its, n, r, hl, e⟩ := I.lstM hH
    obtain ⟨as, h4⟩ := Dp.readsAll I ds _ its ha r
    have h4' : ReadsAll s.heap its.toArray.toList ds as := h4
    have hpl := PyData.plainAll_of_canLay0 ds hxs
    obtain ⟨hj, hit, hno⟩ := SeqAt.hit_at (d := d) h4' hpl hp
    refine call_meets PySem.F.slot_list_remove ⟨_, e, rfl⟩ PySem.F.entry_list_remove (PySem.F.args_list_remove_2 _ _)
      (SeqAt.list_removeAt l its.toArray n none #[] uy (fun u => PyData.eqv (SeqAt.readOf s.heap u) d) j hj hit hno (by rw [List.size_toArray]; omega)) ⟨e, SeqAt.items_eqAt (vs := its.toArray) h4' r1 hxs (SeqAt.canLay_of_shaped sd) hroom, ?_⟩
    have rr := r.eraseIdx j
    refine ⟨.non, _, I.lset (its' := its.eraseIdx j) (t' := s.toks) hH e ?_ rr ?_, rfl, q⟩
    · show its.toArray.eraseIdxIfInBounds j = (its.eraseIdx j).toArray
      rw [List.eraseIdxIfInBounds_toArray]
    · have := List.length_eraseIdx_le vs j
      omega
noncomputable def eRemove (i : Nat) (m : M D) : M D := fun r => match getC i r with
  | some (.l _) => (m r).bind fun d r => match getC i r with
    | some (.l ds) => cI (SeqAt.shaped d = true ∧ SeqAt.shaped (.list ds) = true ∧ (SeqAt.dataPlace ds d).isSome = true) (.ok .none (putC i (.l (ds.eraseIdx ((SeqAt.dataPlace ds d).getD 0))) r)) .no
    | _ => .no
  | _ => .no
theorem cI_po {α : Type} {p : Prop} {x : Re α} {Xp : Exn → En → Prop} {k : α → En → Prop} (h : Po Xp (cI p x .no) k) : p ∧ Po Xp x k := by
  by_cases hp : p
  · have e : cI p x .no = x := by unfold cI; exact if_pos hp
    rw [e] at h
    exact ⟨hp, h⟩
  · have e : cI p x .no = .no := by unfold cI; exact if_neg hp
    rw [e] at h
    exact h.elim
theorem e_remove {k : Nat} (i : Nat) {x : Str} {e : Expr} {m : M D} {px apos cpos : Pos} (h : PE X e (tM c m)) (hr : Rm k X.A) (hK : c.K = X.K := by rfl) (hN : X.N[i]? = some x := by rfl) (hv : Vis X.env.scope x := by first | exact Or.inl rfl | exact Or.inr (Or.inl rfl) | exact Or.inr (Or.inr rfl)) (hd : (x == ("__debug__" : Str)) = false := by decide)
    (hcd : (x == ("__classdict__" : Str)) = false := by decide) (hs1 : starEach [e] X.env = [(false, eval e X.env)] := by rfl)
    (hbase : attributeBase (.Name x px) "remove" X.env (eval (.Name x px) X.env) = eval (.Name x px) X.env := by rfl)
    (hfew : ((backTo cpos (starEach [e] X.env)).all (fun x => !x.1) && (backToKw cpos (keywordEach [] X.env)).all (fun x => x.1.isSome) && decide (([e] : List Expr).length + ([] : List Keyword).length + (if ([] : List Keyword).isEmpty then 0 else 1) < 30)) = true := by rfl)
    (hline : (apos.endLine == cpos.line) = true := by rfl) (hplain : (backTo cpos (starEach [] X.env)).any (·.1) = false := by rfl) :
    PE X (.Call (.Attribute (.Name x px) "remove" apos) [e] [] cpos) (tM c (eRemove i m)) :=
  pe_cq (pe_bm PySem.F.plainAttrs_list PySem.F.slot_list_remove PySem.F.type_list_remove (mt_removeD hr.in65) (pe_var (i := i) hN hv hd hcd) (pa_cons h pa_nil hs1) hbase hfew hline hs1 hplain) fun st H Q ⟨pa, H0, F0, F, r, ok, po⟩ => by
    unfold eRemove at po
    split at po
    · rename_i ds0 hg
      obtain ⟨s0, hs0, hso0⟩ := getC_some hg
      obtain ⟨a, hst, nF, n0, vs0, hH0, hr0⟩ := ok.ownd hs0 hso0
      refine ⟨_, hst, .inl ⟨rfl, vs0, .inl (.inl hH0)⟩, ?_⟩
      refine ⟨pa, H0, F0, F, r, ok, (Po.bind po).mono (fun _ _ x => x) fun d r1 q F1 H1 v k1 e1 dp => ?_⟩
      split at q
      · rename_i ds hg1
        obtain ⟨s1, hs1, hso1⟩ := getC_some hg1
        obtain ⟨a1, hst1, nF1, n01, vs, hH1, hr1⟩ := k1.ownd hs1 hso1
        rw [hst] at hst1
        cases hst1
        obtain ⟨⟨g1, g2, g3⟩, q⟩ := cI_po q
        obtain ⟨j, hj⟩ := Option.isSome_iff_exists.mp g3
        rw [hj] at q
        refine ⟨a, vs, ds, v, d, j, rfl, rfl, hH1, ?_, by rw [← hK]; exact rp_dp (dp_mono k1.fH dp) g1, g2, g1, hj, ?_⟩
        · rw [← hK]
          exact rpa_dpa0 (dpa_mono k1.fH hr1) (PyData.hasDict_of_canLay (.list ds) (SeqAt.canLay_of_shaped g2))
        · exact q F1 _ _ (k1.putC hg1 hst ⟨_, upd_same, dpa_erase _ hr1⟩) e1 .non
      · exact q.elim
    · exact po.elim
/-- l.count(x) -/
def rCntD (K : PySem.W.Frag) : V → List V → Hp → VK → Prop := fun x xs H Q => ∃ (a : Addr) (y : V) (d : PyData) (ds : List PyData), x = V.ref a ∧ xs = [y] ∧ Dp K H (V.ref a) (.list ds) ∧ Dp K H y d ∧
  SeqAt.shaped (.list ds) = true ∧ SeqAt.shaped d = true ∧ Q (.int ((ds.countP fun z => PyData.eqv z d : Nat) : Int)) H
theorem mt_countD (hu : X.A.units + 65 < cLine) : MtR X "list.count" (rCntD X.K) := by
  intro pins s σ H x xs v us Q I rx rxs h
  obtain ⟨a, y, d, ds, rfl, rfl, hl, hy, sl, sd, q⟩ := h
  cases rx
  cases rxs with
  | cons ry rt =>
    rename_i uy ut
    cases rt
    obtain ⟨bs, r1⟩ := Dp.reads I d y uy hy ry
    have hxs : PyData.canLayAll0 ds = true := SeqAt.canLay_of_shaped sl
    have hroom : X.A.units + 1 + min (PyData.depthAll ds) d.depth < cLine := room_in_shaped sd hu
    cases hl with
    | lst hs ha =>
      obtain ⟨its, rv, ⟨⟨cls, dd, data, sls⟩, n, ho, hc, hdn, hdt⟩, hlen⟩ := I.list hs
      simp only at hc hdt
      subst hc hdt
      obtain ⟨as, h4⟩ := Dp.readsAll I ds _ its ha rv
      have h4' : ReadsAll s.heap its.toArray.toList ds as := h4
      refine call_meets PySem.F.slot_list_count ⟨_, ho, rfl⟩ PySem.F.entry_list_count (PySem.F.args_list_count_2 _ _)
        (SeqAt.list_countAt a its.toArray n dd sls uy (fun u => PyData.eqv (SeqAt.readOf s.heap u) d)) ⟨ho, SeqAt.items_eqAt (vs := its.toArray) h4' r1 hxs (SeqAt.canLay_of_shaped sd) hroom, ?_⟩
      refine ⟨.int ((ds.countP fun z => PyData.eqv z d : Nat) : Int), H, I.tok _, ⟨s.toks, ?_⟩, q⟩
      rw [SeqAt.count_at h4' (PyData.plainAll_of_canLay0 ds hxs)]
noncomputable def countD : D → D → Option D
  | .list ds, d => cI (SeqAt.shaped d = true ∧ SeqAt.shaped (.list ds) = true) (some (.int ((ds.countP fun z => PyData.eqv z d : Nat) : Int))) none
  | _, _ => none
noncomputable def eCount (mo me : M D) : M D := mo.bind fun d => match d with
  | .list ds => me.bind fun b => M.opt (countD (.list ds) b)
  | _ => M.no
theorem e_count {k : Nat} {o e : Expr} {mo me : M D} {apos cpos : Pos} (ho : PE X o (tM c mo)) (he : PE X e (tM c me)) (hr : Rm k X.A) (hK : c.K = X.K := by rfl) (hs1 : starEach [e] X.env = [(false, eval e X.env)] := by rfl)
    (hbase : attributeBase o "count" X.env (eval o X.env) = eval o X.env := by rfl)
    (hfew : ((backTo cpos (starEach [e] X.env)).all (fun x => !x.1) && (backToKw cpos (keywordEach [] X.env)).all (fun x => x.1.isSome) && decide (([e] : List Expr).length + ([] : List Keyword).length + (if ([] : List Keyword).isEmpty then 0 else 1) < 30)) = true := by rfl)
    (hline : (apos.endLine == cpos.line) = true := by rfl) (hplain : (backTo cpos (starEach [] X.env)).any (·.1) = false := by rfl) :
    PE X (.Call (.Attribute o "count" apos) [e] [] cpos) (tM c (eCount mo me)) :=
  pe_cq (pe_bm PySem.F.plainAttrs_list PySem.F.slot_list_count PySem.F.type_list_count (mt_countD hr.in65) ho (pa_cons he pa_nil hs1) hbase hfew hline hs1 hplain) fun st H Q ⟨pa, H0, F0, F, r, ok, po⟩ => seqM ok po fun d r1 F1 H1 v k1 e1 dp q => by
    cases dp with
    | @lst a vs ds g1 g2 =>
      have q := Po.bind (show Po _ ((me.bind fun b => M.opt (countD (.list ds) b)) r1) _ from q)
      refine ⟨.inl ⟨rfl, vs, by rw [← hK]; exact k1.fH.l g1⟩, pa, H0, F0, F1, r1, k1, q.mono (fun _ _ x => x) fun b r2 q F2 H2 w k2 e2 dq => ?_⟩
      obtain ⟨z, hz, q2⟩ := opt_po q
      have hz : (if SeqAt.shaped b = true ∧ SeqAt.shaped (.list ds) = true then some (PyData.int ((ds.countP fun z => PyData.eqv z b : Nat) : Int)) else none) = some z := by
        rw [← cI_eq]
        exact hz
      split at hz
      · rename_i hm
        cases hz
        exact ⟨a, w, b, ds, rfl, rfl, by rw [← hK]; exact rp_dp (dp_mono (e2.trans k2.fH) (.lst g1 g2)) hm.2, by rw [← hK]; exact rp_dp (dp_mono k2.fH dq) hm.1, hm.2, hm.1, q2 F2 H2 _ k2 (e1.trans e2) (.int _)⟩
      · cases hz
    | _ => exact (show False from q).elim
/-! ### d.get(k, x) of an owned dict -/
def eGet (i : Nat) (mk mx : M D) : M D := fun r => match getC i r with
  | some (.d _) => (mk r).bind fun k r => (mx r).bind fun x r => (match getC i r with
    | some (.d kvs) => (match keyD k with
      | some y => .ok ((vK kvs y).getD x) r
      | none => .no)
    | _ => .no)
  | _ => .no
theorem e_get (i : Nat) {x : Str} {e f : Expr} {mk mx : M D} {px apos cpos : Pos} (h : PE X e (tM c mk)) (hf : PE X f (tM c mx)) (hu : X.A.units + 1 < cLine) (hN : X.N[i]? = some x := by rfl) (hv : Vis X.env.scope x := by first | exact Or.inl rfl | exact Or.inr (Or.inl rfl) | exact Or.inr (Or.inr rfl)) (hd : (x == ("__debug__" : Str)) = false := by decide)
    (hcd : (x == ("__classdict__" : Str)) = false := by decide)
    (hbase : attributeBase (.Name x px) "get" X.env (eval (.Name x px) X.env) = eval (.Name x px) X.env := by rfl)
    (hfew : ((backTo cpos (starEach [e, f] X.env)).all (fun x => !x.1) && (backToKw cpos (keywordEach [] X.env)).all (fun x => x.1.isSome) && decide (([e, f] : List Expr).length + ([] : List Keyword).length + (if ([] : List Keyword).isEmpty then 0 else 1) < 30)) = true := by rfl)
    (hline : (apos.endLine == cpos.line) = true := by rfl) (htr : backTo cpos (starEach [e, f] X.env) = [(false, eval e X.env), (false, eval f X.env)] := by rfl) :
    PE X (.Call (.Attribute (.Name x px) "get" apos) [e, f] [] cpos) (tM c (eGet i mk mx)) :=
  pe_cq (pe_dget2 hu (pe_var (i := i) hN hv hd hcd) h hf ⟨hbase, hfew, hline, htr⟩) fun st H Q ⟨pa, H0, F0, F, r, ok, po⟩ => by
    unfold eGet at po
    split at po
    · rename_i kv0 hg
      obtain ⟨s0, hs0, hso0⟩ := getC_some hg
      obtain ⟨a, hst, nF, n0, ks0, hH0, hr0⟩ := ok.ownd hs0 hso0
      refine ⟨_, hst, a, rfl, .inl ⟨ks0, .inl hH0⟩, ?_⟩
      refine ⟨pa, H0, F0, F, r, ok, (Po.bind po).mono (fun _ _ x => x) fun kd r1 q F1 H1 v k1 e1 dp => ?_⟩
      refine ⟨pa, H0, F0, F1, r1, k1, (Po.bind q).mono (XW.mono e1) fun xd r2 q F2 H2 z k2 e2 dq => ?_⟩
      split at q
      · rename_i kvs hg1
        obtain ⟨s1, hs1, hso1⟩ := getC_some hg1
        obtain ⟨a1, hst1, nF1, n01, ks, hH1, hr1⟩ := k2.ownd hs1 hso1
        rw [hst] at hst1
        cases hst1
        cases hy : keyD kd with
        | none =>
          rw [hy] at q
          exact q.elim
        | some y =>
          rw [hy] at q
          cases rp_key dp hy
          refine ⟨_, DGet.k hH1, ?_⟩
          cases hvk : vK kvs y with
          | none =>
            rw [kv_none hr1 hvk]
            simp only [hvk] at q
            exact q F2 H2 z k2 (e1.trans e2) dq
          | some d =>
            obtain ⟨w, g1, g2⟩ := kv_get hr1 hvk
            rw [g1]
            simp only [hvk] at q
            exact q F2 H2 w k2 (e1.trans e2) g2
      · exact q.elim
    · exact po.elim
/-! ### l.clear() -/
def eClear (i : Nat) : M D := fun r => match getC i r with
  | some (.l _) => .ok .none (putC i (.l []) r)
  | _ => .no
theorem e_clear (i : Nat) {x : Str} {px apos cpos : Pos} (hN : X.N[i]? = some x := by rfl) (hv : Vis X.env.scope x := by first | exact Or.inl rfl | exact Or.inr (Or.inl rfl) | exact Or.inr (Or.inr rfl)) (hd : (x == ("__debug__" : Str)) = false := by decide)
    (hcd : (x == ("__classdict__" : Str)) = false := by decide)
    (hbase : attributeBase (.Name x px) "clear" X.env (eval (.Name x px) X.env) = eval (.Name x px) X.env := by rfl)
    (hline : (apos.endLine == cpos.line) = true := by rfl) :
    PE X (.Call (.Attribute (.Name x px) "clear" apos) [] [] cpos) (tM c (eClear i)) :=
  pe_cq (pe_bm0 PySem.F.plainAttrs_list PySem.F.slot_list_clear PySem.F.type_list_clear mt_clear (pe_var (i := i) hN hv hd hcd) hbase hline) fun st H Q ⟨pa, H0, F0, F, r, ok, po⟩ => by
    unfold eClear at po
    split at po
    · rename_i ds0 hg
      obtain ⟨s0, hs0, hso0⟩ := getC_some hg
      obtain ⟨a, hst, nF, n0, vs0, hH0, hr0⟩ := ok.ownd hs0 hso0
      refine ⟨_, hst, .inl ⟨rfl, vs0, .inl (.inl hH0)⟩, ?_⟩
      refine ⟨a, vs0, rfl, rfl, hH0, ?_⟩
      exact po F _ _ (ok.putC hg hst ⟨_, upd_same, .nil⟩) (Ex.refl F) .non
    · exact po.elim
end
end Pu

namespace Pu
open PySem PySem.Spec PyProof.Rows L2
variable [TabT]
/-! ### zip of a tuple and a list -/
def ItW (K : PySem.W.Frag) (l t : Addr) : It where
  go := fun k Hh => ∃ (us ws : List V) (u v : V), (SqT K Hh l us ∧ us[k]? = some u) ∧ (SqL K Hh t ws ∧ ws[k]? = some v)
  yld := fun k Hh q Hn => ∃ (N : Addr) (u v : V), (q = .ref N ∧ Hh N = none ∧ Hn = upd Hh N (.tup [u, v])) ∧ (∀ us, SqT K Hh l us → us[k]? = some u) ∧ (∀ ws, SqL K Hh t ws → ws[k]? = some v)
  stop := fun k Hh => ∃ us ws : List V, (SqT K Hh l us ∧ SqL K Hh t ws) ∧ (k ≤ us.length ∧ k ≤ ws.length) ∧ (us.length = k ∨ ws.length = k)
def StW (zz ti to p1 p2 l t : Addr) (k : Nat) (hh : Heap) : Prop := (IsZip hh zz ti to .none ∧ IsTupOf2 hh ti (.ref p1) (.ref p2)) ∧ (∃ u v, IsTupOf2 hh to u v) ∧ (hh.IsTupleIter p1 l k ∧ hh.IsListIter p2 t k)
theorem turn_W {P : Program} {w : World} {K : PySem.W.Frag} {elts : List Expr} {kk : Nat} {tpos : Pos} {l t zz ti to p1 p2 : Addr} (S : ZipSep2 zz ti to p1 p2 [p1, l] [p2, t]) (n1 : l ≠ p1) (n2 : t ≠ p2) :
    Turn P w K (.Tuple elts kk tpos) (ItW K l t) [zz, ti, to, p1, p2] zz (StW zz ti to p1 p2 l t) where
  mem := List.mem_cons_self ..
  obj := fun k hh ⟨⟨a1, a2⟩, ⟨_, _, a3⟩, ⟨o1, e1, _, d1⟩, ⟨o2, e2, _, d2⟩⟩ q hq => by
    rcases five hq with rfl | rfl | rfl | rfl | rfl
    · exact ⟨_, a1, by simp⟩
    · exact ⟨_, a2, by simp⟩
    · exact ⟨_, a3, by simp⟩
    · exact ⟨o1, e1, by simp [d1]⟩
    · exact ⟨o2, e2, by simp [d2]⟩
  keep := fun k hh hn ⟨⟨a1, a2⟩, ⟨u, v, a3⟩, a4, a5⟩ kp => ⟨⟨kp zz (by simp) _ a1, kp ti (by simp) _ a2⟩, ⟨u, v, kp to (by simp) _ a3⟩, a4.at fun o => kp p1 (by simp) o, a5.at fun o => kp p2 (by simp) o⟩
  item := fun X hP hw hK hc k pins s σ Hh E I hf ⟨⟨a1, a2⟩, ⟨u0, v0, a3⟩, a4, a5⟩ ⟨us, ws, u, v, ⟨q1, g1⟩, q2, g2⟩ => by
    subst hP hw hK
    obtain ⟨is1, r1, b1, _⟩ := I.tuple q1
    obtain ⟨is2, r2, b2, _⟩ := I.list q2
    obtain ⟨x1, y1, c1⟩ := r1.get g1
    obtain ⟨x2, y2, c2⟩ := r2.get g2
    have m1 : k < is1.toArray.size := by simpa using (List.getElem?_eq_some_iff.mp y1).1
    have m2 : k < is2.toArray.size := by simpa using (List.getElem?_eq_some_iff.mp y2).1
    have hd : X.A.in1.handled = none := I.ok.hd hc
    have zl := Heap.lt_size a1
    refine wpAny_pyNext_zipD2_item S (Draws.tuple hd p1 l n1 is1.toArray) (Draws.list hd p2 t n2 is2.toArray) a1 a2 a3 ⟨a4, b1⟩ ⟨a5, b2.isList⟩ m1 m2 fun z1 z2 hn tk f1 f2 w1 w2 w3 w4 w5 w6 w7 => ?_
    have f1 : z1 = x1 := by
      have : is1.toArray[k]? = some x1 := by simpa using y1
      rw [this] at f1
      exact (Option.some.inj f1).symm
    have f2 : z2 = x2 := by
      have : is2.toArray[k]? = some x2 := by simpa using y2
      rw [this] at f2
      exact (Option.some.inj f2).symm
    subst f1 f2
    refine ⟨_, rfl, wpAny_letOwnedTupleGo_zip (s := { s with heap := hn, toks := tk }) w1 fun hq w8 sb => ?_⟩
    have nw := (sb.2 _ (Nat.ne_of_gt zl)).trans w5
    have Iq := I.turnedNew (t' := tk) (ch := [zz, ti, to, p1, p2]) (h' := hq) (ob := .tup [u, v]) (fun c o nb e => (sb.2 c fun ez => nb (by simp [ez])).trans (w7 c o (fun ez => nb (by simp [ez])) (fun ez => nb (by simp [ez])) (fun ez => nb (by simp [ez])) (fun ez => nb (by simp [ez])) e)) hf (Nat.le_refl _)
      ⟨by show 2 ≤ sizeLine; decide, [z1, z2], .cons c1 (.cons c2 .nil), ⟨_, nw, rfl, _, rfl⟩⟩
    refine ⟨.ref s.heap.objs.size, _, Iq, rfl, ⟨_, u, v, ⟨rfl, I.hok.fresh (Nat.le_refl _), rfl⟩, fun us' e => ?_, fun ws' e => ?_⟩, ⟨⟨w8, ?_⟩, ⟨z1, z2, ?_⟩, ?_, ?_⟩, fun c hm => ?_⟩
    · rw [I.tuple_inj e q1]
      exact g1
    · rw [I.list_inj e q2]
      exact g2
    · exact (sb.2 _ S.TIz).trans (w7 _ _ S.TIz S.TITO S.TIi1 S.TIi2 a2)
    · exact (sb.2 _ S.TOz).trans w2
    · exact w3.1.at fun o e => (sb.2 _ S.zi1.symm).trans e
    · exact w4.1.at fun o e => (sb.2 _ S.zi2.symm).trans e
    · have lt : c < s.heap.objs.size := by
        rcases five hm with rfl | rfl | rfl | rfl | rfl
        · exact zl
        · exact Heap.lt_size a2
        · exact Heap.lt_size a3
        · exact a4.elim fun o e => Heap.lt_size e.1
        · exact a5.elim fun o e => Heap.lt_size e.1
      rw [upd_ne (Nat.ne_of_lt lt)]
      exact (hf c hm).1
  done := fun X hP hw hK hc k pins s σ Hh E I hf ⟨⟨a1, a2⟩, ⟨u0, v0, a3⟩, a4, a5⟩ ⟨us, ws, ⟨q1, q2⟩, ⟨m1, m2⟩, m3⟩ => by
    subst hP hw hK
    obtain ⟨is1, r1, b1, _⟩ := I.tuple q1
    obtain ⟨is2, r2, b2, _⟩ := I.list q2
    have l1 := r1.length
    have l2 := r2.length
    have hd : X.A.in1.handled = none := I.ok.hd hc
    refine wpAny_pyNext_zipD2_end S (Draws.tuple hd p1 l n1 is1.toArray) (Draws.list hd p2 t n2 is2.toArray) a1 a2 a3 ⟨a4, b1⟩ ⟨a5, b2.isList⟩ (by simp; omega) (by simp; omega) (by simp; omega) fun hn tk kp => ?_
    exact ⟨rfl, I.turnedL (t' := tk) (ch := [zz, ti, to, p1, p2]) (fun c o nb e => kp c o (fun ez => nb (by simp [ez])) (fun ez => nb (by simp [ez])) (fun ez => nb (by simp [ez])) (fun ez => nb (by simp [ez])) e) hf⟩
  self := fun A k s Q E st hq => wpAny_pyIter_zip st.1.1 hq
def iZipW (K : PySem.W.Frag) (ta : TA) : TI := fun σ Hh R => ta σ Hh fun vs Hn => ∃ l t us ws, vs = [.ref l, .ref t] ∧ (SqT K Hn l us ∧ SqL K Hn t ws) ∧ R (ItW K l t) Hn
theorem pi_zipW {X : Cx} {e e2 : Expr} {ta : TA} {p pos tpos : Pos} {elts : List Expr} {kk : Nat} (hg : Gl X "zip") (hm : X.mg "zip" = none) (ha : PA X [e, e2] ta) (hs : starEach [e, e2] X.env = (false, eval e X.env) :: starEach [e2] X.env)
    (hpl : (backTo pos (starEach [e2] X.env)).any (·.1) = false) : PI X (.Tuple elts kk tpos) (.Call (.Name "zip" p) [e, e2] [] pos) (iZipW X.K ta) := by
  refine ⟨fun pins s σ Hh R I h0 => Call_ (ld_blt I hg hm PyProof.Rows.boot_zip (PyProof.Rows.callWith_type1 (thn (ha.run pos pins s σ Hh _ I h0) fun us sn ⟨vs, Hn, In, rn, q⟩ => ?_) hs hpl))⟩
  obtain ⟨l, t, xs, ys, rfl, ⟨q1, q2⟩, q3⟩ := q
  obtain ⟨is1, r1, b1, _⟩ := In.tuple q1
  obtain ⟨is2, r2, b2, _⟩ := In.list q2
  cases rn with
  | cons ra rr =>
    cases rr with
    | cons rb rr =>
      cases rr
      cases ra
      cases rb
      have ltt : t < sn.heap.objs.size := b2.lt
      have ltl : l < sn.heap.objs.size := by
        obtain ⟨o, e, _⟩ := b1
        exact Heap.lt_size e
      refine zip_begins2 (begins_tuple l is1.toArray) (begins_list t is2.toArray) b1 b2.isList fun hn a1 a2 a3 a4 a5 a6 a7 => wpAny_pyIter_zip a1 ?_
      have I2 : Inv X pins σ Hn { sn with heap := hn } := In.kept (t' := sn.toks) a7
      refine ⟨sn.heap.objs.size + 4, [sn.heap.objs.size + 4, sn.heap.objs.size + 2, sn.heap.objs.size + 3, sn.heap.objs.size, sn.heap.objs.size + 1], StW (sn.heap.objs.size + 4) (sn.heap.objs.size + 2) (sn.heap.objs.size + 3) sn.heap.objs.size (sn.heap.objs.size + 1) l t, _, Hn, rfl, I2,
        turn_W (zip_sep2 (by simpa using ltl) (by simpa using ltt)) (Nat.ne_of_lt ltl) (Nat.ne_of_lt (Nat.lt_succ_of_lt ltt)), ⟨⟨a1, a2⟩, ⟨_, _, a3⟩, ⟨_, a4, rfl, rfl⟩, ⟨_, a5, rfl, rfl⟩⟩, fun c hc => ?_, q3⟩
      have le : sn.heap.objs.size ≤ c := by
        rcases five hc with rfl | rfl | rfl | rfl | rfl
        · exact Nat.le_add_right _ _
        · exact Nat.le_add_right _ _
        · exact Nat.le_add_right _ _
        · exact Nat.le_refl _
        · exact Nat.le_add_right _ _
      exact In.fpOk le (In.hok.fresh le)
theorem yl_zipW {K : PySem.W.Frag} {F : Hp} {l t : Addr} {vs ws : List V} {ds es : List D} (h : SqT K F l vs) (hr : RpAll K F vs ds) (h' : SqL K F t ws) (hr' : RpAll K F ws es) : Yl K F (ItW K l t) (zipD ds es) where
  go := fun i H hi e => by
    rw [zipD_len] at hi
    have l1 := dpa_len hr
    have l2 := dpa_len hr'
    exact ⟨vs, ws, vs[i]'(by omega), ws[i]'(by omega), ⟨e.t h, List.getElem?_eq_getElem (by omega)⟩, e.l h', List.getElem?_eq_getElem (by omega)⟩
  stop := fun H e => ⟨vs, ws, ⟨e.t h, e.l h'⟩, by
    rw [zipD_len, dpa_len hr, dpa_len hr']
    omega⟩
  yld := fun i H x H' d hd e ⟨T, y1, y2, ⟨e1, nT, e2⟩, q1, q2⟩ => by
    obtain ⟨d1, d2, g1, g2, rfl⟩ := zipD_some hd
    obtain ⟨v, h2, h3⟩ := dpa_get hr g1
    obtain ⟨w, h4, h5⟩ := dpa_get hr' g2
    have z1 := h2.symm.trans (q1 vs (e.t h))
    have z2 := h4.symm.trans (q2 ws (e.l h'))
    cases z1
    cases z2
    exact .inr ⟨T, _, _, e1, nT, e2, rfl, .cons h3 (.cons h5 .nil)⟩
def zipW : List D → Option (List D)
  | [.tuple xs, .list ys] => some (zipD xs ys)
  | [.list xs, .list ys] => some (zipD xs ys)
  | [.tuple xs, .tuple ys] => some (zipD xs ys)
  | _ => none
section
variable {X : Cx} {c : Cc}
theorem i_zipW {e e2 : Expr} {ms : M (List D)} {p pos tpos : Pos} {elts : List Expr} {kk : Nat} (ha : PA X [e, e2] (tA c ms)) (hm : X.mg "zip" = none) (hK : c.K = X.K := by rfl) (hg : Gl X "zip" := by rfl) (hs : starEach [e, e2] X.env = (false, eval e X.env) :: starEach [e2] X.env := by rfl)
    (hpl : (backTo pos (starEach [e2] X.env)).any (·.1) = false := by rfl) : PI X (.Tuple elts kk tpos) (.Call (.Name "zip" p) [e, e2] [] pos) (iM c (iBy zipW ms)) :=
  pi_cq (pi_or' (pi_zipW hg hm ha hs hpl) (i_zip (c := c) ha hm hK hg hs hpl)) fun st H R ⟨pa, H0, F0, F, r, ok, po⟩ => by
    have po : Po (XW c pa H0 F0 F) (((ms.bind fun ds => M.opt (zipW ds)) : M (List D)) r) _ := po
    have po := Po.bind po
    cases hr : ms r with
    | no =>
      rw [hr] at po
      exact po.elim
    | ex x r1 =>
      rw [hr] at po
      exact .inl ⟨pa, H0, F0, F, r, ok, by rw [hr]; exact po⟩
    | ok ds r1 =>
      rw [hr] at po
      obtain ⟨xs, hx, q⟩ := opt_po (show Po _ (M.opt (zipW ds) r1) _ from po)
      by_cases hz : zipOf ds = some xs
      · refine .inr ⟨pa, H0, F0, F, r, ok, ?_⟩
        show Po _ (((ms.bind fun ds => M.opt (zipOf ds)) : M (List D)) r) _
        rw [M.bind_ap, hr, Re.bind_ok, hz]
        exact q
      · refine .inl ⟨pa, H0, F0, F, r, ok, ?_⟩
        rw [hr]
        intro F1 H1 vs k1 e1 dps
        unfold zipW at hx
        split at hx
        · cases hx
          obtain ⟨v, w, rfl, d, d2⟩ := rpa_two dps
          cases d with
          | @tup a us _ h1 h2 =>
            cases d2 with
            | @lst b ws _ h3 h4 => exact ⟨a, b, us, ws, rfl, ⟨by rw [← hK]; exact k1.fH.t h1, by rw [← hK]; exact k1.fH.l h3⟩, q F1 H1 _ k1 e1 (by rw [← hK]; exact yl_zipW h1 h2 h3 h4)⟩
        · exact absurd hx hz
        · exact absurd hx hz
        · cases hx
end
end Pu

namespace Pu
open PySem PySem.Spec PyProof.Rows L2
variable [TabT]
section
variable {X : Cx} {c : Cc}
/-! ### repr(x), isinstance(x, T) of an owned name -/
noncomputable def eReprS (i : Nat) : M D := fun r => match getC i r with
  | some (.l ds) => M.opt (reprD (.list ds)) r
  | some (.d _) => .no
  | some (.t _) => .no
  | none => nry (one reprD) (aCons (getS i) aNil) r
theorem e_reprS {k : Nat} (i : Nat) {x : Str} {p px pos : Pos} (hr : Rm k X.A) (hm : X.mg "repr" = none) (hK : c.K = X.K := by rfl) (hg : Gl X "repr" := by rfl) (hs1 : starEach [.Name x px] X.env = [(false, eval (.Name x px) X.env)] := by rfl) (hpl : (backTo pos (starEach [] X.env)).any (·.1) = false := by rfl)
    (hN : X.N[i]? = some x := by rfl) (hv : Vis X.env.scope x := by first | exact Or.inl rfl | exact Or.inr (Or.inl rfl) | exact Or.inr (Or.inr rfl)) (hd : (x == ("__debug__" : Str)) = false := by decide)
    (hcd : (x == ("__classdict__" : Str)) = false := by decide) : PE X (.Call (.Name "repr" p) [.Name x px] [] pos) (tM c (eReprS i)) :=
  pe_cq (pe_or' (pe_callB (call_reprD hr.gd hr.u150) hg hm (by decide +kernel) (pa_cons (pe_var (i := i) hN hv hd hcd) pa_nil hs1) (by decide) (by decide) hs1 hpl)
    (e_callB (c := c) (repr_data hr hK) hm (a_cons (e_var i hN hv hd hcd) a_nil hs1) hg (by decide +kernel) (by decide) (by decide) hs1 hpl)) fun st H Q ⟨pa, H0, F0, F, r, ok, po⟩ => by
    unfold eReprS at po
    split at po
    · rename_i ds hg
      obtain ⟨s0, hs0, hso0⟩ := getC_some hg
      obtain ⟨a, hst, nF, n0, vs, hH, hr⟩ := ok.ownd hs0 hso0
      obtain ⟨z, hz, q⟩ := opt_po po
      have hz : (if (PyData.list ds).showable = true ∧ SeqAt.shaped (.list ds) = true ∧ (PyData.list ds).shown.length ≤ 16777216 then some (PyData.str (PyData.list ds).shown) else none) = some z := by
        rw [← cI_eq]
        exact hz
      split at hz
      · rename_i hm
        cases hz
        refine .inl ⟨_, hst, a, .list ds, rfl, ?_, hm.1, hm.2.1, hm.2.2, q F H _ ok (Ex.refl F) (.str _)⟩
        rw [← hK]
        exact .lst (.inl (.inl hH)) (rpa_dpa0 (dpa_mono ok.fH hr) (PyData.hasDict_of_canLay (.list ds) (SeqAt.canLay_of_shaped hm.2.1)))
      · cases hz
    · exact po.elim
    · exact po.elim
    · exact .inr ⟨pa, H0, F0, F, r, ok, po⟩
noncomputable def eIsiS (T : String) (i : Nat) : M D := fun r => match getC i r with
  | some (.l ds) => M.opt ((kitB "list" T).map PyData.bool) r
  | some (.d _) => M.opt ((kitB "dict" T).map PyData.bool) r
  | some (.t _) => .no
  | none => una (isiD T) (getS i) r
theorem e_isiS {T : String} (i : Nat) {x y : Str} {p px py pos : Pos} (hm : X.mg "isinstance" = none) (hmT : X.mg y = none) (hvT : bootBuiltins y = some (.type T) := by decide +kernel) (hK : c.K = X.K := by rfl) (hg : Gl X "isinstance" := by rfl) (hgT : Gl X y := by rfl) (hnT : y ≠ "__name__" := by decide) (hdT : (y == ("__debug__" : Str)) = false := by decide)
    (hs1 : starEach [.Name x px, .Name y py] X.env = (false, eval (.Name x px) X.env) :: starEach [.Name y py] X.env := by rfl) (hs2 : starEach [.Name y py] X.env = (false, eval (.Name y py) X.env) :: starEach [] X.env := by rfl) (hpl : (backTo pos (starEach [.Name y py] X.env)).any (·.1) = false := by rfl)
    (hN : X.N[i]? = some x := by rfl) (hv : Vis X.env.scope x := by first | exact Or.inl rfl | exact Or.inr (Or.inl rfl) | exact Or.inr (Or.inr rfl)) (hd : (x == ("__debug__" : Str)) = false := by decide)
    (hcd : (x == ("__classdict__" : Str)) = false := by decide) :
    PE X (.Call (.Name "isinstance" p) [.Name x px, .Name y py] [] pos) (tM c (eIsiS T i)) :=
  pe_cq (pe_or' (pe_callB call_isi hg hm (by decide +kernel) (pa_cons (pe_var (i := i) hN hv hd hcd) (pa_cons (pe_bltn (v := .ty T) hgT hmT hvT rfl hnT hdT) pa_nil hs2) hs1) (by decide) (by decide) hs1 hpl)
    (e_isi (c := c) (T := T) (e_var i hN hv hd hcd) hm hmT hvT hK hg hgT hnT hdT hs1 hs2 hpl)) fun st H Q ⟨pa, H0, F0, F, r, ok, po⟩ => by
    unfold eIsiS at po
    split at po
    · rename_i ds hg
      obtain ⟨s0, hs0, hso0⟩ := getC_some hg
      obtain ⟨a, hst, nF, n0, vs, hH, hr⟩ := ok.ownd hs0 hso0
      obtain ⟨z, hz, q⟩ := opt_po po
      cases hk : kitB "list" T with
      | none =>
        rw [hk] at hz
        cases hz
      | some b =>
        rw [hk] at hz
        cases hz
        exact .inl ⟨_, hst, .ref a, .ty T, .type "list", .type T, b, rfl, .ty T, .base (.lst hH), kit_ty hk, q F H _ ok (Ex.refl F) (.bl _)⟩
    · rename_i ds hg
      obtain ⟨s0, hs0, hso0⟩ := getC_some hg
      obtain ⟨a, hst, nF, n0, vs, hH, hr⟩ := ok.ownd hs0 hso0
      obtain ⟨z, hz, q⟩ := opt_po po
      cases hk : kitB "dict" T with
      | none =>
        rw [hk] at hz
        cases hz
      | some b =>
        rw [hk] at hz
        cases hz
        exact .inl ⟨_, hst, .ref a, .ty T, .type "dict", .type T, b, rfl, .ty T, .base (.dK hH), kit_ty hk, q F H _ ok (Ex.refl F) (.bl _)⟩
    · exact po.elim
    · exact .inr ⟨pa, H0, F0, F, r, ok, po⟩
/-! ### list(d), sorted(d) of an owned dict -/
def kD : Key → D
  | .inl i => .int i
  | .inr x => .str x
def oListK (i : Nat) : M RV := fun r => match getC i r with
  | some (.d kvs) => .ok (.o (.l (kvs.map fun kv => kD kv.1))) r
  | some (.l _) => .no
  | some (.t _) => .no
  | none => nryO listD (aCons (getS i) aNil) r
theorem kv_keys {K : PySem.W.Frag} {F : Hp} : ∀ {ks : List (Key × V)} {kvs : List (Key × D)}, KvAll K F ks kvs → ks.map (·.1) = kvs.map (·.1)
  | _, _, .nil => rfl
  | _, _, .cons r t => by
    rw [List.map_cons, List.map_cons, kv_keys t]
theorem rp_keys {K : PySem.W.Frag} {F : Hp} : ∀ ks : List Key, RpAll K F (ks.map kV) (ks.map kD)
  | [] => .nil
  | .inl i :: ks => .cons (.int i) (rp_keys ks)
  | .inr x :: ks => .cons (.str x) (rp_keys ks)
theorem o_listK (i : Nat) {x : Str} {p px pos : Pos} (hm : X.mg "list" = none) (hK : c.K = X.K := by rfl) (hc : X.calm = true := by rfl) (hg : Gl X "list" := by rfl) (hs1 : starEach [.Name x px] X.env = [(false, eval (.Name x px) X.env)] := by rfl) (hpl : (backTo pos (starEach [] X.env)).any (·.1) = false := by rfl)
    (hN : X.N[i]? = some x := by rfl) (hv : Vis X.env.scope x := by first | exact Or.inl rfl | exact Or.inr (Or.inl rfl) | exact Or.inr (Or.inr rfl)) (hd : (x == ("__debug__" : Str)) = false := by decide)
    (hcd : (x == ("__classdict__" : Str)) = false := by decide) : PE X (.Call (.Name "list" p) [.Name x px] [] pos) (tO c (oListK i)) :=
  pe_cq (pe_or' (pe_callTy (call_list_dK hc) hg hm (by decide +kernel) (pa_cons (pe_var (i := i) hN hv hd hcd) pa_nil hs1) (by decide) (by decide) hs1 hpl)
    (o_callT (c := c) (list_data hK) hm (a_cons (e_var i hN hv hd hcd) a_nil hs1) hg (by decide +kernel) (by decide) (by decide) hs1 hpl)) fun st H Q ⟨pa, H0, F0, F, r, ok, po⟩ => by
    unfold oListK at po
    split at po
    · rename_i kvs hg
      obtain ⟨s0, hs0, hso0⟩ := getC_some hg
      obtain ⟨a, hst, nF, n0, ks, hH, hr⟩ := ok.ownd hs0 hso0
      refine .inl ⟨_, hst, a, ks, rfl, hH, fun p np => ?_⟩
      have e1 : (ks.map fun kv => kV kv.1) = (kvs.map (·.1)).map kV := by rw [← kv_keys hr, List.map_map]; rfl
      have e2 : (kvs.map fun kv => kD kv.1) = (kvs.map (·.1)).map kD := by rw [List.map_map]; rfl
      rw [e1]
      rw [e2] at po
      exact oA_end ok po p _ np (rp_keys _)
    · exact po.elim
    · exact po.elim
    · exact .inr ⟨pa, H0, F0, F, r, ok, po⟩
def intKs : List Key → Option (List Int)
  | [] => some []
  | .inl i :: ks => (intKs ks).map (i :: ·)
  | .inr _ :: _ => none
theorem intKs_eq : ∀ {ks : List Key} {is : List Int}, intKs ks = some is → ks = is.map Sum.inl
  | [], is, h => by
    cases h
    rfl
  | .inl i :: ks, is, h => by
    unfold intKs at h
    cases hk : intKs ks with
    | none =>
      rw [hk] at h
      cases h
    | some js =>
      rw [hk] at h
      cases h
      rw [intKs_eq hk]
      rfl
  | .inr _ :: _, _, h => by cases h
noncomputable def oSortK (i : Nat) : M RV := fun r => match getC i r with
  | some (.d kvs) => (match intKs (kvs.map (·.1)) with
    | some is => cI (is.length < 64) (.ok (.o (.l ((isort is).map .int))) r) .no
    | none => .no)
  | some (.l _) => .no
  | some (.t _) => .no
  | none => nryO sortD (aCons (getS i) aNil) r
theorem o_sortK (i : Nat) {x : Str} {p px pos : Pos} (hm : X.mg "sorted" = none) (hK : c.K = X.K := by rfl) (hc : X.calm = true := by rfl) (hg : Gl X "sorted" := by rfl) (hs1 : starEach [.Name x px] X.env = [(false, eval (.Name x px) X.env)] := by rfl) (hpl : (backTo pos (starEach [] X.env)).any (·.1) = false := by rfl)
    (hN : X.N[i]? = some x := by rfl) (hv : Vis X.env.scope x := by first | exact Or.inl rfl | exact Or.inr (Or.inl rfl) | exact Or.inr (Or.inr rfl)) (hd : (x == ("__debug__" : Str)) = false := by decide)
    (hcd : (x == ("__classdict__" : Str)) = false := by decide) : PE X (.Call (.Name "sorted" p) [.Name x px] [] pos) (tO c (oSortK i)) :=
  pe_cq (pe_or' (pe_callB (call_sortedDI hc) hg hm (by decide +kernel) (pa_cons (pe_var (i := i) hN hv hd hcd) pa_nil hs1) (by decide) (by decide) hs1 hpl)
    (o_callB (c := c) (sort_data hK) hm (a_cons (e_var i hN hv hd hcd) a_nil hs1) hg (by decide +kernel) (by decide) (by decide) hs1 hpl)) fun st H Q ⟨pa, H0, F0, F, r, ok, po⟩ => by
    unfold oSortK at po
    split at po
    · rename_i kvs hg
      obtain ⟨s0, hs0, hso0⟩ := getC_some hg
      obtain ⟨a, hst, nF, n0, ks, hH, hr⟩ := ok.ownd hs0 hso0
      split at po
      · rename_i is his
        obtain ⟨h64, po⟩ := cI_po po
        refine .inl ⟨_, hst, a, ks, is, rfl, .inl hH, ?_, h64, fun ys p hp hs np => ?_⟩
        · rw [kv_keys hr]
          exact intKs_eq his
        · have e : ys = isort is := pw_uniq2 hs (isort_pw is) (hp.trans (isort_perm is).symm)
          rw [e]
          exact oA_end ok po p _ np (dpa_ints _)
      · exact po.elim
    · exact po.elim
    · exact po.elim
    · exact .inr ⟨pa, H0, F0, F, r, ok, po⟩
/-! ### tuple(x) of an owned list: x stays one's own -/
def eTupS (i : Nat) : M D := fun r => match getC i r with
  | some (.l ds) => .ok (.tuple ds) r
  | some (.d _) => .no
  | some (.t _) => .no
  | none => nry (one tupD) (aCons (getS i) aNil) r
theorem e_tupS (i : Nat) {x : Str} {p px pos : Pos} (hm : X.mg "tuple" = none) (hK : c.K = X.K := by rfl) (hg : Gl X "tuple" := by rfl) (hs1 : starEach [.Name x px] X.env = [(false, eval (.Name x px) X.env)] := by rfl) (hpl : (backTo pos (starEach [] X.env)).any (·.1) = false := by rfl)
    (hN : X.N[i]? = some x := by rfl) (hv : Vis X.env.scope x := by first | exact Or.inl rfl | exact Or.inr (Or.inl rfl) | exact Or.inr (Or.inr rfl)) (hd : (x == ("__debug__" : Str)) = false := by decide)
    (hcd : (x == ("__classdict__" : Str)) = false := by decide) : PE X (.Call (.Name "tuple" p) [.Name x px] [] pos) (tM c (eTupS i)) :=
  pe_cq (pe_or' (pe_callTy call_tuple_of hg hm (by decide +kernel) (pa_cons (pe_var (i := i) hN hv hd hcd) pa_nil hs1) (by decide) (by decide) hs1 hpl)
    (e_callT (c := c) (tup_data hK) hm (a_cons (e_var i hN hv hd hcd) a_nil hs1) hg (by decide +kernel) (by decide) (by decide) hs1 hpl)) fun st H Q ⟨pa, H0, F0, F, r, ok, po⟩ => by
    unfold eTupS at po
    split at po
    · rename_i ds hg
      obtain ⟨s0, hs0, hso0⟩ := getC_some hg
      obtain ⟨a, hst, nF, n0, vs, hH, hr⟩ := ok.ownd hs0 hso0
      refine .inl ⟨_, hst, a, vs, rfl, .inl ⟨.inl (.inl hH), fun p np => ?_⟩⟩
      have nFp := ok.fH.nn np
      exact op_end (r' := r) ok (fun F' H' v k e dp => po F' H' v k e dp) _ _ _ (.inr ⟨p, _, np, rfl, rfl⟩) (.tup upd_same (dpa_mono (Ex.new nFp) hr))
    · exact po.elim
    · exact po.elim
    · exact .inr ⟨pa, H0, F0, F, r, ok, po⟩
end
end Pu

namespace Pu
open PySem PySem.Spec PyProof.Rows L2
variable [TabT]
section
variable {X : Cx} {c : Cc}
/-! ### max(list of ints, default=int) -/
def maxI (d : Int) : List Int → Int
  | [] => d
  | x :: xs => xs.foldl (fun a y => max a y) x
theorem maxOf_eq (x : Int) (xs : List Int) : PySem.W.maxOf x xs = xs.foldl (fun a y => max a y) x := by
  unfold PySem.W.maxOf
  induction xs generalizing x with
  | nil => rfl
  | cons y ys ih =>
    rw [List.foldl_cons, List.foldl_cons]
    have e : (if PySem.W.DatumOrd.lt x y = true then y else x) = max x y := by
      by_cases h : x < y
      · rw [if_pos (show PySem.W.DatumOrd.lt x y = true from decide_eq_true h)]
        omega
      · rw [if_neg (show ¬ PySem.W.DatumOrd.lt x y = true from fun z => h (of_decide_eq_true z))]
        omega
    rw [e]
    exact ih (max x y)
theorem lay0 : ∀ xs : List Int, PyData.canLayAll0 (xs.map .int) = true
  | [] => rfl
  | _ :: xs => lay0 xs
def rMaxDef (K : PySem.W.Frag) : List V → List V → Hp → VK → Prop := fun xs zs H Q => ∃ (a : Addr) (ns : List Int) (d : Int), xs = [.ref a] ∧ zs = [.int d] ∧ SqL K H a (ns.map V.int) ∧ Q (.int (maxI d ns)) H
theorem cr_maxDef (hu : X.A.units + 65 < cLine) (hc : X.calm = true) : CallRK X (.builtin "max") [Str.ofString "default"] (rMaxDef X.K) := by
  intro pins s σ H vs zs us ws Q I r rz h
  obtain ⟨a, ns, d, rfl, rfl, hs, q⟩ := h
  obtain rfl := Vals.ref1 r
  obtain ⟨w1, rfl, e1⟩ := vals1 rz
  obtain ⟨t1, rfl⟩ := e1
  obtain ⟨its, rv, hl, hz⟩ := I.list hs
  have da : DpAll X.K H (ns.map V.int) (ns.map PyData.int) := rpa_dpa0 (dpa_ints ns) (PyData.hasDict_of_canLay (.list (ns.map .int)) (lay0 ns))
  obtain ⟨as, rs⟩ := Dp.readsAll I _ _ its da rv
  have HA : PySem.W.HoldAll s.heap its.toArray.toList ns := ⟨as, rs⟩
  refine PySem.W.max_list_datum_default (I.ok.hd hc) hl.isList HA (by
    have dp : PySem.W.Datum.depth Int ≤ 60 := by decide
    omega) (fun e h' tk kp => ?_) fun y ys i v h' tk e hi hv kp => ?_
  · subst e
    exact ⟨.int d, H, I.kept (t' := tk) kp, ⟨t1, rfl⟩, q⟩
  · subst e
    obtain ⟨bs, hr⟩ := hv
    rw [maxOf_eq] at hr
    have hr : Reads h' v (.int (ys.foldl (fun a y => max a y) y)) bs := hr
    cases hr with
    | int k t => exact ⟨.int _, H, I.kept (t' := tk) kp, ⟨t, rfl⟩, q⟩
def maxdD : D → D → Option D
  | .list ds, .int d => (intsOf ds).map fun ns => .int (maxI d ns)
  | _, _ => none
theorem e_maxd {k : Nat} {e f : Expr} {me mf : M D} {p kpos pos : Pos} (he : PE X e (tM c me)) (hf : PE X f (tM c mf)) (hm : X.mg "max" = none) (hr : Rm k X.A) (hK : c.K = X.K := by rfl) (hc : X.calm = true := by rfl) (hg : Gl X "max" := by rfl)
    (hs1 : starEach [e] X.env = [(false, eval e X.env)] := by rfl)
    (h1 : backTo pos (starEach [e] X.env) = (false, eval e X.env) :: backTo pos (starEach [] X.env) := by rfl) (h2 : (backTo pos (starEach [e] X.env)).any (·.1) = false := by rfl)
    (h3 : (backToKw pos (keywordEach [⟨some "default", f, kpos⟩] X.env)).all (·.1.isSome) = true := by rfl) (h4 : (backToKw pos (keywordEach [⟨some "default", f, kpos⟩] X.env)).any (·.1.isNone) = false := by rfl) (h5 : (backToKw pos (keywordEach [⟨some "default", f, kpos⟩] X.env)).filterMap (·.1) = [Str.ofString "default"] := by rfl) :
    PE X (.Call (.Name "max" p) [e] [⟨some "default", f, kpos⟩] pos) (tM c (bin maxdD me mf)) :=
  pe_cq (pe_callBK (cr_maxDef hr.in65 hc) hg hm (by decide +kernel) (pa_cons he pa_nil hs1) (pk_cons hf pk_nil) (by decide) (by decide) h1 h2 h3 h4 h5) fun st H Q ⟨pa, H0, F0, F, r, ok, po⟩ => seqM ok po fun d r1 F1 H1 v k1 e1 dp q => seqM k1 q fun d2 r2 F2 H2 v2 k2 e2 dp2 q2 => by
    obtain ⟨z, hz, q3⟩ := opt_po q2
    unfold maxdD at hz
    split at hz
    · rename_i ds i
      cases ei : intsOf ds with
      | none =>
        rw [ei] at hz
        cases hz
      | some ns =>
        rw [ei] at hz
        cases hz
        rw [intsOf_some ei] at dp
        cases dp with
        | @lst a vs _ g1 g2 =>
          have e := rpa_ints g2
          subst e
          cases dp2
          exact ⟨a, ns, i, rfl, rfl, by rw [← hK]; exact (e2.trans k2.fH).l g1, q3 F2 H2 _ k2 (e1.trans e2) (.int _)⟩
    · cases hz
/-! ### a call with an owned list lent -/
mutual
def noL : D → Bool
  | .tuple ds => noLAll ds
  | .list _ => false
  | .dict _ => false
  | _ => true
def noLAll : List D → Bool
  | [] => true
  | d :: ds => noL d && noLAll ds
end
def dropA (a : Addr) (F : Hp) : Hp := fun b => if b = a then none else F b
theorem drop_ne {a b : Addr} {F : Hp} (h : b ≠ a) : dropA a F b = F b := if_neg h
theorem drop_same {a : Addr} {F : Hp} : dropA a F a = none := if_pos rfl
theorem sqT_drop {K : PySem.W.Frag} {F : Hp} {a t : Addr} {vs xs : List V} (ha : F a = some (.lst vs)) (h : SqT K F t xs) : SqT K (dropA a F) t xs := by
  rcases h with (g | ⟨o, g⟩) | g
  · refine .inl (.inl ?_)
    rw [drop_ne fun z => by rw [z, ha] at g; cases g]
    exact g
  · refine .inl (.inr ⟨o, ?_⟩)
    rw [drop_ne fun z => by rw [z, ha] at g; cases g]
    exact g
  · exact .inr g
theorem squ_drop {F : Hp} {a t : Addr} {vs xs : List V} (ha : F a = some (.lst vs)) (h : SqU F t xs) : SqU (dropA a F) t xs := by
  have h : F t = some (.tup xs) := h
  show dropA a F t = _
  rw [drop_ne fun z => by rw [z, ha] at h; cases h]
  exact h
mutual
theorem rp_drop {K : PySem.W.Frag} {F : Hp} {a : Addr} {vs0 : List V} (ha : F a = some (.lst vs0)) : ∀ {v : V} {d : D}, Rp K F v d → noL d = true → Rp K (dropA a F) v d
  | _, _, .non, _ => .non
  | _, _, .bl b, _ => .bl b
  | _, _, .int i, _ => .int i
  | _, _, .str x, _ => .str x
  | _, _, .lst _ _, h => by cases h
  | _, _, .tup g1 g2, h => .tup (squ_drop ha g1) (rpa_drop ha g2 h)
  | _, _, .emp _, h => by cases h
  | _, _, .exc0 _ _, h => by cases h
  | _, _, .excF _ _ _ _ _, h => by cases h
theorem rpa_drop {K : PySem.W.Frag} {F : Hp} {a : Addr} {vs0 : List V} (ha : F a = some (.lst vs0)) : ∀ {vs : List V} {ds : List D}, RpAll K F vs ds → noLAll ds = true → RpAll K (dropA a F) vs ds
  | _, _, .nil, _ => .nil
  | _, _, .cons h1 h2, h => by
    have h := Bool.and_eq_true_iff.mp h
    exact .cons (rp_drop ha h1 h.1) (rpa_drop ha h2 h.2)
end
def noLR : RV → Bool
  | .v d => noL d
  | .o (.l ds) => noLAll ds
  | .o (.d _) => false
  | .o (.t _) => false
noncomputable def cCallB (i : Nat) (f : List Sl → Re RV) : M RV := fun r => match r[i]? with
  | some (.o (.l ds)) => (match f [.v (.list ds)] with
    | .ok rv _ => cI (noLR rv = true) (.ok rv r) .no
    | _ => .no)
  | some (.v _) => cCall f (aCons (getS i) aNil) r
  | _ => .no
theorem callB {f : List Sl → Re RV} {F H : Hp} {st : L2.St} {r : En} {pa : Nat → Addr} {H0 F0 : Hp} {i : Nat} {ds : List D} {a : Addr} {Q : VK} (k1 : Ok c.K pa H0 F0 F H st r) (hi : r[i]? = some (.o (.l ds))) (hst : st[i]? = some (some (.ref a)))
    (q : Po (XW c pa H0 F0 F) (match f [.v (.list ds)] with
      | .ok rv _ => cI (noLR rv = true) (.ok rv r) .no
      | _ => .no) fun rv r' => ∀ F' H' v, Ok c.K pa H0 F0 F' H' st r' → Ex F F' → RvOk c.K H0 F' H' st r' v rv → Q v H') : spG c.K c.mg 1 f [.ref a] H Q (fun cls d H' => c.W cls d st H') := by
  obtain ⟨a', h1, nF, n0, vs, hH, hr⟩ := k1.ownd hi rfl
  rw [hst] at h1
  cases h1
  have eF : Ex F (upd F a (.lst vs)) := Ex.new nF
  have eFH : Ex (upd F a (.lst vs)) H := ⟨fun b o e nt => by
    by_cases hb : b = a
    · subst hb
      rw [upd_same] at e
      rw [hH]
      exact e
    · rw [upd_ne hb] at e
      exact k1.fH.at_ b o e nt, fun b ps e => by
    by_cases hb : b = a
    · subst hb
      rw [upd_same] at e
      cases e
    · rw [upd_ne hb] at e
      exact k1.fH.tb b ps e⟩
  have dps : RpAll c.K (upd F a (.lst vs)) [.ref a] [.list ds] := .cons (.lst (.inl (.inl upd_same)) (dpa_mono eF hr)) .nil
  refine ⟨rfl, pa, H, upd F a (.lst vs), [.list ds].map .v, argsV dps eFH k1.tb, argsOkV _, ?_⟩
  show Po _ (f [.v (.list ds)]) _
  cases hf : f [.v (.list ds)] with
  | no =>
    rw [hf] at q
    exact q.elim
  | ex ee z =>
    rw [hf] at q
    exact q.elim
  | ok rv z =>
    rw [hf] at q
    obtain ⟨hno, q⟩ := cI_po q
    refine fun F' H' v k2 hv => ?_
    have ha' : F' a = some (.lst vs) := k2.fF.at_ a _ upd_same (fun ps z => nomatch z)
    have ed : Ex F (dropA a F') := ⟨fun b o e nt => by
      have hb : b ≠ a := fun z => by rw [z, nF] at e; cases e
      rw [drop_ne hb]
      exact (eF.trans k2.fF).at_ b o e nt, fun b ps e => by
      have hb : b ≠ a := fun z => by rw [z, nF] at e; cases e
      obtain ⟨m, hm⟩ := (eF.trans k2.fF).tb b ps e
      exact ⟨m, by rw [drop_ne hb]; exact hm⟩⟩
    have edH : Ex (dropA a F') H' := ⟨fun b o e nt => by
      by_cases hb : b = a
      · rw [hb, drop_same] at e
        cases e
      · rw [drop_ne hb] at e
        exact k2.fH.at_ b o e nt, fun b ps e => by
      by_cases hb : b = a
      · rw [hb, drop_same] at e
        cases e
      · rw [drop_ne hb] at e
        exact k2.fH.tb b ps e⟩
    have k3 : Ok c.K pa H0 F0 (dropA a F') H' st r := k1.grow k2.hH ed edH (fun b g1 g2 => by
      by_cases hb : b = a
      · rw [hb, drop_same] at g1
        exact absurd rfl g1
      · rw [drop_ne hb] at g1
        have := k2.sep b g2 g1
        rw [upd_ne hb] at this
        exact this) k2.tb
    refine q (dropA a F') H' v k3 ed ?_
    cases rv with
    | v d => exact rp_drop ha' hv hno
    | o ct =>
      cases ct with
      | t kvs => cases hno
      | d kvs => cases hno
      | l es =>
        obtain ⟨b, rfl, z1, z2, ⟨ws, z3, z5⟩, z4⟩ := hv
        refine ⟨b, rfl, ?_, k1.hH.nn z2, ⟨ws, z3, rpa_drop ha' z5 hno⟩, k1.nobody z2⟩
        by_cases hb : b = a
        · rw [hb, drop_same]
        · rw [drop_ne hb]
          exact z1
theorem o_callB1 {k : Nat} (i : Nat) {x y : Str} {f : List Sl → Re RV} {p py pos : Pos} (G : Fn X.prog X.w X.K X.mg X.base k x 1 f) (hr : Rm k X.A) (tk : Takes X c.W) (hK : c.K = X.K := by rfl) (hM : c.mg = X.mg := by rfl) (hg : Gl X x := by rfl)
    (hN : X.N[i]? = some y := by rfl) (hv : Vis X.env.scope y := by first | exact Or.inl rfl | exact Or.inr (Or.inl rfl) | exact Or.inr (Or.inr rfl)) (hd : (y == ("__debug__" : Str)) = false := by decide) (hcd : (y == ("__classdict__" : Str)) = false := by decide)
    (hdb : (x == ("__debug__" : Str)) = false := by decide) (he : starEach [.Name y py] X.env = (false, eval (.Name y py) X.env) :: starEach [] X.env := by rfl) (hpl : (backTo pos (starEach [] X.env)).any (·.1) = false := by rfl) :
    PE X (.Call (.Name x p) [.Name y py] [] pos) (tO c (cCallB i f)) := by
  obtain ⟨a, fd, ps, g1, g2, g3, g4⟩ := G.ex
  refine pe_cq (pe_or' (pe_callG (Ew := fun st cls d H' => c.W cls d st H') g4 hr hg g1 g2 g3 (fun σ => passAt tk σ) (pa_cons (pe_var (i := i) hN hv hd hcd) pa_nil he) hdb he hpl)
    (o_call (c := c) G hr tk (a_cons (e_var i hN hv hd hcd) a_nil he) hK hM hg (aCons_len aNil_len) hdb he hpl)) fun st H Q ⟨pa, H0, F0, F, r, ok, po⟩ => ?_
  unfold cCallB at po
  split at po
  · rename_i ds hi
    obtain ⟨b, hst, _⟩ := ok.ownd hi rfl
    refine .inl ⟨_, hst, ?_⟩
    rw [← hK, ← hM]
    exact callB ok hi hst po
  · exact .inr ⟨pa, H0, F0, F, r, ok, po⟩
  · exact po.elim
end
end Pu

/-! ### sorted(set(a list of ints)), any number of them -/
namespace L2
open PySem PySem.Spec PyProof.Rows
section
variable {P : Program} {w : World} {A : Around} {E : Value → Shared → Prop} {s : Shared} {a : Addr}
theorem sorted_setA {S : Int → Bool} {n : Nat} {Q : Value → Shared → Prop} (R : SetR w s.heap a S n) (hh : A.handled = none) (hnz : n ≤ sizeLine)
    (hQ : ∀ s' p (out : Array Value) (c : Nat) (ns : List Int), (∀ b o, s.heap.get? b = some o → s'.heap.get? b = some o) → s'.gens = s.gens → s'.os = s.os → s.heap.objs.size ≤ p →
      s'.heap.get? p = some (seqObj "list" out c) → IntsAre out.toList ns → ns.Pairwise (· < ·) → (∀ k, k ∈ ns ↔ S k = true) → Q (.ref p) s') :
    wpAny (model P w) A (call (.builtin "sorted") [.ref a]) Q E s := by
  obtain ⟨o, es, ep, t, ho, hex, hd, g, nd, hm, hb, hf, hn, hr, hl⟩ := R
  refine Calls.call_function_entry kind_sorted plain_sorted entry_sorted (args_sorted1 _) ?_
  unfold Builtin.«sorted»
  refine wpAny_bind (m := checkCount "sorted" 1 1 _) (wpAny_pure ?_)
  refine wpAny_bind (collect_set (A := A.in1) hh ⟨o, ho, hex.1, hd⟩ hf hb hr hl fun s1 vs k1 hz g1 o1 pm => ?_)
  have hvl : vs.length = n := (pm.length_eq.trans (by simp)).trans hn
  have hI : IntsAre vs (vs.map Builtin.Re.reRawOf) := ints_of vs fun v hv => by
    obtain ⟨e, he, q⟩ := List.mem_map.mp (pm.mem_iff.mp hv)
    obtain ⟨k, tk, h1, _⟩ := g e he
    exact ⟨k, tk, q ▸ h1⟩
  have pk : (vs.map Builtin.Re.reRawOf).Perm (es.toList.map keyOf) := by
    have q := pm.map Builtin.Re.reRawOf
    rwa [List.map_map] at q
  have hob : (s1.heap.push (seqObj "list" vs.toArray 0)).get? s1.heap.objs.size = some (seqObj "list" vs.toArray 0) := Heap.get?_push_size _ rfl
  refine wpAny_bind (wpAny_newList ?_ (by omega))
  refine wpAny_bind (wpAny_holding (wpAny_call_entry slot_list_sort ⟨_, hob, rfl⟩ entry_list_sort
    (SrtO.list_sort_ord SrtO.swo_int hob (by rw [hvl]; exact hnz) (fun h2 => SrtO.ints_sortable hI h2) fun out b1 b2 => ⟨_, rfl, ?_⟩) (args_list_sort _)))
  obtain ⟨a1, a2, a3⟩ := SrtO.ints_out hI b1 b2
  obtain ⟨c, hc⟩ := sortedHeap_at (vs := vs) (out := out.toArray) hob
  have pn : (out.map SrtO.iv).Perm (es.toList.map keyOf) := a2.trans pk
  have hlt : (out.map SrtO.iv).Pairwise (· < ·) := by
    have := a3.and (pn.nodup_iff.mpr nd)
    exact this.imp fun {x y} h => by have h1 := h.1; have h2 : x ≠ y := h.2; show x < y; omega
  refine wpAny_pure ⟨_, rfl, hQ _ s1.heap.objs.size out.toArray c (out.map SrtO.iv) (fun b u e => ?_) g1 o1 hz hc a1 hlt (fun k => by rw [pn.mem_iff, ← hm k])⟩
  have q := k1 b u e
  have hl := Heap.lt_size q
  show (sortedHeap (s1.heap.push (seqObj "list" vs.toArray 0)) s1.heap.objs.size vs out.toArray).get? b = some u
  rw [sortedHeap_old (Nat.ne_of_lt hl) (by rw [size_push']; exact Nat.lt_succ_of_lt hl)]
  exact Heap.get?_push_of_some _ q
end
end L2
namespace Pu
open PySem PySem.Spec PyProof.Rows L2
variable [TabT]
def tSortSetA (K : PySem.W.Frag) (ta : TE) : TE := fun σ H Q => ta σ H fun x H1 => ∃ (l : Addr) (ns : List Int), x = .ref l ∧ SqL K H1 l (ns.map V.int) ∧ ns.length < 4000 ∧ ∀ p, H1 p = none → Q (.ref p) (upd H1 p (.lst ((sset ns).map V.int)))
theorem pe_sortSetA {X : Cx} {a : Expr} {ta : TE} {p p2 q pos : Pos} (hg : Gl X "sorted") (hm : X.mg "sorted" = none) (hg2 : Gl X "set") (hm2 : X.mg "set" = none) (ha : PE X a ta) (hc : X.calm = true)
    (na : starEach [a] X.env = (false, eval a X.env) :: starEach [] X.env) (nb : starEach [.Call (.Name "set" p2) [a] [] q] X.env = (false, eval (.Call (.Name "set" p2) [a] [] q) X.env) :: starEach [] X.env) : PE X (.Call (.Name "sorted" p) [.Call (.Name "set" p2) [a] [] q] [] pos) (tSortSetA X.K ta) := by
  refine ⟨fun pins s σ H Q I h => ?_⟩
  refine Call_ (ld_blt I hg hm boot_sorted ?_)
  refine PyProof.Rows.callWith_builtin1 (PyProof.Rows.args_cons ?_ rfl) rfl rfl
  refine Call_ (ld_blt I hg2 hm2 boot_set ?_)
  refine PyProof.Rows.callWith_type1 (PyProof.Rows.args_cons (thn (ha.run pins s σ H _ I h) fun v s1 ⟨x, H1, I1, r1, q1⟩ => PyProof.Rows.args_nil ?_) na) na rfl
  obtain ⟨l, ns, rfl, hq, hl, q1⟩ := q1
  cases r1
  obtain ⟨its, r, pl, hz⟩ := I1.list hq
  refine call_set_lstI ns (I1.ok.hd hc) pl.isList (by simpa using RZ.intsAre_vals r) (by unfold scanBound; omega) fun h' tk c hS hcl hk => ?_
  refine PyProof.Rows.args_nil ?_
  have I2 : Inv X pins σ H1 { s1 with heap := h', toks := tk } := I1.kept fun b o e => hk b o e
  have S2 : SetR X.w ({ s1 with heap := h', toks := tk } : Shared).heap s1.heap.objs.size (fun j => decide (j ∈ ns)) c := hS
  have hd2 := I1.ok.hd hc
  generalize ({ s1 with heap := h', toks := tk } : Shared) = s2 at I2 S2 ⊢
  refine sorted_setA S2 hd2 (by rw [sizeLine_eq]; omega) fun s' p out cc ms k g o hp hgt hi hs hmm => ?_
  have hms : ms = sset ns := sset_uniq hs fun k => by rw [hmm, decide_eq_true_eq]
  subst hms
  have hln : ((sset ns).map V.int).length ≤ sizeLine := by
    have := sset_len ns
    rw [List.length_map, sizeLine_eq]
    omega
  have hn : H1 p = none := I2.hok.fresh hp
  have J : Inv X pins σ (upd H1 p (.lst ((sset ns).map V.int))) { s2 with heap := s'.heap, gens := s'.gens, drawn := s'.drawn, toks := s'.toks } :=
    I2.call (ch := []) (Un.laid k hp hn) (I2.hok.laid k hp ⟨hln, out.toList, cc, vals_of_ints hi, hgt⟩) (by rw [g]; exact I2.bare) (fun _ z => nomatch z)
  have e : s' = { s2 with heap := s'.heap, gens := s'.gens, drawn := s'.drawn, toks := s'.toks } := by
    cases s'
    cases s2
    cases o
    rfl
  rw [e]
  exact ⟨.ref p, _, J, rfl, q1 p hn⟩
noncomputable def ssetAD : D → Option (List D)
  | .list ds => (intsOf ds).bind fun ns => cI (ns.length < 4000) (some ((sset ns).map .int)) none
  | _ => none
theorem ssetAD_some {ds : D} {z : List D} (h : ssetAD ds = some z) : ∃ ns : List Int, ds = .list (ns.map .int) ∧ ns.length < 4000 ∧ z = (sset ns).map .int := by
  unfold ssetAD at h
  split at h
  · rename_i ds
    cases e : intsOf ds with
    | none =>
      rw [e] at h
      cases h
    | some ns =>
      rw [e] at h
      have h : cI (ns.length < 4000) (some ((sset ns).map PyData.int)) none = some z := h
      rw [cI_eq] at h
      split at h
      · rename_i hh
        cases h
        exact ⟨ns, by rw [intsOf_some e], hh, rfl⟩
      · cases h
  · cases h
section
variable {X : Cx} {c : Cc}
theorem o_ssetA {a : Expr} {m : M D} {p p2 q pos : Pos} (hm : X.mg "sorted" = none) (hm2 : X.mg "set" = none) (ha : PE X a (tM c m)) (hK : c.K = X.K := by rfl) (hg : Gl X "sorted" := by rfl) (hg2 : Gl X "set" := by rfl) (hc : X.calm = true := by rfl)
    (na : starEach [a] X.env = (false, eval a X.env) :: starEach [] X.env := by rfl) (nb : starEach [.Call (.Name "set" p2) [a] [] q] X.env = (false, eval (.Call (.Name "set" p2) [a] [] q) X.env) :: starEach [] X.env := by rfl) : PE X (.Call (.Name "sorted" p) [.Call (.Name "set" p2) [a] [] q] [] pos) (tO c (unaO ssetAD m)) :=
  pe_cq (pe_sortSetA hg hm hg2 hm2 ha hc na nb) fun st H Q ⟨pa, H0, F0, F, r, ok, po⟩ => seqM ok po fun d r1 F1 H1 v k1 e1 dp q => by
    obtain ⟨z, hz, q3⟩ := opt_po q
    cases hg2 : ssetAD d with
    | none =>
      rw [hg2] at hz
      cases hz
    | some w =>
      rw [hg2] at hz
      cases hz
      obtain ⟨ns, e, h1, rfl⟩ := ssetAD_some hg2
      cases e
      cases dp with
      | @lst a vs ds g1 g2 =>
        have e := rpa_ints g2
        subst e
        exact ⟨a, ns, rfl, by rw [← hK]; exact k1.fH.l g1, h1, fun p np => oA_end k1 (fun F' H' v ok ex dp => q3 F' H' v ok (e1.trans ex) dp) p _ np (rpa_of_ints _)⟩
end
end Pu

/-! ### x(lambda: E) where E changes one object of the maker's -/
namespace Pu
open PySem PySem.Spec PyProof.Rows L2 LamX
variable [TabT]
/-- all but one object -/
def lessA (H : Hp) (a : Addr) : Hp := fun b => if b = a then none else H b
theorem lessA_a (H : Hp) (a : Addr) : lessA H a a = none := if_pos rfl
theorem lessA_ne {H : Hp} {a b : Addr} (h : b ≠ a) : lessA H a b = H b := if_neg h
theorem lessA_ex (H : Hp) (a : Addr) : Ex (lessA H a) H := .of fun b o z => by
  by_cases hb : b = a
  · subst hb
    rw [lessA_a] at z
    cases z
  · rw [lessA_ne hb] at z
    exact z
/-- the object comes back from one to whom it was lent -/
theorem lendBack {K : PySem.W.Frag} {pa : Nat → Addr} {H0 F0 F H F' H' : Hp} {st st1 : L2.St} {r r1 : En} {i j : Nat} {s : Sl} {ct ct' : Ct} {a : Addr} (k1 : Ok K pa H0 F0 F H st r) (hs : r[i]? = some s) (hso : s.own = some ct) (hv0 : st[i]? = some (some (.ref a))) (n0 : H0 a = none)
    (k2 : Ok K (fun _ => a) (lessA H a) F F' H' st1 r1) (h1 : r1[j]? = some (.io ct')) : Ok K pa H0 F0 F' H' st (putC i ct' r) := by
  have hk_ne : ∀ b, b ≠ a → lessA H a b = H b := fun b hb => lessA_ne hb
  obtain ⟨w, g1, g2⟩ := k2.sl j (.io ct') h1 (fun z => nomatch z)
  obtain ⟨_, nF', _, hct'⟩ := g2
  have hb0 : ∀ b o, H0 b = some o → b ≠ a := fun b o z e => by
    rw [e, n0] at z
    cases z
  have h0 : Ex H0 (lessA H a) := ⟨fun b o z nt => by
    rw [hk_ne b (hb0 b o z)]
    exact k1.hH.at_ b o z nt, fun b ps z => by
    rw [hk_ne b (hb0 b _ z)]
    exact k1.hH.tb b ps z⟩
  have put : putC i ct' r = r.set i (s.put ct') := by
    unfold putC
    rw [hs]
  have hl : i < r.length := (List.getElem?_eq_some_iff.mp hs).1
  have nb : ∀ (j : Nat) (s' : Sl) (c' : Ct) (b : Addr), i ≠ j → r[j]? = some s' → s'.own = some c' → st[j]? = some (some (.ref b)) → b ≠ a := fun j s' c' b e h o hb z => by
    rw [z] at hb
    exact k1.dis i j s s' ct c' a e hs h hso o hv0 hb
  have kept : ∀ (b : Addr) (c' : Ct), b ≠ a → F b = none → CtOk K F H b c' → F' b = none ∧ CtOk K F' H' b c' := fun b c' hb hf hc => by
    obtain ⟨ob, hob, hnt⟩ := hc.there'
    have z : lessA H a b = some ob := by
      rw [hk_ne b hb]
      exact hob
    exact ⟨none_of_not fun y => k2.sep b (ne_none z) y hf, hc.mono k2.fF ((k2.hH.at_ b ob z hnt).trans hob.symm)⟩
  rw [put]
  refine ⟨h0.trans k2.hH, k1.fF.trans k2.fF, k2.fH, fun b z1 z2 => k1.sep b z1 (k2.sep b (by
    cases hz : H0 b with
    | none => exact absurd hz z1
    | some o => exact (h0.some hz).elim fun _ q => ne_none q) z2), by rw [List.length_set, k1.len], fun j s' h n => ?_, k2.tb, fun j1 j2 s1 s2 c1 c2 b ne h1 h2 o1 o2 st1 st2 => ?_⟩
  · by_cases e : i = j
    · subst e
      rw [List.getElem?_set_self hl] at h
      cases h
      refine ⟨_, hv0, ?_⟩
      cases s with
      | unk => cases hso
      | v d => cases hso
      | o c1 => exact ⟨a, rfl, nF', n0, hct'⟩
      | io c1 =>
        obtain ⟨w, y1, y2⟩ := k1.sl i _ hs (fun z => nomatch z)
        obtain ⟨rfl, _⟩ := y2
        rw [hv0] at y1
        cases y1
        exact ⟨rfl, nF', n0, hct'⟩
    · rw [List.getElem?_set_ne e] at h
      obtain ⟨w, y1, y2⟩ := k1.sl j s' h n
      refine ⟨w, y1, ?_⟩
      cases s' with
      | unk => trivial
      | v d => exact dp_mono k2.fF y2
      | o c1 =>
        obtain ⟨b, rfl, z1, z2, z3⟩ := y2
        obtain ⟨w1, w2⟩ := kept b c1 (nb j _ c1 b e h rfl y1) z1 z3
        exact ⟨b, rfl, w1, z2, w2⟩
      | io c1 =>
        obtain ⟨rfl, z1, z2, z3⟩ := y2
        obtain ⟨w1, w2⟩ := kept (pa j) c1 (nb j _ c1 (pa j) e h rfl y1) z1 z3
        exact ⟨rfl, w1, z2, w2⟩
  · have get : ∀ (j : Nat) (s' : Sl) (c' : Ct), (r.set i (s.put ct'))[j]? = some s' → s'.own = some c' → ∃ s2 c3, r[j]? = some s2 ∧ s2.own = some c3 := fun j s' c' h o => by
      by_cases e : i = j
      · subst e
        exact ⟨s, ct, hs, hso⟩
      · rw [List.getElem?_set_ne e] at h
        exact ⟨s', c', h, o⟩
    obtain ⟨q1, c3, w1, w2⟩ := get j1 s1 c1 h1 o1
    obtain ⟨q2, c4, w3, w4⟩ := get j2 s2 c2 h2 o2
    exact k1.dis j1 j2 q1 q2 c3 c4 b ne w1 w3 w2 w4 st1 st2
/-- lent to the lambda: that object, and data -/
theorem Ok.lend {K : PySem.W.Frag} {pa : Nat → Addr} {H0 F0 F H : Hp} {st : L2.St} {r : En} {i : Nat} {s : Sl} {ct : Ct} {a : Addr} (k : Ok K pa H0 F0 F H st r) (hs : r[i]? = some s) (hv0 : st[i]? = some (some (.ref a))) (nF : F a = none) (hct : CtOk K F H a ct) : Ok K (fun _ => a) (lessA H a) F F H st ((r.map hideS).set i (.io ct)) where
  hH := lessA_ex H a
  fF := Ex.refl F
  fH := k.fH
  sep := fun _ _ h => h
  len := by rw [List.length_set, List.length_map]; exact k.len
  sl := fun j q h n => by
    by_cases e : i = j
    · subst e
      have hl : i < (r.map hideS).length := by rw [List.length_map]; exact (List.getElem?_eq_some_iff.mp hs).1
      rw [List.getElem?_set_self hl] at h
      cases h
      exact ⟨_, hv0, rfl, nF, lessA_a H a, hct⟩
    · rw [List.getElem?_set_ne e] at h
      obtain ⟨d, rfl, h2⟩ := hide_get h n
      exact k.sl j _ h2 (fun z => nomatch z)
  tb := k.tb
  dis := fun j1 j2 s1 s2 c1 c2 b ne h1 h2 o1 o2 _ _ => by
    have only : ∀ (j : Nat) (q : Sl) (c : Ct), ((r.map hideS).set i (.io ct))[j]? = some q → q.own = some c → j = i := fun j q c h o => by
      by_cases e : i = j
      · exact e.symm
      · rw [List.getElem?_set_ne e] at h
        obtain ⟨d, rfl, _⟩ := hide_get h (by intro z; subst z; cases o)
        cases o
    exact ne ((only j1 s1 c1 h1 o1).trans (only j2 s2 c2 h2 o2).symm)
def cLamI (p : Nat) (ns : List Str) (n i : Nat) (br : M Fl) (th : M D) : M RV := fun r => match getC p r with
  | none => .no
  | some ct => match th ((r.map hideS).set p (.io ct)) with
    | .ok _ r1 => (match r1[p]? with
      | some (.io ct') => lamRes (putC p ct' r) (br ((List.replicate n Sl.unk).set i (.v .none)))
      | _ => .no)
    | .ex e r1 => (match r1[p]? with
      | some (.io ct') => if e.name ∈ ns then lamRes (putC p ct' r) (br ((List.replicate n Sl.unk).set i (.v (exOf e)))) else .no
      | _ => .no)
    | .no => .no
theorem o_lamI (p0 : Nat) {X : Cx} {c : Cc} {x : Str} {kk n i : Nat} {br : M Fl} {th : M D} {ns ys : List Str} {c0 P : Addr} {params : Arguments} {body : Expr} {scope : Scope} {p lpos pos : Pos} (G : LamFn X.prog X.w X.K X.mg X.base (kk + 1) x n i br) (T : XTab X.K X.mg ns ys) (hr : Rm (kk + 2) X.A) (TB : TabB X.base X.mg c0 P) (hcode : X.env.code = .ref c0)
    (hm : (P, X.env.qual ++ "<lambda>") ∈ TabT.T X.K) (hu : ∀ p ∈ TabT.T X.K, p.1 = P → p.2 = X.env.qual ++ "<lambda>") (L : LamS X.env.scope scope) (hdef : defaultsOf params X.env = ([], []))
    (hbind : ∀ (q : Str) (cl : List (Str × Addr)) (pm cv ctv : Value), bindArgs (PySem.W.kla_fn "<lambda>" q params body scope cl pm cv ctv) ⟨[], []⟩ = pure [])
    (hbody : ∀ (E : XK) (A : Around) (outer : List Env) (s : Shared) (H : Hp) (f c' : Addr), Rm kk (A.deeper (lamEnv X scope s.heap.objs.size f c')) → PE (lamCx X A outer s H E scope f c') body (tM ⟨X.K, X.mg, fun cls d _ H => E cls d H⟩ th))
    (hK : c.K = X.K := by rfl) (hM : c.mg = X.mg := by rfl) (hg : Gl X x := by rfl) (hdb : (x == ("__debug__" : Str)) = false := by decide) :
    PE X (.Call (.Name x p) [.Lambda params body scope lpos] [] pos) (tO c (cLamI p0 ns n i br th)) := by
  refine ⟨fun pins s σ H Q I h => ?_⟩
  obtain ⟨pa, H0, F0, F, r, ok, po⟩ := h
  obtain ⟨cK, cM, cW⟩ := c
  cases hK
  cases hM
  obtain ⟨g, fd, N, sg, pg, bg, a0, hmg, hk, FD, hb, S, hN0, hva, hd1, hd2, GG⟩ := G.ex
  obtain ⟨oc, od, dV, kV, doc, pm, an, cdv, ct, osl, rfl, lk, hcd, _, _⟩ := FD.ex
  refine wpAny_Call_Name_kw (ld_glob I hg hmg ?_ hdb)
  refine PySem.W.callWith_K (h₀ := X.base) I.ok.mod.kin hk ?_ (by rfl) (by rfl)
  show wpAny _ _ (spliced ((false, eval (.Lambda params body scope lpos) X.env) :: backTo pos (starEach [] X.env))) _ _ s
  refine Calls.spliced_cons (lam_make3 I TB hcode hm hu ok.tb hdef (L.has I.ok) fun f c' pm' ctv H1 s' I1 eN T1 hf hfn hfr hco => ?_)
  refine Calls.spliced_nil ⟨I1.kIn, ?_⟩
  have ok1 : Ok X.K pa H0 F0 F H1 σ r := ok.grow eN (Ex.refl F) (ok.fH.trans eN) (fun _ h _ => h) T1
  unfold cLamI at po
  cases hgc : getC p0 r with
  | none =>
    rw [hgc] at po
    exact po.elim
  | some ct0 =>
  rw [hgc] at po
  dsimp only at po
  obtain ⟨s0, hs0, hso0⟩ := getC_some hgc
  obtain ⟨a0', hv0, nF0, n00, hct0⟩ := ok1.ownd hs0 hso0
  have back : ∀ {F' H' : Hp} {st' : L2.St} {r' : En} {ct' : Ct}, Ok X.K (fun _ => a0') (lessA H1 a0') F F' H' st' r' → r'[p0]? = some (.io ct') → Ok X.K pa H0 F0 F' H' σ (putC p0 ct' r) := fun k2 h => lendBack ok1 hs0 hso0 hv0 n00 k2 h
  -- the rest of x, from what the maker wishes
  have fin : ∀ (r : En) (d : D) (v : V) (F' H' : Hp), Ok X.K pa H0 F0 F' H' σ r → Ex F F' → Rp X.K F' v d → Po (XW ⟨X.K, X.mg, cW⟩ pa H0 F0 F) (lamRes r (br ((List.replicate n Sl.unk).set i (.v d)))) (fun rv r' => ∀ F' H' v, Ok X.K pa H0 F0 F' H' σ r' → Ex F F' → RvOk X.K H0 F' H' σ r' v rv → Q v H') →
      RestQ X.K X.mg n i br v H' Q := fun r d v F' H' k1 e1 dp po => by
    refine ⟨pa, F', d, dp, k1.fH, k1.tb, ?_⟩
    have up : ∀ {F2 H2 : Hp} {st2 : L2.St} {r2 : En}, Ok X.K pa H' F' F2 H2 st2 r2 → Ok X.K pa H0 F0 F2 H2 σ r := fun k2 => k1.grow k2.hH k2.fF k2.fH (fun a h1 h2 => k2.sep a h2 h1) k2.tb
    cases hm2 : br ((List.replicate n Sl.unk).set i (.v d)) with
    | no =>
      rw [hm2] at po
      exact po.elim
    | ex e r2 =>
      rw [hm2] at po
      exact po.elim
    | ok fl r2 =>
      rw [hm2] at po
      cases fl with
      | nx => exact fun F2 H2 st2 k2 e2 => po F2 H2 .non (up k2) (e1.trans e2) .non
      | bk => exact po.elim
      | ct => exact po.elim
      | rt rv =>
        refine fun F2 H2 st2 v2 k2 e2 hv => po F2 H2 v2 (up k2) (e1.trans e2) ?_
        cases rv with
        | v d => exact hv
        | o ct =>
          obtain ⟨a, rfl, z1, z2, z3, z4⟩ := hv
          exact ⟨a, rfl, z1, k1.hH.nn z2, z3, k1.nobody z2⟩
  have tt : TTg X.K X.mg n i br (fun E H' Q' => tM ⟨X.K, X.mg, fun cls d _ H => E cls d H⟩ th σ H' Q') H1 Q := by
    refine ⟨fun _ => a0', lessA H1 a0', F, F, (r.map hideS).set p0 (.io ct0), ok1.lend hs0 hv0 nF0 hct0, ?_⟩
    cases ht : th ((r.map hideS).set p0 (.io ct0)) with
    | no =>
      rw [ht] at po
      exact po.elim
    | ok d r1 =>
      rw [ht] at po
      dsimp only at po
      split at po
      case h_2 => exact po.elim
      rename_i ct' hr1
      exact fun F' H' v k1 e1 dp => fin (putC p0 ct' r) .none .non F' H' (back k1 hr1) e1 .non po
    | ex e r1 =>
      rw [ht] at po
      dsimp only at po
      split at po
      case h_2 => exact po.elim
      rename_i ct' hr1
      split at po
      case isFalse => exact po.elim
      rename_i hn
      intro F' H' st' cls dd k1 e1 xo
      have xo' := xo
      obtain ⟨hcls, _⟩ := xo
      refine ⟨by rw [hcls]; exact T.em e.name hn, fun a na => ?_⟩
      have nF := k1.fH.nn na
      have k2 := (back k1 hr1).layF (o := CauO cls dd a) na
      exact fin (putC p0 ct' r) (exOf e) (.ref a) _ _ k2 (e1.trans (Ex.new nF)) (exRp (mg := X.mg) (W := cW) (H := H') xo' (T.ex e.name hn) nF) po
  have rc : codeAny (model X.prog X.w) X.A (.call (.ref g) ⟨[.ref f], []⟩) (CR (L2.CX X.prog X.w) X.stack X.prog X.w H1 s' Q E00) s' := by
    refine LamX.run_ofS (N := N) (ps := [a0]) (us := [.ref f]) (vs := [.ref f]) lk hcd S hr.room I1.env0 (hb s' [.ref f] I1.kIn rfl) (.cons rfl .nil) rfl fun hr' => ?_
    exact GG cdv X.A X.stack s' H1 f c' (X.env.qual ++ "<lambda>") Q _ (hr.deeper _ ⟨S.gen, S.co, rfl, rfl⟩) (fun W pn xe p1 p2 tk => pe_actG (i := 0) I1 L hf hfn hfr (hbind _ _ _ _ _) tk (hr.deeper _ ⟨S.gen, S.co, rfl, rfl⟩) (fun E A outer s H hr2 => hbody E A outer s H f c' hr2) hN0 hva hd1 hd2) hco
      (fun Q' E E' hE ⟨pa, H0, F0, F, r, ok, po⟩ => ⟨pa, H0, F0, F, r, ok, po.mono (fun e r' z F' H' st' cls dd k e1 xo => hE _ _ _ (z F' H' st' cls dd k e1 xo)) fun _ _ z => z⟩)
      (fun E Q' Q'' hQ ⟨pa, H0, F0, F, r, ok, po⟩ => ⟨pa, H0, F0, F, r, ok, po.mono (fun _ _ z => z) fun d r' z F' H' v k e1 dp => hQ _ _ (z F' H' v k e1 dp)⟩) tt
  refine wpAny_call (codeAny_mono rc fun r2 s2 hq => ?_)
  cases r2 with
  | error e => exact (no_cxE hq).elim
  | ok fl =>
    cases fl with
    | ret u => exact I1.after hq
    | next => exact False.elim hq
    | brk => exact False.elim hq
    | cont => exact False.elim hq
theorem o_lamI2 (p0 : Nat) {X : Cx} {c : Cc} {x y : Str} {kk n i : Nat} {br : M Fl} {th : M D} {ns ys : List Str} {f0 : Addr} {params : Arguments} {body : Expr} {scope : Scope} {p lpos pos : Pos} (G : LamFn X.prog X.w X.K X.mg X.base (kk + 1) x n i br) (T : XTab X.K X.mg ns ys) (hr : Rm (kk + 2) X.A) (LA : LamAt X.K X.mg X.base y f0) (hc : CodeAt X.K f0 X.env.code)
    (L : LamS X.env.scope scope)
    (hbody : ∀ (E : XK) (A : Around) (outer : List Env) (s : Shared) (H : Hp) (f c' : Addr), Rm kk (A.deeper (lamEnv X scope s.heap.objs.size f c')) → PE (lamCx X A outer s H E scope f c') body (tM ⟨X.K, X.mg, fun cls d _ H => E cls d H⟩ th))
    (hq : X.env.qual ++ "<lambda>" = lamQ y := by rfl) (hdef : defaultsOf params X.env = ([], []) := by rfl)
    (hbind : ∀ (q : Str) (cl : List (Str × Addr)) (pm cv ctv : Value), bindArgs (PySem.W.kla_fn "<lambda>" q params body scope cl pm cv ctv) ⟨[], []⟩ = pure [] := by exact fun _ _ _ _ _ => rfl)
    (hK : c.K = X.K := by rfl) (hM : c.mg = X.mg := by rfl) (hg : Gl X x := by rfl) (hdb : (x == ("__debug__" : Str)) = false := by decide) :
    PE X (.Call (.Name x p) [.Lambda params body scope lpos] [] pos) (tO c (cLamI p0 ns n i br th)) := by
  obtain ⟨c0, P, h1, TB, hf, hm, hu⟩ := LA.ex
  subst hf
  exact o_lamI p0 G T hr TB (tabP_code h1 hc) (by rw [hq]; exact hm) (by rw [hq]; exact hu) L hdef hbind hbody hK hM hg hdb
end Pu

/-! ### texts -/
namespace Pu
open PySem PySem.Spec PyProof.Rows L2
variable [TabT]
/-- a list of texts -/
def strsOf : List D → Option (List Str)
  | [] => some []
  | .str a :: ds => (strsOf ds).map (a :: ·)
  | _ => none
theorem strsOf_some : ∀ {ds : List D} {ys : List Str}, strsOf ds = some ys → ds = ys.map .str
  | [], ys, h => by
    cases h
    rfl
  | .str a :: ds, ys, h => by
    cases e : strsOf ds with
    | none =>
      have h : (strsOf ds).map (a :: ·) = some ys := h
      rw [e] at h
      cases h
    | some zs =>
      have h : (strsOf ds).map (a :: ·) = some ys := h
      rw [e] at h
      cases h
      rw [strsOf_some e]
      rfl
theorem rpa_strs {K : PySem.W.Frag} {F : Hp} : ∀ {vs : List V} {ys : List Str}, RpAll K F vs (ys.map .str) → vs = ys.map V.str
  | _, [], .nil => rfl
  | _, y :: ys, .cons h t => by
    cases h
    rw [rpa_strs t]
    rfl
theorem rpa_of_strs {K : PySem.W.Frag} {F : Hp} : ∀ ys : List Str, RpAll K F (ys.map V.str) (ys.map .str)
  | [] => .nil
  | k :: ks => .cons (.str k) (rpa_of_strs ks)
/-- o.m(e), o a text -/
noncomputable def eSM (g : Str → D → Option D) (mo me : M D) : M D := mo.bind fun d => match d with
  | .str a => me.bind fun b => M.opt (g a b)
  | _ => M.no
noncomputable def joinT (a : Str) : D → Option D
  | .list ds => (strsOf ds).bind fun ys => cI ((ys.map (·.length)).sum + ys.length * a.length ≤ 16777216) (some (.str (Txt.join a ys))) none
  | _ => none
def startT (a : Str) : D → Option D
  | .str b => some (.bool (Txt.startswith a b))
  | _ => none
noncomputable def splitT (a : Str) : D → Option (List D)
  | .str b => cI ((b.length == 0) = false ∧ a.length + 2 ≤ sizeLine) (some ((Txt.split a b).map .str)) none
  | _ => none
section
variable {X : Cx} {c : Cc}
theorem e_join {o e : Expr} {mo me : M D} {apos pos : Pos} (ho : PE X o (tM c mo)) (he : PE X e (tM c me)) (hK : c.K = X.K := by rfl) (hs : starEach [e] X.env = [(false, eval e X.env)] := by rfl)
    (hbase : attributeBase o "join" X.env (eval o X.env) = eval o X.env := by rfl) (hline : (apos.endLine == pos.line) = true := by rfl) : PE X (.Call (.Attribute o "join" apos) [e] [] pos) (tM c (eSM joinT mo me)) :=
  pe_cq (pe_m1 F.slot_str_join F.type_str_join mt_join ho he hs hbase hline) fun st H Q ⟨pa, H0, F0, F, r, ok, po⟩ => seqM ok po fun d r1 F1 H1 v k1 e1 dp q => by
    cases dp with
    | str a =>
      have q := Po.bind (show Po _ ((me.bind fun b => M.opt (joinT a b)) r1) _ from q)
      refine ⟨⟨a, rfl⟩, pa, H0, F0, F1, r1, k1, q.mono (fun _ _ x => x) fun b r2 q F2 H2 w k2 e2 dq => ?_⟩
      obtain ⟨z, hz, q2⟩ := opt_po q
      cases dq with
      | @lst p vs ds g1 g2 =>
        cases es : strsOf ds with
        | none =>
          have hz : (strsOf ds).bind _ = some z := hz
          rw [es] at hz
          cases hz
        | some ys =>
          have hz : (strsOf ds).bind (fun ys => cI ((ys.map (·.length)).sum + ys.length * a.length ≤ 16777216) (some (PyData.str (Txt.join a ys))) none) = some z := hz
          rw [es] at hz
          have hz : cI ((ys.map (·.length)).sum + ys.length * a.length ≤ 16777216) (some (PyData.str (Txt.join a ys))) none = some z := hz
          rw [cI_eq] at hz
          split at hz
          · rename_i hm
            cases hz
            have eds := strsOf_some es
            subst eds
            have evs := rpa_strs g2
            subst evs
            exact ⟨a, p, ys, rfl, rfl, .inl (by rw [← hK]; exact k2.fH.l g1), hm, q2 F2 H2 _ k2 (e1.trans e2) (.str _)⟩
          · cases hz
      | _ => cases hz
    | _ => exact (show False from q).elim
theorem e_starts {o e : Expr} {mo me : M D} {apos pos : Pos} (ho : PE X o (tM c mo)) (he : PE X e (tM c me)) (hK : c.K = X.K := by rfl) (hs : starEach [e] X.env = [(false, eval e X.env)] := by rfl)
    (hbase : attributeBase o "startswith" X.env (eval o X.env) = eval o X.env := by rfl) (hline : (apos.endLine == pos.line) = true := by rfl) : PE X (.Call (.Attribute o "startswith" apos) [e] [] pos) (tM c (eSM startT mo me)) :=
  pe_cq (pe_m1 F.slot_str_startswith F.type_str_startswith mt_startswith ho he hs hbase hline) fun st H Q ⟨pa, H0, F0, F, r, ok, po⟩ => seqM ok po fun d r1 F1 H1 v k1 e1 dp q => by
    cases dp with
    | str a =>
      have q := Po.bind (show Po _ ((me.bind fun b => M.opt (startT a b)) r1) _ from q)
      refine ⟨⟨a, rfl⟩, pa, H0, F0, F1, r1, k1, q.mono (fun _ _ x => x) fun b r2 q F2 H2 w k2 e2 dq => ?_⟩
      obtain ⟨z, hz, q2⟩ := opt_po q
      cases dq with
      | str b =>
        cases hz
        exact ⟨a, b, rfl, rfl, q2 F2 H2 _ k2 (e1.trans e2) (.bl _)⟩
      | _ => cases hz
    | _ => exact (show False from q).elim
noncomputable def oSplit (mo me : M D) : M RV := mo.bind fun d => match d with
  | .str a => me.bind fun b => M.opt ((splitT a b).map fun z => .o (.l z))
  | _ => M.no
theorem o_split {o e : Expr} {mo me : M D} {apos pos : Pos} (ho : PE X o (tM c mo)) (he : PE X e (tM c me)) (hK : c.K = X.K := by rfl) (hs : starEach [e] X.env = [(false, eval e X.env)] := by rfl)
    (hbase : attributeBase o "split" X.env (eval o X.env) = eval o X.env := by rfl) (hline : (apos.endLine == pos.line) = true := by rfl) : PE X (.Call (.Attribute o "split" apos) [e] [] pos) (tO c (oSplit mo me)) :=
  pe_cq (pe_m1 F.slot_str_split F.type_str_split mt_split ho he hs hbase hline) fun st H Q ⟨pa, H0, F0, F, r, ok, po⟩ => seqM ok po fun d r1 F1 H1 v k1 e1 dp q => by
    cases dp with
    | str a =>
      have q := Po.bind (show Po _ ((me.bind fun b => M.opt ((splitT a b).map fun z => RV.o (.l z))) r1) _ from q)
      refine ⟨⟨a, rfl⟩, pa, H0, F0, F1, r1, k1, q.mono (fun _ _ x => x) fun b r2 q F2 H2 w k2 e2 dq => ?_⟩
      obtain ⟨z, hz, q2⟩ := opt_po q
      cases dq with
      | str b =>
        have hz : (cI ((b.length == 0) = false ∧ a.length + 2 ≤ sizeLine) (some ((Txt.split a b).map PyData.str)) none).map (fun z => RV.o (.l z)) = some z := hz
        rw [cI_eq] at hz
        split at hz
        · rename_i hm
          cases hz
          exact ⟨a, b, rfl, rfl, hm.1, hm.2, fun p np => oA_end k2 (fun F' H' v ok ex dp => q2 F' H' v ok ((e1.trans e2).trans ex) dp) p _ np (rpa_of_strs _)⟩
        · cases hz
      | _ => cases hz
    | _ => exact (show False from q).elim
/-! ### for ch in a text -/
def chD (z : Str) : List D := z.cps.toList.map fun ch => .str ⟨#[ch]⟩
def chsD : D → Option (List D)
  | .str z => some (chD z)
  | _ => none
def iStrS (m : M D) : M (List D) := m.bind fun d => M.opt (chsD d)
theorem yl_str {K : PySem.W.Frag} {F : Hp} (z : Str) : Yl K F (Its z) (chD z) where
  go := fun i H hi _ => by
    have : (chD z).length = z.cps.size := by simp [chD]
    show i < z.cps.size
    omega
  stop := fun H _ => by
    have : (chD z).length = z.cps.size := by simp [chD]
    show z.cps.size ≤ _
    omega
  yld := fun i H x H' d hd _ hy => by
    obtain ⟨rfl, ch, hc, rfl⟩ := hy
    left
    refine ⟨rfl, ?_⟩
    unfold chD at hd
    rw [List.getElem?_map, Array.getElem?_toList, hc] at hd
    cases hd
    exact .str _
theorem i_str {tg e : Expr} {m : M D} (h : PE X e (tM c m)) : PI X tg e (iM c (iStrS m)) :=
  pi_cq (pi_str h) fun st H R ⟨pa, H0, F0, F, r, ok, po⟩ => by
    have po : Po (XW c pa H0 F0 F) ((m r).bind fun d => M.opt (chsD d)) _ := po
    refine ⟨pa, H0, F0, F, r, ok, ?_⟩
    cases hm : m r with
    | no =>
      rw [hm] at po
      exact po.elim
    | ex e r1 =>
      rw [hm] at po
      exact po
    | ok d r1 =>
      rw [hm] at po
      obtain ⟨xs, hx, q⟩ := opt_po (show Po (XW c pa H0 F0 F) (M.opt (chsD d) r1) _ from po)
      cases d with
      | str z =>
        cases hx
        intro F' H' v k e dp
        cases dp with
        | str => exact ⟨z, rfl, q F' H' _ k e (yl_str z)⟩
      | _ => cases hx
/-! ### a in b, texts; int(text); text * int -/
def inSD : D → D → Option D
  | .str i, .str j => some (.bool (!(Builtin.Str.occurrences j i 0 j.length 1).isEmpty))
  | _, _ => none
def ninSD : D → D → Option D
  | .str i, .str j => some (.bool (!(!(Builtin.Str.occurrences j i 0 j.length 1).isEmpty)))
  | _, _ => none
theorem inS_data : OpR X (compareOp .In) (rD2 c.K inSD) := opr_cq op_in_str fun x y H Q ⟨F, d, e, z, fh, dx, dy, hz, q⟩ => by
  cases dx with
  | str i =>
    cases dy with
    | str j =>
      cases hz
      exact ⟨i, j, rfl, rfl, q _ F H (.inl ⟨rfl, rfl⟩) (.bl _)⟩
    | _ => cases hz
  | _ => cases dy <;> cases hz
theorem ninS_data : OpR X (compareOp .NotIn) (rD2 c.K ninSD) := opr_cq op_notin_str fun x y H Q ⟨F, d, e, z, fh, dx, dy, hz, q⟩ => by
  cases dx with
  | str i =>
    cases dy with
    | str j =>
      cases hz
      exact ⟨i, j, rfl, rfl, q _ F H (.inl ⟨rfl, rfl⟩) (.bl _)⟩
    | _ => cases hz
  | _ => cases dy <;> cases hz
noncomputable def intTD : D → Option D
  | .str a => cI (a.length ≤ 640) ((PySem.intText? a).map .int) none
  | _ => none
theorem intT_data : CallR X (.type "int") (rDA c.K (one intTD)) := callr_cq call_int_str fun xs H Q ⟨F, ds, z, fh, dps, hz, q⟩ => by
  obtain ⟨d, rfl, hz⟩ := one_some hz
  obtain ⟨v, rfl, dp⟩ := rpa_one dps
  cases dp with
  | str a =>
    have hz : cI (a.length ≤ 640) ((PySem.intText? a).map PyData.int) none = some z := hz
    rw [cI_eq] at hz
    split at hz
    · rename_i hl
      cases hn : PySem.intText? a with
      | none =>
        rw [hn] at hz
        cases hz
      | some n =>
        rw [hn] at hz
        cases hz
        exact ⟨a, n, rfl, hn, hl, q _ F H (.inl ⟨rfl, rfl⟩) (.int _)⟩
    · cases hz
  | _ => cases hz
/-- text * int -/
theorem op_mul_str : OpR X (binaryOp .Mult) (fun x y H Q => ∃ (i : Str) (n : Int), x = .str i ∧ y = .int n ∧ PySem.MulOk i n ∧ Q (.str (Txt.mul i n)) H) := by
  intro pins s σ H x y v u Q I rx ry h
  obtain ⟨i, n, rfl, rfl, hz, q⟩ := h
  obtain ⟨t, rfl⟩ := rx
  obtain ⟨t', rfl⟩ := ry
  exact PySem.SB.mul hz fun t' tk => ⟨.str (Txt.mul i n), H, I.tok _, ⟨_, rfl⟩, q⟩
noncomputable def mulTD : D → D → Option D
  | .str i, .int n => cI (PySem.MulOk i n) (some (.str (Txt.mul i n))) none
  | _, _ => none
theorem mulT_data : OpR X (binaryOp .Mult) (rD2 c.K mulTD) := opr_cq op_mul_str fun x y H Q ⟨F, d, e, z, fh, dx, dy, hz, q⟩ => by
  cases dx with
  | str i =>
    cases dy with
    | int n =>
      have hz : cI (PySem.MulOk i n) (some (PyData.str (Txt.mul i n))) none = some z := hz
      classical
      rw [cI_eq] at hz
      split at hz
      · rename_i hm
        cases hz
        exact ⟨i, n, rfl, rfl, hm, q _ F H (.inl ⟨rfl, rfl⟩) (.str _)⟩
      · cases hz
    | _ => cases hz
  | _ => cases dy <;> cases hz
end
end Pu

namespace Pu
open PySem PySem.Spec PyProof.Rows L2
variable [TabT]
section
variable {X : Cx} {c : Cc}
/-! ### l.reverse() -/
def eLRev (i : Nat) : M D := fun r => match getC i r with
  | some (.l ds) => .ok .none (putC i (.l ds.reverse) r)
  | _ => .no
theorem e_lrev (i : Nat) {x : Str} {px apos cpos : Pos} (hN : X.N[i]? = some x := by rfl) (hv : Vis X.env.scope x := by first | exact Or.inl rfl | exact Or.inr (Or.inl rfl) | exact Or.inr (Or.inr rfl)) (hd : (x == ("__debug__" : Str)) = false := by decide)
    (hcd : (x == ("__classdict__" : Str)) = false := by decide)
    (hbase : attributeBase (.Name x px) "reverse" X.env (eval (.Name x px) X.env) = eval (.Name x px) X.env := by rfl)
    (hline : (apos.endLine == cpos.line) = true := by rfl) :
    PE X (.Call (.Attribute (.Name x px) "reverse" apos) [] [] cpos) (tM c (eLRev i)) :=
  pe_cq (pe_bm0 PySem.F.plainAttrs_list PySem.F.slot_list_reverse PySem.F.type_list_reverse mt_reverse (pe_var (i := i) hN hv hd hcd) hbase hline) fun st H Q ⟨pa, H0, F0, F, r, ok, po⟩ => by
    unfold eLRev at po
    split at po
    · rename_i ds0 hg
      obtain ⟨s0, hs0, hso0⟩ := getC_some hg
      obtain ⟨a, hst, nF, n0, vs0, hH0, hr0⟩ := ok.ownd hs0 hso0
      refine ⟨_, hst, .inl ⟨rfl, vs0, .inl (.inl hH0)⟩, ?_⟩
      refine ⟨a, vs0, rfl, rfl, hH0, ?_⟩
      exact po F _ _ (ok.putC hg hst ⟨_, upd_same, dpa_rev hr0⟩) (Ex.refl F) .non
    · exact po.elim
end
@[simp] theorem eLRev_ap (i : Nat) (r : En) : eLRev i r = (match getC i r with
  | some (.l ds) => .ok .none (putC i (.l ds.reverse) r)
  | _ => .no) := rfl
end Pu

namespace Pu
open PySem PySem.Spec PyProof.Rows L2
variable [TabT]
/-! ### i // j of any size -/
noncomputable def fdivLD : D → D → Option D
  | .int i, .int j => cI (j ≠ 0) (some (.int (i.fdiv j))) none
  | _, _ => none
section
variable {X : Cx} {c : Cc}
theorem pylong_room {k : Nat} (hr : Rm k X.A) (NS : SeerK X.prog X.base) {pins : List (Addr × Obj)} {σ : L2.St} {H : Hp} {s : Shared} (I : Inv X pins σ H s) : PySem.PylongRoom (model X.prog X.w) X.A s := by
  have kp : ∀ b o, X.base.get? b = some o → s.heap.get? b = some o := fun b o e => (I.env0.bs b o e).1
  obtain ⟨env, l, hf, t⟩ := hr.top
  refine PySem.PylongRoom.of (I.ok.mod.nolimit.keeps kp) ?_ (PySem.SeerAt.of (NS.ns.keeps kp) NS.tree hf t.gen t.co t.bl t.gl)
  have := hr.dl
  show X.A.depth + 100 < recursionLimit
  omega
theorem op_fdivL {k : Nat} (hr : Rm k X.A) (NS : SeerK X.prog X.base) : OpR X (binaryOp .FloorDiv) (rI (fun _ j => j ≠ 0) fun i j => .int (i.fdiv j)) := by
  intro pins s σ H x y v u Q I rx ry h
  obtain ⟨i, j, rfl, rfl, hc, q⟩ := h
  obtain ⟨t, rfl⟩ := rx
  obtain ⟨t', rfl⟩ := ry
  exact floordiv_int hc ⟨.int (i.fdiv j), H, I.tok _, ⟨_, rfl⟩, q⟩ (.inr (pylong_room hr NS I))
theorem fdivL_data {k : Nat} (hr : Rm k X.A) (NS : SeerK X.prog X.base) : OpR X (binaryOp .FloorDiv) (rD2 c.K fdivLD) := opr_cq (op_fdivL hr NS) fun x y H Q ⟨F, d, e, z, fh, dx, dy, hz, q⟩ => by
  cases dx with
  | int i =>
    cases dy with
    | int j =>
      have hz : (if j ≠ 0 then some (PyData.int (i.fdiv j)) else none) = some z := by
        rw [← cI_eq]
        exact hz
      split at hz
      · rename_i hm
        cases hz
        exact ⟨i, j, rfl, rfl, hm, q _ F H (.inl ⟨rfl, rfl⟩) (.int _)⟩
      · cases hz
    | _ => cases hz
  | _ => cases hz
end
end Pu

namespace Pu
open PySem PySem.Spec PyProof.Rows L2
variable [TabT]
/-! ### f(x, ..) that lends an owned list x and hands further values -/
noncomputable def cCallBn (i : Nat) (f : List Sl → Re RV) (ms : M (List D)) : M RV := fun r => match getC i r with
  | some _ => (match ms r with
    | .ok es r1 => (match r1[i]? with
      | some (.o (.l ds)) => (match f (.v (.list ds) :: es.map .v) with
        | .ok rv _ => cI (noLR rv = true) (.ok rv r1) .no
        | _ => .no)
      | _ => .no)
    | _ => .no)
  | none => .no
section
variable {X : Cx} {c : Cc}
theorem callBn {n : Nat} {es : List D} {us : List V} {f : List Sl → Re RV} {F H : Hp} {st : L2.St} {r : En} {pa : Nat → Addr} {H0 F0 : Hp} {i : Nat} {ds : List D} {a : Addr} {Q : VK} (k1 : Ok c.K pa H0 F0 F H st r) (hi : r[i]? = some (.o (.l ds))) (hst : st[i]? = some (some (.ref a))) (hn : es.length + 1 = n) (hus : RpAll c.K F us es)
    (q : Po (XW c pa H0 F0 F) (match f (.v (.list ds) :: es.map .v) with
      | .ok rv _ => cI (noLR rv = true) (.ok rv r) .no
      | _ => .no) fun rv r' => ∀ F' H' v, Ok c.K pa H0 F0 F' H' st r' → Ex F F' → RvOk c.K H0 F' H' st r' v rv → Q v H') : spG c.K c.mg n f (.ref a :: us) H Q (fun cls d H' => c.W cls d st H') := by
  obtain ⟨a', h1, nF, n0, vs, hH, hr⟩ := k1.ownd hi rfl
  rw [hst] at h1
  cases h1
  have eF : Ex F (upd F a (.lst vs)) := Ex.new nF
  have eFH : Ex (upd F a (.lst vs)) H := ⟨fun b o e nt => by
    by_cases hb : b = a
    · subst hb
      rw [upd_same] at e
      rw [hH]
      exact e
    · rw [upd_ne hb] at e
      exact k1.fH.at_ b o e nt, fun b ps e => by
    by_cases hb : b = a
    · subst hb
      rw [upd_same] at e
      cases e
    · rw [upd_ne hb] at e
      exact k1.fH.tb b ps e⟩
  have dps : RpAll c.K (upd F a (.lst vs)) (.ref a :: us) (.list ds :: es) := .cons (.lst (.inl (.inl upd_same)) (dpa_mono eF hr)) (dpa_mono eF hus)
  refine ⟨by rw [List.length_cons, dpa_len hus, hn], pa, H, upd F a (.lst vs), (.list ds :: es).map .v, argsV dps eFH k1.tb, argsOkV _, ?_⟩
  show Po _ (f (.v (.list ds) :: es.map .v)) _
  cases hf : f (.v (.list ds) :: es.map .v) with
  | no =>
    rw [hf] at q
    exact q.elim
  | ex ee z =>
    rw [hf] at q
    exact q.elim
  | ok rv z =>
    rw [hf] at q
    obtain ⟨hno, q⟩ := cI_po q
    refine fun F' H' v k2 hv => ?_
    have ha' : F' a = some (.lst vs) := k2.fF.at_ a _ upd_same (fun ps z => nomatch z)
    have ed : Ex F (dropA a F') := ⟨fun b o e nt => by
      have hb : b ≠ a := fun z => by rw [z, nF] at e; cases e
      rw [drop_ne hb]
      exact (eF.trans k2.fF).at_ b o e nt, fun b ps e => by
      have hb : b ≠ a := fun z => by rw [z, nF] at e; cases e
      obtain ⟨m, hm⟩ := (eF.trans k2.fF).tb b ps e
      exact ⟨m, by rw [drop_ne hb]; exact hm⟩⟩
    have edH : Ex (dropA a F') H' := ⟨fun b o e nt => by
      by_cases hb : b = a
      · rw [hb, drop_same] at e
        cases e
      · rw [drop_ne hb] at e
        exact k2.fH.at_ b o e nt, fun b ps e => by
      by_cases hb : b = a
      · rw [hb, drop_same] at e
        cases e
      · rw [drop_ne hb] at e
        exact k2.fH.tb b ps e⟩
    have k3 : Ok c.K pa H0 F0 (dropA a F') H' st r := k1.grow k2.hH ed edH (fun b g1 g2 => by
      by_cases hb : b = a
      · rw [hb, drop_same] at g1
        exact absurd rfl g1
      · rw [drop_ne hb] at g1
        have := k2.sep b g2 g1
        rw [upd_ne hb] at this
        exact this) k2.tb
    refine q (dropA a F') H' v k3 ed ?_
    cases rv with
    | v d => exact rp_drop ha' hv hno
    | o ct =>
      cases ct with
      | t kvs => cases hno
      | d kvs => cases hno
      | l es =>
        obtain ⟨b, rfl, z1, z2, ⟨ws, z3, z5⟩, z4⟩ := hv
        refine ⟨b, rfl, ?_, k1.hH.nn z2, ⟨ws, z3, rpa_drop ha' z5 hno⟩, k1.nobody z2⟩
        by_cases hb : b = a
        · rw [hb, drop_same]
        · rw [drop_ne hb]
          exact z1
theorem o_callBn {k n : Nat} (i : Nat) {x y : Str} {f : List Sl → Re RV} {p py pos : Pos} {es : List Expr} {ms : M (List D)} (G : Fn X.prog X.w X.K X.mg X.base k x n f) (hr : Rm k X.A) (tk : Takes X c.W) (ha : PA X es (tA c ms)) (hnm : ∀ r ds r', ms r = .ok ds r' → ds.length + 1 = n) (hK : c.K = X.K := by rfl) (hM : c.mg = X.mg := by rfl) (hg : Gl X x := by rfl)
    (hN : X.N[i]? = some y := by rfl) (hv : Vis X.env.scope y := by first | exact Or.inl rfl | exact Or.inr (Or.inl rfl) | exact Or.inr (Or.inr rfl)) (hd : (y == ("__debug__" : Str)) = false := by decide) (hcd : (y == ("__classdict__" : Str)) = false := by decide)
    (hdb : (x == ("__debug__" : Str)) = false := by decide) (he : starEach (.Name y py :: es) X.env = (false, eval (.Name y py) X.env) :: starEach es X.env := by rfl) (hpl : (backTo pos (starEach es X.env)).any (·.1) = false := by rfl) :
    PE X (.Call (.Name x p) (.Name y py :: es) [] pos) (tO c (cCallBn i f ms)) := by
  obtain ⟨a, fd, ps, g1, g2, g3, g4⟩ := G.ex
  refine pe_cq (pe_callG (Ew := fun st cls d H' => c.W cls d st H') g4 hr hg g1 g2 g3 (fun σ => passAt tk σ) (pa_cons (pe_var (i := i) hN hv hd hcd) ha he) hdb he hpl) fun st H Q ⟨pa, H0, F0, F, r, ok, po⟩ => ?_
  unfold cCallBn at po
  cases hgc : getC i r with
  | none =>
    rw [hgc] at po
    exact po.elim
  | some ct0 =>
    rw [hgc] at po
    dsimp only at po
    obtain ⟨s0, hs0, hso0⟩ := getC_some hgc
    obtain ⟨a0, hv0, _⟩ := ok.ownd hs0 hso0
    cases hm : ms r with
    | no =>
      rw [hm] at po
      exact po.elim
    | ex ee r1 =>
      rw [hm] at po
      exact po.elim
    | ok es r1 =>
      rw [hm] at po
      dsimp only at po
      split at po
      · rename_i ds hi
        refine ⟨_, hv0, pa, H0, F0, F, r, ok, ?_⟩
        rw [hm]
        intro F1 H1 vs k1 e1 dps
        rw [← hK, ← hM]
        exact callBn k1 hi hv0 (hnm r es r1 hm) dps (po.mono (XW.mono e1) fun rv r' z F' H' v k ex hv => z F' H' v k (e1.trans ex) hv)
      · exact po.elim
end
end Pu

namespace Pu
open PySem PySem.Spec PyProof.Rows L2
variable [TabT]
/-! ### sorted(xs) of a list of data, any number -/
noncomputable def sortAD : D → Option (List D)
  | .list ds => cI (ds.length ≤ 1) (some ds) (cI (PySem.W.AllAlike ds ∧ PySem.W.Sortable ds ∧ ∀ d ∈ ds, SeqAt.shaped d = true) (some (ds.mergeSort (PySem.W.dataLe false id))) none)
  | _ => none
noncomputable def sortAL : List D → Option (List D)
  | [d] => sortAD d
  | _ => none
theorem vals_ap {K : PySem.W.Frag} {F : Hp} {R : Value → (D × V) → Prop} (hR : ∀ v b, R v b → RelV b.2 v ∧ Rp K F b.2 b.1) : ∀ {out : List Value} {bs : List (D × V)}, PySem.W.EachIs R out bs → Vals (bs.map (·.2)) out ∧ RpAll K F (bs.map (·.2)) (bs.map (·.1))
  | _, _, .nil => ⟨.nil, .nil⟩
  | _, _, .cons h t => by
    obtain ⟨h1, h2⟩ := hR _ _ h
    obtain ⟨g1, g2⟩ := vals_ap hR t
    exact ⟨.cons h1 g1, .cons h2 g2⟩
theorem ap_vals {K : PySem.W.Frag} {F : Hp} : ∀ {vs : List Value} {xs : List V} {ds : List D}, Vals xs vs → RpAll K F xs ds → PySem.W.EachIs (fun (v : Value) (b : D × V) => RelV b.2 v ∧ Rp K F b.2 b.1) vs (ds.zip xs)
  | _, _, _, .nil, .nil => .nil
  | _, _, _, .cons h t, .cons g q => .cons ⟨h, g⟩ (ap_vals t q)
theorem zipd_fst {ds : List D} {xs : List V} (h : xs.length = ds.length) : (ds.zip xs).map (·.1) = ds := List.map_fst_zip (by omega)
theorem perm_small {α : Type} : ∀ {l m : List α}, l.Perm m → m.length ≤ 1 → l = m
  | l, [], h, _ => h.eq_nil
  | l, [x], h, _ => List.perm_singleton.mp h
  | l, x :: y :: t, _, h => by simp at h
section
variable {X : Cx} {c : Cc}
theorem call_sortedA {k : Nat} (hr : Rm k X.A) (hK : c.K = X.K := by rfl) : CallR X (.builtin "sorted") (rDAo c.K sortAL) := by
  classical
  intro pins s σ H vs us Q I r h
  obtain ⟨F, ds, z, fh, dps, hz, q⟩ := h
  have hz : ∃ d, ds = [d] ∧ sortAD d = some z := by
    unfold sortAL at hz
    split at hz
    · exact ⟨_, rfl, hz⟩
    · cases hz
  obtain ⟨d, rfl, hz⟩ := hz
  obtain ⟨v, rfl, dp⟩ := rpa_one dps
  cases dp with
  | @lst a xs ds h1 h2 =>
    rw [Vals.ref1 r]
    obtain ⟨its, rv, hl, hlz⟩ := I.list (by rw [← hK]; exact fh.l h1)
    have lxd := dpa_len h2
    have hz : cI (ds.length ≤ 1) (some ds) (cI (PySem.W.AllAlike ds ∧ PySem.W.Sortable ds ∧ ∀ d ∈ ds, SeqAt.shaped d = true) (some (ds.mergeSort (PySem.W.dataLe false id))) none) = some z := hz
    have fin : ∀ (out : Array Value) (ys : List V), ys.length ≤ sizeLine → Vals ys out.toList → RpAll c.K F ys z → EP X pins σ Q (.ref (s.heap.objs.size + 1)) { s with heap := sortedAll s.heap its out } := fun out ys hys h3 h4 => by
      obtain ⟨ep, he'⟩ := PyProof.Rows.sortedAll_at s.heap its out
      exact ⟨.ref _, upd H (s.heap.objs.size + 1) (.lst ys), I.laid (t' := s.toks) (fun _ _ => PyProof.Rows.sortedAll_old) (Nat.le_succ _) ⟨hys, out.toList, ep, h3, he'⟩, rfl, q _ _ (I.hok.fresh (Nat.le_succ _)) h4⟩
    rw [cI_eq] at hz
    by_cases h11 : ds.length ≤ 1
    · rw [if_pos h11] at hz
      cases hz
      have lv := rv.length
      have key : ∀ out : List Value, SrtO.Srtd SrtO.ltIv out → SrtO.Stb SrtO.ltIv out its → EP X pins σ Q (.ref (s.heap.objs.size + 1)) { s with heap := sortedAll s.heap its out.toArray } := fun out _ hb => by
        have eo : out = its := perm_small hb.perm (by omega)
        subst eo
        exact fin out.toArray xs hlz (by simpa using rv) h2
      exact SrtO.sorted_ord (E := X.xe) SrtO.swo_int hl.isList (by rw [← rv.length]; exact hlz) (fun h2' _ _ _ _ => by omega) key
    · rw [if_neg h11, cI_eq] at hz
      split at hz
      · rename_i hc
        obtain ⟨hal, hso, hsh⟩ := hc
        cases hz
        have hzf := zipd_fst (ds := ds) (xs := xs) lxd
        have er : PySem.W.EachIs (fun (v : Value) (b : D × V) => ∃ as, Reads s.heap v (b.1) as) its (ds.zip xs) := by
          have base := ap_vals (K := c.K) (F := F) rv h2
          have go : ∀ {vs : List Value} {bs : List (D × V)}, PySem.W.EachIs (fun (v : Value) (b : D × V) => RelV b.2 v ∧ Rp c.K F b.2 b.1) vs bs → (∀ b ∈ bs, SeqAt.shaped b.1 = true) → PySem.W.EachIs (fun (v : Value) (b : D × V) => ∃ as, Reads s.heap v (b.1) as) vs bs := by
            intro vs bs e
            induction e with
            | nil => intro _; exact .nil
            | @cons v b as bs hvb _ ih =>
              intro hall
              refine .cons ?_ (ih fun b hb => hall b (List.mem_cons_of_mem _ hb))
              have hdp : Dp X.K H b.2 b.1 := by
                rw [← hK]
                exact rp_dp (dp_mono fh hvb.2) (hall b (List.mem_cons_self ..))
              exact Dp.reads I b.1 b.2 v hdp hvb.1
          exact go base fun b hb => hsh b.1 (List.of_mem_zip (a := b.1) (b := b.2) hb).1
        have p1 : PySem.W.AllAlike ((ds.zip xs).map fun b : D × V => b.1) := by rw [show (ds.zip xs).map (fun b : D × V => b.1) = ds from hzf]; exact hal
        have p2 : PySem.W.Sortable ((ds.zip xs).map fun b : D × V => b.1) := by rw [show (ds.zip xs).map (fun b : D × V => b.1) = ds from hzf]; exact hso
        have p3 : (ds.zip xs).length ≤ sizeLine := by
          rw [List.length_zip]
          exact Nat.le_trans (Nat.min_le_right _ _) hlz
        refine PySem.W.sorted_data (prog := X.prog) (w := X.w) (A := X.A) (E := X.xe) (s := s) (vs := its) (bs := ds.zip xs) (l := a) (Q := EP X pins σ Q) (enc := fun b : D × V => b.1) (R := fun v b => RelV b.2 v ∧ Rp c.K F b.2 b.1) hl.isList (ap_vals rv h2) er p1 p2 p3 (fun b hb => ?_) fun out hlen ho => ?_
        · have h64 := SeqAt.depth_of_shaped (hsh b.1 (List.of_mem_zip (a := b.1) (b := b.2) hb).1)
          have := hr.u150
          omega
        · obtain ⟨g1, g2⟩ := vals_ap (K := c.K) (F := F) (fun _ _ h => h) ho
          have em : ((ds.zip xs).mergeSort (PySem.W.dataLe false fun b : D × V => b.1)).map (·.1) = ds.mergeSort (PySem.W.dataLe false id) := by
            refine (List.map_mergeSort (r := PySem.W.dataLe false fun b : D × V => b.1) (s := PySem.W.dataLe false id) (f := fun b : D × V => b.1) (l := ds.zip xs) fun a _ b _ => rfl).trans ?_
            rw [show (ds.zip xs).map (fun b : D × V => b.1) = ds from hzf]
          rw [em] at g2
          refine fin _ _ ?_ (by simpa using g1) g2
          rw [List.length_map, List.length_mergeSort, List.length_zip]
          omega
      · cases hz
  | _ => cases hz
theorem o_sortA {k : Nat} {e : Expr} {p pos : Pos} {m : M D} (hr : Rm k X.A) (hm : X.mg "sorted" = none) (ha : PE X e (tM c m)) (hK : c.K = X.K := by rfl) (hg : Gl X "sorted" := by rfl)
    (he : starEach [e] X.env = [(false, eval e X.env)] := by rfl) (hpl : (backTo pos (starEach [] X.env)).any (·.1) = false := by rfl) : PE X (.Call (.Name "sorted" p) [e] [] pos) (tO c (nryO sortAL (aCons m aNil))) :=
  o_callB (c := c) (call_sortedA hr hK) hm (a_cons ha a_nil he) hg (by decide +kernel) (by decide) (by decide) he hpl
/-! ### {k: v}, the key a tuple -/
def tDispT1 (tk tv : TE) : TE := fun σ H Q => ∀ p, H p = none → tk σ (upd H p (.dT [])) fun x H1 => tv σ H1 fun y H2 => ∃ (ks : List Key) (b : Addr), x = .ref b ∧ H2 b = some (.tup (ks.map kV)) ∧ H2 p = some (.dT []) ∧ Q (.ref p) (upd H2 p (.dT [(ks, y)]))
/-- the one pair of a display -/
def Qp (p : Addr) (Q : VK) : List (V × V) → Hp → Prop := fun ps H2 => match ps with
  | [(x, y)] => ∃ (ks : List Key) (b : Addr), x = .ref b ∧ H2 b = some (.tup (ks.map kV)) ∧ H2 p = some (.dT []) ∧ Q (.ref p) (upd H2 p (.dT [(ks, y)]))
  | _ => False
theorem pe_dispT1 {pos : Pos} {k v : Expr} {tk tv : TE} (hk : PE X k tk) (hv : PE X v tv) (hu : X.A.units + 1 < cLine) : PE X (.Dict [some k] [v] pos) (tDispT1 tk tv) := by
  refine ⟨fun pins s σ H Q I q => ?_⟩
  have hn := I.hok.fresh (Nat.le_refl s.heap.objs.size)
  have I1 := I.laid (a := s.heap.objs.size) (o := .dT []) (h' := s.heap.push { cls := .type "dict", data := .dict #[] }) (t' := s.toks) (fun _ _ q => Heap.get?_push_of_some _ q) (Nat.le_refl _) (dt_empty s.heap I.big)
  have hq : tPairs [(tk, tv)] σ (upd H s.heap.objs.size (.dT [])) (Qp s.heap.objs.size Q) := q _ hn
  have hrun := (pps_cons hk hv (pps_nil (X := X) (pos := pos))).run pins _ σ _ _ I1 hq
  rw [arm_eval_Dict, zip_pairTrees [some k] [v] X.env pos rfl rfl, dictDisplay_pairs (pairTrees [some k] [v] X.env pos) (fun z => by cases z) (show 1 < 17 by decide)]
  refine wpAny_bind (wpAny_standAt (wpAny_bind (wpAny_subDictH (knd := tupleKind (mixKind X.prog X.w)) (Q := fun d s' => wpAny (model X.prog X.w) X.A (pure (Value.ref d)) (EP X pins σ Q) X.xe s') (show X.A.units < cLine by omega) (show 1 ≤ 15 by decide) (wpAny_mono hrun (fun vs s1 h1 => ?_) fun _ _ e => e))))
  obtain ⟨ps, H2, I2, rel, h2⟩ := h1
  match ps, rel, h2 with
  | [(x, y)], rel, h2 =>
    obtain ⟨ks, b, rfl, hb, hp, q2⟩ := h2
    cases rel with
    | @cons _ w0 _ ws0 r1 r2 =>
    cases r2
    obtain ⟨kv, vv⟩ := w0
    obtain ⟨rk, rv⟩ := r1
    obtain rfl : kv = Value.ref b := rk
    obtain ⟨z, hd, xs, rel2, dd⟩ := dt_of I2.hok hp
    cases rel2
    refine ⟨[(ks, b, vv)], ⟨rfl, rfl, key_of I2.hok hb, trivial⟩, dd, fun h' tk dd' hs => wpAny_pure ⟨.ref s.heap.objs.size, _, ?_, rfl, q2⟩⟩
    obtain ⟨o, es, ep, ho, h3, h4, h5, _, h6⟩ := dd'
    refine d_write I2 (by rw [hp]; exact True.intro) hs ⟨o, ho⟩ ⟨by rw [sizeLine_eq]; show 1 ≤ 16777216; decide, hd, [(ks, b, vv)], .cons ⟨rfl, ?_, rv⟩ .nil, o, es, ep, ho, h3, h4, h5, h6⟩
    rw [upd_ne (ne_of hb hp (fun z => nomatch z))]
    exact hb
  | [], _, h2 => exact h2.elim
  | _ :: _ :: _, _, h2 => exact h2.elim
def oDictT1 (mk mv : M D) : M RV := mk.bind fun kd => mv.bind fun d => M.opt ((tkeyD kd).map fun y => .o (.t [(y, d)]))
theorem o_dictT1 {pos : Pos} {k v : Expr} {mk mv : M D} (hk : PE X k (tM c mk)) (hv : PE X v (tM c mv)) (hu : X.A.units + 1 < cLine) : PE X (.Dict [some k] [v] pos) (tO c (oDictT1 mk mv)) :=
  pe_cq (pe_dispT1 hk hv hu) fun st H Q ⟨pa, H0, F0, F, r, ok, po⟩ p np => by
    have n0 := ok.hH.nn np
    have nF := ok.fH.nn np
    have nF0 := ok.fF.nn nF
    have kl := ok.lay (o := .dT []) np
    have kf : Ok c.K pa (upd H0 p (.dT [])) F0 F (upd H p (.dT [])) st r := kl.frame ⟨fun a o z nt => by
        by_cases ha : a = p
        · subst ha
          rw [upd_same] at z ⊢
          exact z
        · rw [upd_ne ha] at z ⊢
          exact ok.hH.at_ a o z nt, fun a ps z => by
        by_cases ha : a = p
        · subst ha
          rw [upd_same] at z
          cases z
        · rw [upd_ne ha] at z ⊢
          exact ok.hH.tb a ps z⟩ (fun a z1 z2 => by
        by_cases ha : a = p
        · subst ha
          exact absurd nF z2
        · rw [upd_ne ha] at z1
          exact ok.sep a z1 z2) (fun j s ct a hj hct hst => by
        have na : a ≠ p := fun z => ok.nobody np j s ct hj hct (by rw [hst, z])
        rw [upd_ne na]
        obtain ⟨a', g1, g2, g3, g4⟩ := ok.ownd hj hct
        rw [hst] at g1
        cases g1
        exact g3)
    have un : ∀ {F3 H3 : Hp} {st3 : L2.St} {r3 : En}, Ok c.K pa (upd H0 p (.dT [])) F0 F3 H3 st3 r3 → Ok c.K pa H0 F0 F3 H3 st3 r3 ∧ H3 p = some (.dT []) ∧ F3 p = none ∧ (∀ (i : Nat) (s : Sl) (ct : Ct), r3[i]? = some s → s.own = some ct → st3[i]? ≠ some (some (.ref p))) := fun {F3 H3 st3 r3} k3 => by
      have h0 : Ex H0 (upd H0 p (.dT [])) := Ex.new n0
      refine ⟨k3.frame (h0.trans k3.hH) (fun a z1 z2 => k3.sep a (by
        cases hz : H0 a with
        | none => exact absurd hz z1
        | some o => exact (h0.some hz).elim fun _ q => ne_none q) z2) (fun j s ct a hj hct hst => ?_), k3.hH.at_ p _ upd_same (fun ps z => nomatch z), none_of_not fun z => k3.sep p (ne_none upd_same) z nF0, fun j s ct hj hct hst => ?_⟩
      · obtain ⟨a', g1, g2, g3, g4⟩ := k3.ownd hj hct
        rw [hst] at g1
        cases g1
        exact h0.nn g3
      · obtain ⟨a', g1, g2, g3, g4⟩ := k3.ownd hj hct
        rw [hst] at g1
        cases g1
        rw [upd_same] at g3
        cases g3
    have po2 : Po (XW c pa (upd H0 p (.dT [])) F0 F) (mk.bind (fun kd => mv.bind fun d => M.opt ((tkeyD kd).map fun y => RV.o (.t [(y, d)]))) r) fun d r' => ∀ F' H' v, Ok c.K pa H0 F0 F' H' st r' → Ex F F' → RvOk c.K H0 F' H' st r' v d → Q v H' := po.mono (fun e r' z F' H' st' cls dd k' => z F' H' st' cls dd (un k').1) fun _ _ x => x
    refine seqM kf po2 fun kd r1 F1 H1 kv k1 e1 dk q => ?_
    refine seqM k1 q fun d r2 F2 H2 w k2 e2 dv q => ?_
    cases hy : tkeyD kd with
    | none =>
      rw [hy] at q
      exact q.elim
    | some y =>
      rw [hy] at q
      obtain ⟨b, rfl, hb⟩ := rp_tkey dk hy
      obtain ⟨k3, hp, nF1, nO⟩ := un k2
      refine ⟨y, b, rfl, (e2.trans k2.fH).at_ _ _ hb (fun ps z => nomatch z), hp, ?_⟩
      exact q F2 _ _ (k3.aside n0 nF1 nO (tabs_upd k3.tb hp (fun ps z => nomatch z) (fun c q z => by unfold LamX.CodeO at z; cases z))) (e1.trans e2) ⟨p, rfl, nF1, n0, ⟨_, upd_same, .cons dv .nil⟩, nO⟩
/-! ### k in d, k not in d: an owned dict -/
theorem kv_isSome {K : PySem.W.Frag} {F : Hp} {κ : Type} [DecidableEq κ] {k : κ} {ks : List (κ × V)} {kvs : List (κ × D)} (h : KvAll K F ks kvs) : (valV ks k).isSome = (vK kvs k).isSome := by
  cases hv : vK kvs k with
  | none => rw [kv_none h hv]; rfl
  | some d =>
    obtain ⟨v, h1, _⟩ := kv_get h hv
    rw [h1]
    rfl
def eInS (i : Nat) (mk : M D) : M D := mk.bind fun kd r => match getC i r with
  | some (.t kvs) => (match tkeyD kd with
    | some y => .ok (.bool (vK kvs y).isSome) r
    | none => .no)
  | some (.d kvs) => (match keyD kd with
    | some y => .ok (.bool (vK kvs y).isSome) r
    | none => .no)
  | _ => .no
def eNinS (i : Nat) (mk : M D) : M D := mk.bind fun kd r => match getC i r with
  | some (.t kvs) => (match tkeyD kd with
    | some y => .ok (.bool (!(vK kvs y).isSome)) r
    | none => .no)
  | some (.d kvs) => (match keyD kd with
    | some y => .ok (.bool (!(vK kvs y).isSome)) r
    | none => .no)
  | _ => .no
theorem inS_ok {i : Nat} {mk : M D} {st : L2.St} {H : Hp} {Q : VK} (h : tM c (eInS i mk) st H Q) : tDIn (tM c mk) (tVar i) st H Q := by
  obtain ⟨pa, H0, F0, F, r, ok, po⟩ := h
  refine seqM ok po fun kd r1 F1 H1 v k1 e1 dk q => ?_
  split at q
  · rename_i kvs hg
    obtain ⟨s1, hs1, hso1⟩ := getC_some hg
    obtain ⟨a1, hst1, nF1, n01, ks, hH1, hr1⟩ := k1.ownd hs1 hso1
    split at q
    · rename_i y hy
      obtain ⟨b, rfl, hb⟩ := rp_tkey dk hy
      refine ⟨_, hst1, a1, _, rfl, DGet.t (k := y) hH1 (k1.fH.at_ _ _ hb fun ps z => nomatch z), ?_⟩
      rw [kv_isSome hr1]
      exact q F1 H1 _ k1 e1 (.bl _)
    · exact q.elim
  · rename_i kvs hg
    obtain ⟨s1, hs1, hso1⟩ := getC_some hg
    obtain ⟨a1, hst1, nF1, n01, ks, hH1, hr1⟩ := k1.ownd hs1 hso1
    split at q
    · rename_i y hy
      cases rp_key dk hy
      refine ⟨_, hst1, a1, _, rfl, DGet.k (k := y) hH1, ?_⟩
      rw [kv_isSome hr1]
      exact q F1 H1 _ k1 e1 (.bl _)
    · exact q.elim
  · exact q.elim
theorem ninS_ok {i : Nat} {mk : M D} {st : L2.St} {H : Hp} {Q : VK} (h : tM c (eNinS i mk) st H Q) : tDNotIn (tM c mk) (tVar i) st H Q := by
  obtain ⟨pa, H0, F0, F, r, ok, po⟩ := h
  refine seqM ok po fun kd r1 F1 H1 v k1 e1 dk q => ?_
  split at q
  · rename_i kvs hg
    obtain ⟨s1, hs1, hso1⟩ := getC_some hg
    obtain ⟨a1, hst1, nF1, n01, ks, hH1, hr1⟩ := k1.ownd hs1 hso1
    split at q
    · rename_i y hy
      obtain ⟨b, rfl, hb⟩ := rp_tkey dk hy
      refine ⟨_, hst1, a1, _, rfl, DGet.t (k := y) hH1 (k1.fH.at_ _ _ hb fun ps z => nomatch z), ?_⟩
      rw [kv_isSome hr1]
      exact q F1 H1 _ k1 e1 (.bl _)
    · exact q.elim
  · rename_i kvs hg
    obtain ⟨s1, hs1, hso1⟩ := getC_some hg
    obtain ⟨a1, hst1, nF1, n01, ks, hH1, hr1⟩ := k1.ownd hs1 hso1
    split at q
    · rename_i y hy
      cases rp_key dk hy
      refine ⟨_, hst1, a1, _, rfl, DGet.k (k := y) hH1, ?_⟩
      rw [kv_isSome hr1]
      exact q F1 H1 _ k1 e1 (.bl _)
    · exact q.elim
  · exact q.elim
theorem e_inS (i : Nat) {x : Str} {ek : Expr} {mk : M D} {px pos : Pos} (hk : PE X ek (tM c mk)) (hu : X.A.units + 1 < cLine) (hN : X.N[i]? = some x := by rfl) (hv : Vis X.env.scope x := by first | exact Or.inl rfl | exact Or.inr (Or.inl rfl) | exact Or.inr (Or.inr rfl)) (hd : (x == ("__debug__" : Str)) = false := by decide)
    (hcd : (x == ("__classdict__" : Str)) = false := by decide) : PE X (.Compare ek [.In] [.Name x px] pos) (tM c (eInS i mk)) :=
  pe_cq (pe_cmp (pc_din hu hk (pe_var (i := i) hN hv hd hcd)) (by rfl)) fun st H Q h => inS_ok h
theorem e_ninS (i : Nat) {x : Str} {ek : Expr} {mk : M D} {px pos : Pos} (hk : PE X ek (tM c mk)) (hu : X.A.units + 1 < cLine) (hN : X.N[i]? = some x := by rfl) (hv : Vis X.env.scope x := by first | exact Or.inl rfl | exact Or.inr (Or.inl rfl) | exact Or.inr (Or.inr rfl)) (hd : (x == ("__debug__" : Str)) = false := by decide)
    (hcd : (x == ("__classdict__" : Str)) = false := by decide) : PE X (.Compare ek [.NotIn] [.Name x px] pos) (tM c (eNinS i mk)) :=
  pe_cq (pe_cmp (pc_dnotin hu hk (pe_var (i := i) hN hv hd hcd)) (by rfl)) fun st H Q h => ninS_ok h
theorem tb_ok {m : M D} {st : L2.St} {H : Hp} {Q : Bool → Hp → Prop} (h : tT c (tBool m) st H Q) : tM c m st H fun v H' => ∃ b, v = .bl b ∧ Q b H' := by
  obtain ⟨pa, H0, F0, F, r, ok, po⟩ := h
  refine seqM ok po fun d r1 F1 H1 v k1 e1 dp q => ?_
  obtain ⟨b, hb, q⟩ := opt_po q
  cases dp with
  | bl b' =>
    cases hb
    exact ⟨_, rfl, q F1 H1 k1 e1⟩
  | _ => cases hb
theorem t_inS (i : Nat) {x : Str} {ek : Expr} {mk : M D} {px pos : Pos} (hk : PE X ek (tM c mk)) (hu : X.A.units + 1 < cLine) (hN : X.N[i]? = some x := by rfl) (hv : Vis X.env.scope x := by first | exact Or.inl rfl | exact Or.inr (Or.inl rfl) | exact Or.inr (Or.inr rfl)) (hd : (x == ("__debug__" : Str)) = false := by decide)
    (hcd : (x == ("__classdict__" : Str)) = false := by decide) : PT X (.Compare ek [.In] [.Name x px] pos) (tT c (tBool (eInS i mk))) :=
  pt_cq (pt_cmp (pc_din hu hk (pe_var (i := i) hN hv hd hcd)) (by rfl)) fun st H Q h => inS_ok (tb_ok h)
theorem t_ninS (i : Nat) {x : Str} {ek : Expr} {mk : M D} {px pos : Pos} (hk : PE X ek (tM c mk)) (hu : X.A.units + 1 < cLine) (hN : X.N[i]? = some x := by rfl) (hv : Vis X.env.scope x := by first | exact Or.inl rfl | exact Or.inr (Or.inl rfl) | exact Or.inr (Or.inr rfl)) (hd : (x == ("__debug__" : Str)) = false := by decide)
    (hcd : (x == ("__classdict__" : Str)) = false := by decide) : PT X (.Compare ek [.NotIn] [.Name x px] pos) (tT c (tBool (eNinS i mk))) :=
  pt_cq (pt_cmp (pc_dnotin hu hk (pe_var (i := i) hN hv hd hcd)) (by rfl)) fun st H Q h => ninS_ok (tb_ok h)
/-! ### sum of a list or a tuple of ints -/
section
variable {prog : Program} {w : World} {A : Around} {E : Value → Shared → Prop} {s : Shared} {l : Addr} {xs : Array (Int × Tok)}
theorem sum_intTupG {Q : Value → Shared → Prop} (hh : A.handled = none) (hl : s.heap.IsTuple l (intItems xs))
    (h : ∀ h' tk t', (∀ b o, s.heap.get? b = some o → h'.get? b = some o) → Q (.int (preSum (numAt xs) xs.size) t') { s with heap := h', toks := tk }) :
    wpAny (model prog w) A (call (.builtin "sum") [.ref l]) Q E s := by
  have hlt : l < s.heap.objs.size := by obtain ⟨_, e, _⟩ := hl; exact Heap.lt_size e
  refine call_sum_walkG (wpAny_pyIter_tuple hl ?_)
  refine ⟨_, _, _, _, _, _, numAt xs, rfl, Walks.tuple (A := A.in1) hh _ l (Nat.ne_of_lt hlt) (intItems xs), ⟨⟨_, Heap.get?_push_size _ rfl, rfl, rfl⟩, hl.push _⟩, fun b hb => ?_, (fun _ _ => intItems_at), fun h' tk t' hk => ?_⟩
  · show b < (s.heap.push _).objs.size
    rw [Heap.size_push]
    rcases List.mem_cons.mp hb with rfl | hb
    · exact Nat.lt_succ_self _
    · rcases List.mem_cons.mp hb with rfl | hb
      · exact Nat.lt_succ_of_lt hlt
      · cases hb
  · have := h h' tk t' fun b o e => hk b o (fun hm => absurd (Heap.lt_size e) ((List.mem_singleton.mp hm) ▸ Nat.lt_irrefl _)) (Heap.get?_push_of_some _ e)
    simpa [intItems] using this
theorem sum_rawT {its : List Value} {ns : List Int} {Q : Value → Shared → Prop} (hh : A.handled = none) (hl : s.heap.IsTuple l its.toArray) (hi : IntsAre its ns)
    (h : ∀ h' tk t', (∀ b o, s.heap.get? b = some o → h'.get? b = some o) → Q (.int ns.sum t') { s with heap := h', toks := tk }) : wpAny (model prog w) A (call (.builtin "sum") [.ref l]) Q E s := by
  obtain ⟨xs, e⟩ := hi.allInts.items
  have hn : numsOf (intItems xs).toList = ns := by rw [← e]; exact hi.numsOf
  rw [nums_intItems] at hn
  rw [e] at hl
  refine sum_intTupG hh hl fun h' tk t' hk => ?_
  have := h h' tk t' hk
  rw [preSum_eq, List.take_of_length_le (by simp), hn]
  exact this
end
def sumAD : D → Option D
  | .list ds => (intsOf ds).map fun ns => .int ns.sum
  | .tuple ds => (intsOf ds).map fun ns => .int ns.sum
  | _ => none
theorem sumA_data (hK : c.K = X.K := by rfl) (hc : X.calm = true := by rfl) : CallR X (.builtin "sum") (rDA c.K (one sumAD)) := by
  intro pins s σ H vs us Q I r h
  obtain ⟨F, ds, z, fh, dps, hz, q⟩ := h
  obtain ⟨d, rfl, hz2⟩ := one_some hz
  clear hz
  obtain ⟨v, rfl, dp⟩ := rpa_one dps
  unfold sumAD at hz2
  split at hz2
  · rename_i es
    cases ei : intsOf es with
    | none =>
      rw [ei] at hz2
      cases hz2
    | some ns =>
      rw [ei] at hz2
      cases hz2
      rw [intsOf_some ei] at dp
      cases dp with
      | @lst a ws _ g1 g2 =>
        have e := rpa_ints g2
        subst e
        rw [Vals.ref1 r]
        obtain ⟨its, rv, hl, hlz⟩ := I.list (by rw [← hK]; exact fh.l g1)
        exact sum_raw (I.ok.hd hc) hl.isList rv.ints fun h' tk t' hk => ⟨.int _, H, I.kept hk, ⟨_, rfl⟩, q _ F H (.inl ⟨rfl, rfl⟩) (.int _)⟩
  · rename_i es
    cases ei : intsOf es with
    | none =>
      rw [ei] at hz2
      cases hz2
    | some ns =>
      rw [ei] at hz2
      cases hz2
      rw [intsOf_some ei] at dp
      cases dp with
      | @tup a ws _ g1 g2 =>
        have e := rpa_ints g2
        subst e
        rw [Vals.ref1 r]
        obtain ⟨its, rv, hl, hlz⟩ := I.tuple (by rw [← hK]; exact fh.t g1.s)
        exact sum_rawT (I.ok.hd hc) hl rv.ints fun h' tk t' hk => ⟨.int _, H, I.kept hk, ⟨_, rfl⟩, q _ F H (.inl ⟨rfl, rfl⟩) (.int _)⟩
  · cases hz2
/-! ### min, max of a list of ints -/
theorem minOf_eqm (x : Int) (xs : List Int) : PySem.W.minOf x xs = xs.foldl (fun a y => min a y) x := by
  unfold PySem.W.minOf
  induction xs generalizing x with
  | nil => rfl
  | cons y ys ih =>
    rw [List.foldl_cons, List.foldl_cons]
    have e : (if PySem.W.DatumOrd.lt y x = true then y else x) = min x y := by
      by_cases h : y < x
      · rw [if_pos (show PySem.W.DatumOrd.lt y x = true from decide_eq_true h)]
        omega
      · rw [if_neg (show ¬ PySem.W.DatumOrd.lt y x = true from fun z => h (of_decide_eq_true z))]
        omega
    rw [e]
    exact ih (min x y)
def minL : D → Option D
  | .list ds => (intsOf ds).bind fun ns => (match ns with
    | [] => none
    | x :: xs => some (.int (xs.foldl (fun a y => min a y) x)))
  | _ => none
theorem minL_data (hu : X.A.units + 65 < cLine) (hK : c.K = X.K := by rfl) (hc : X.calm = true := by rfl) : CallR X (.builtin "min") (rDA c.K (one minL)) := by
  intro pins s σ H vs us Q I r h
  obtain ⟨F, ds, z, fh, dps, hz, q⟩ := h
  obtain ⟨d, rfl, hz2⟩ := one_some hz
  clear hz
  obtain ⟨v, rfl, dp⟩ := rpa_one dps
  unfold minL at hz2
  split at hz2
  · rename_i es
    cases ei : intsOf es with
    | none =>
      rw [ei] at hz2
      cases hz2
    | some ns =>
      rw [ei] at hz2
      cases ns with
      | nil => cases hz2
      | cons x xs =>
        cases hz2
        rw [intsOf_some ei] at dp
        cases dp with
        | @lst a ws _ g1 g2 =>
          have e := rpa_ints g2
          subst e
          rw [Vals.ref1 r]
          obtain ⟨its, rv, hl, hlz⟩ := I.list (by rw [← hK]; exact fh.l g1)
          have da : DpAll X.K H ((x :: xs).map V.int) ((x :: xs).map PyData.int) := rpa_dpa0 (dpa_ints (x :: xs)) (PyData.hasDict_of_canLay (.list ((x :: xs).map .int)) (lay0 (x :: xs)))
          obtain ⟨as, rs⟩ := Dp.readsAll I _ _ its da rv
          have HA : PySem.W.HoldAll s.heap its.toArray.toList (x :: xs) := ⟨as, rs⟩
          have dpt : PySem.W.Datum.depth Int ≤ 60 := by decide
          refine PySem.W.min_list_datum (I.ok.hd hc) hl.isList HA (by omega) fun i v h' tk hi hv kp => ?_
          obtain ⟨bs, hr⟩ := hv
          rw [minOf_eqm] at hr
          have hr : Reads h' v (.int (xs.foldl (fun a y => min a y) x)) bs := hr
          cases hr with
          | int k t => exact ⟨.int _, H, I.kept (t' := tk) kp, ⟨t, rfl⟩, q _ F H (.inl ⟨rfl, rfl⟩) (.int _)⟩
  · cases hz2
theorem maxOf_eqm (x : Int) (xs : List Int) : PySem.W.maxOf x xs = xs.foldl (fun a y => max a y) x := by
  unfold PySem.W.maxOf
  induction xs generalizing x with
  | nil => rfl
  | cons y ys ih =>
    rw [List.foldl_cons, List.foldl_cons]
    have e : (if PySem.W.DatumOrd.lt x y = true then y else x) = max x y := by
      by_cases h : x < y
      · rw [if_pos (show PySem.W.DatumOrd.lt x y = true from decide_eq_true h)]
        omega
      · rw [if_neg (show ¬ PySem.W.DatumOrd.lt x y = true from fun z => h (of_decide_eq_true z))]
        omega
    rw [e]
    exact ih (max x y)
def maxL : D → Option D
  | .list ds => (intsOf ds).bind fun ns => (match ns with
    | [] => none
    | x :: xs => some (.int (xs.foldl (fun a y => max a y) x)))
  | _ => none
theorem maxL_data (hu : X.A.units + 65 < cLine) (hK : c.K = X.K := by rfl) (hc : X.calm = true := by rfl) : CallR X (.builtin "max") (rDA c.K (one maxL)) := by
  intro pins s σ H vs us Q I r h
  obtain ⟨F, ds, z, fh, dps, hz, q⟩ := h
  obtain ⟨d, rfl, hz2⟩ := one_some hz
  clear hz
  obtain ⟨v, rfl, dp⟩ := rpa_one dps
  unfold maxL at hz2
  split at hz2
  · rename_i es
    cases ei : intsOf es with
    | none =>
      rw [ei] at hz2
      cases hz2
    | some ns =>
      rw [ei] at hz2
      cases ns with
      | nil => cases hz2
      | cons x xs =>
        cases hz2
        rw [intsOf_some ei] at dp
        cases dp with
        | @lst a ws _ g1 g2 =>
          have e := rpa_ints g2
          subst e
          rw [Vals.ref1 r]
          obtain ⟨its, rv, hl, hlz⟩ := I.list (by rw [← hK]; exact fh.l g1)
          have da : DpAll X.K H ((x :: xs).map V.int) ((x :: xs).map PyData.int) := rpa_dpa0 (dpa_ints (x :: xs)) (PyData.hasDict_of_canLay (.list ((x :: xs).map .int)) (lay0 (x :: xs)))
          obtain ⟨as, rs⟩ := Dp.readsAll I _ _ its da rv
          have HA : PySem.W.HoldAll s.heap its.toArray.toList (x :: xs) := ⟨as, rs⟩
          have dpt : PySem.W.Datum.depth Int ≤ 60 := by decide
          refine PySem.W.max_list_datum (I.ok.hd hc) hl.isList HA (by omega) fun i v h' tk hi hv kp => ?_
          obtain ⟨bs, hr⟩ := hv
          rw [maxOf_eqm] at hr
          have hr : Reads h' v (.int (xs.foldl (fun a y => max a y) x)) bs := hr
          cases hr with
          | int k t => exact ⟨.int _, H, I.kept (t' := tk) kp, ⟨t, rfl⟩, q _ F H (.inl ⟨rfl, rfl⟩) (.int _)⟩
  · cases hz2
end
end Pu

namespace Pu
open PySem PySem.Spec PyProof.Rows L2
variable [TabT]
/-! ### repr of tuples that hold {} -/
mutual
def tpl : D → Bool
  | .none | .bool _ | .int _ => true
  | .str _ => true
  | .tuple xs => tplAll xs
  | .dict [] => true
  | _ => false
def tplAll : List D → Bool
  | [] => true
  | x :: xs => tpl x && tplAll xs
end
section
variable {X : Cx} {c : Cc} {pins : List (Addr × Obj)} {σ : L2.St} {H : Hp} {s : Shared}
theorem emp_reads (I : Inv X pins σ H s) {a : Addr} (ha : H a = some (.dK [])) : Reads s.heap (.ref a) (.dict []) [a] ∧ sysModules ≠ a := by
  obtain ⟨_, hs, vs, hkv, o, es, ep, ho, hex, hd, _, hpr, _⟩ := (show ObjOk X.prog X.w H s.heap a (.dK []) from I.hok a _ ha)
  cases hkv
  have he : es.toList = [] := by
    have := hpr.length
    simpa using this
  refine ⟨Reads.dict (kvs := []) ho hex.1 hd (by rw [he]; exact ReadsAll.nil) (by rw [he]; exact ReadsAll.nil), fun e => ?_⟩
  rw [← e] at hs
  simp at hs
mutual
theorem tpl_reads (I : Inv X pins σ H s) : ∀ (d : D) (v : V) (u : Value), tpl d = true → Rp X.K H v d → RelV v u → ∃ as, Reads s.heap u d as ∧ sysModules ∉ as
  | .none, _, _, _, h, r => by
    cases h
    cases r
    exact ⟨_, Reads.none, by simp⟩
  | .bool b, _, _, _, h, r => by
    cases h
    cases r
    exact ⟨_, Reads.bool b, by simp⟩
  | .int i, _, _, _, h, r => by
    cases h
    obtain ⟨t, rfl⟩ := r
    exact ⟨_, Reads.int i t, by simp⟩
  | .str x, _, _, _, h, r => by
    cases h
    obtain ⟨t, rfl⟩ := r
    exact ⟨_, Reads.str x t, by simp⟩
  | .tuple ds, _, _, e, h, r => by
    cases h with
    | tup hs ha =>
      cases r
      obtain ⟨its, rv, ⟨o, ho, hc, n, hd⟩, _⟩ := I.tuple hs.s
      obtain ⟨as, hr, hn⟩ := tpl_readsAll I ds _ its e ha rv
      exact ⟨_, Reads.tuple ho hc hd hr, hn⟩
  | .dict [], _, _, _, h, r => by
    cases h with
    | emp g =>
      cases r
      obtain ⟨q, n⟩ := emp_reads I g
      exact ⟨_, q, by simpa using n⟩
  | .dict (_ :: _), _, _, e, _, _ => by simp [tpl] at e
  | .list _, _, _, e, _, _ => by simp [tpl] at e
theorem tpl_readsAll (I : Inv X pins σ H s) : ∀ (ds : List D) (vs : List V) (us : List Value), tplAll ds = true → RpAll X.K H vs ds → Vals vs us → ∃ as, ReadsAll s.heap us ds as ∧ sysModules ∉ as
  | [], _, _, _, h, r => by
    cases h
    cases r
    exact ⟨_, ReadsAll.nil, by simp⟩
  | d :: ds, _, _, e, h, r => by
    have e2 : (tpl d && tplAll ds) = true := e
    rw [Bool.and_eq_true] at e2
    cases h with
    | cons h1 h2 =>
      cases r with
      | cons r1 r2 =>
        obtain ⟨as, q1, n1⟩ := tpl_reads I d _ _ e2.1 h1 r1
        obtain ⟨bs, q2, n2⟩ := tpl_readsAll I ds _ _ e2.2 h2 r2
        exact ⟨_, ReadsAll.cons q1 q2, by rw [List.mem_append]; exact fun z => z.elim n1 n2⟩
end
noncomputable def reprX : D → Option D
  | .tuple ds => cI (tplAll ds = true) (cI ((PyData.tuple ds).showable = true ∧ (PyData.tuple ds).depth ≤ 64 ∧ (PyData.tuple ds).shown.length ≤ 16777216) (some (.str (PyData.tuple ds).shown)) none) (reprD (.tuple ds))
  | d => reprD d
theorem call_reprT (hg : X.A.guards = some []) (hu : X.A.units + 150 < cLine) : CallR X (.builtin "repr") (fun xs H Q => ∃ a d, xs = [.ref a] ∧ Rp X.K H (.ref a) d ∧ tpl d = true ∧ d.showable = true ∧ d.depth ≤ 64 ∧ d.shown.length ≤ sizeLine ∧ Q (.str d.shown) H) := by
  intro pins s st H xs us Q I rv h
  obtain ⟨a, d, rfl, hd, h0, h1, h2, h3, q⟩ := h
  obtain ⟨u, rfl, ru⟩ := vals1 rv
  obtain ⟨as, rd, hn⟩ := tpl_reads I d _ _ h0 hd ru
  cases ru
  exact PySem.repr_of_reads' rd h1 (fun _ => hn) hg (by omega) (fun _ _ e => e) (fun h' t tk k => ⟨.str _, H, I.kept k, ⟨_, rfl⟩, q⟩) h3
end
section
variable {X : Cx} {c : Cc}
theorem reprX_data {k : Nat} (hr : Rm k X.A) (hK : c.K = X.K := by rfl) : CallR X (.builtin "repr") (rDA c.K (one reprX)) := callr_cq (callr_or (repr_data (c := c) hr hK) (call_reprT hr.gd hr.u150)) fun xs H Q ⟨F, ds, z, fh, dx, hz, q⟩ => by
  obtain ⟨d, rfl, hz⟩ := one_some hz
  cases d with
  | tuple es =>
    have hz : (if tplAll es = true then (if ((PyData.tuple es).showable = true ∧ (PyData.tuple es).depth ≤ 64 ∧ (PyData.tuple es).shown.length ≤ 16777216) then some (.str (PyData.tuple es).shown) else none) else reprD (.tuple es)) = some z := by
      rw [← cI_eq, ← cI_eq]
      exact hz
    split at hz
    · rename_i ht
      split at hz
      · rename_i hc
        cases hz
        cases dx with
        | cons h0 h1 =>
          cases h1
          have h9 := dp_mono fh h0
          cases h0 with
          | @tup a vs ds g1 g2 =>
            exact .inr ⟨a, .tuple es, rfl, by rw [← hK]; exact h9, (show tpl (.tuple es) = true from ht), hc.1, hc.2.1, by rw [sizeLine_eq]; exact hc.2.2, q _ F H (.inl ⟨rfl, rfl⟩) (.str _)⟩
      · cases hz
    · exact .inl ⟨F, [.tuple es], z, fh, dx, hz, q⟩
  | _ => exact .inl ⟨F, _, z, fh, dx, hz, q⟩
end
end Pu

namespace Pu
open PySem PySem.Spec PyProof.Rows L2
variable [TabT]
theorem sp_start {K : PySem.W.Frag} {mg : Str → Option Value} {f : List Sl → Re RV} {ns : List Int} {H : Hp} {a : Addr} (hl : ∃ r, f [.v (.list (ns.map .int))] = .ok (.v (.bool true)) r) (hS : SqL K H a (ns.map V.int)) (tb : LamX.Tabs (TabT.T K) H) : spG K mg 1 f [.ref a] H (fun v _ => v = .bl true) fun _ _ _ => False := by
  obtain ⟨r, hr⟩ := hl
  refine ⟨rfl, fun _ => 0, H, H, _, argsV (vs := [.ref a]) (ds := [.list (ns.map .int)]) (.cons (.lst hS (dpa_ints ns)) .nil) (Ex.refl H) tb, argsOkV _, ?_⟩
  rw [show [PyData.list (ns.map PyData.int)].map Sl.v = [Sl.v (.list (ns.map .int))] from rfl, hr]
  intro F' H' v ok rv
  cases rv
  rfl
theorem no_cx {P : Program} {w : World} {H : Hp} {s s' : Shared} {e : Value} (h : L2.CX P w [] H s (fun _ _ _ => False) e s') : False := by
  obtain ⟨_, _, _, _, _, _, _, _, _, _, _, _, z⟩ := h
  exact z
/-- the law called from outside, with the tables of code objects -/
theorem lawG {P : Program} {w : World} {K : PySem.W.Frag} {mg mb : Str → Option Value} {k : Nat} {fa a : Addr} {cs : List (Addr × Addr)} {fd : FuncData} {x : Str} {sp : Sp} {s₁ : Shared} {vs : List Value} {ns : List Int}
    (KX : K.In s₁.heap) (hns : s₁.heap.Ns mainGlobals mg) (hb : s₁.heap.Ns builtinsNs mb) (hbb : ∀ x : Str, x ≠ "__name__" → mb x = bootBuiltins x) (hlim : s₁.heap.NoLimit) (hg : s₁.gens = #[])
    (hT : ∀ p ∈ cs, s₁.heap.get? p.2 = some { cls := .none, data := .fields #[] }) (nT : ∀ p ∈ cs, K.lookup p.2 = none) (C : ∀ p ∈ cs, PySem.W.CodeHd s₁.heap p.1 p.2)
    (hbm : ∃ (bm : Addr) (ob : Obj), mg "__builtins__" = some (.ref bm) ∧ bm ≠ builtinsNs ∧ s₁.heap.get? bm = some ob ∧ ob.cls = .type "module" ∧ ob.dict = some builtinsNs ∧ ob.data = .plain)
    (ha : s₁.heap.get? a = some { cls := .type "list", data := .seq vs.toArray }) (hi : IntsAre vs ns) (hl : ns.length ≤ sizeLine) (hr : RmC k callerA) (hsr : s₁.heap.NoSeer)
    (F : ∀ base : Heap, K.In base → base.Ns mainGlobals mg → base.NoSeer → (∀ p ∈ cs, LamX.TabB base mg p.1 p.2) → FnG P w K mg base k fa fd [x] sp) (hbind : ∀ (s : Shared) (u : Value), BindsTo s fd ⟨[u], []⟩ [(x, u)])
    (hsp : ∀ H : Hp, (∀ p ∈ cs, H p.2 = some (.tbl #[])) → SqL K H a (ns.map V.int) → sp [.ref a] H (fun v _ => v = .bl true) fun _ _ _ => False) :
    codeAny (model P w) callerA (.call (.ref fa) ⟨[.ref a], []⟩) (fun r s' => r = .ok (.ret (.bool true)) ∧ OldK s₁.heap s'.heap ∧ s'.os = s₁.os ∧ AllBare s'.gens) s₁ := by
  have rv := vals_ints hi
  have lenV := hi.length
  have isT : ∀ b : Addr, b ∈ cs.map (·.2) → s₁.heap.get? b = some { cls := .none, data := .fields #[] } := fun b hb => by
    obtain ⟨p, hp, e⟩ := List.mem_map.mp hb
    rw [← e]
    exact hT p hp
  have aT : a ∉ cs.map (·.2) := fun z => by
    have q := isT a z
    rw [ha] at q
    have z' : Data.seq vs.toArray _ = Data.fields #[] := congrArg Obj.data (Option.some.inj q)
    cases z'
  have memT : ∀ p ∈ cs, p.2 ∈ cs.map (·.2) := fun p hp => List.mem_map.mpr ⟨p, hp, rfl⟩
  -- from an abstract heap in which nothing but the script and the tables may be tracked
  have core : ∀ H : Hp, (∀ p ∈ cs, H p.2 = some (.tbl #[])) → (∀ b, H b = none ∨ b ∈ cs.map (·.2) ∨ ∃ o xs, H b = some (.frz o (.lst xs))) → SqL K H a (ns.map V.int) → HOk P w H s₁.heap → (∀ b, H b ≠ none → b = a ∨ b ∈ cs.map (·.2)) → (H a ≠ none → K.lookup a = none) →
      codeAny (model P w) callerA (.call (.ref fa) ⟨[.ref a], []⟩) (fun r s' => r = .ok (.ret (.bool true)) ∧ OldK s₁.heap s'.heap ∧ s'.os = s₁.os ∧ AllBare s'.gens) s₁ := by
    intro H hH hO hS hok hA hK
    have base_of : ∀ {b : Addr} {o : Obj}, s₁.heap.get? b = some o → H b = none → (hidT s₁.heap H).get? b = some o := fun e n => hidT_get e n
    have noD : ∀ {b : Addr} {o : Obj}, s₁.heap.get? b = some o → (∀ vs n, o.data ≠ .seq vs n) → o.data ≠ .fields #[] → H b = none := fun {b o} e h1 h2 => by
      cases q : H b with
      | none => rfl
      | some u =>
        rcases hA b (by rw [q]; simp) with e' | e'
        · rw [e', ha] at e
          cases e
          exact (h1 _ _ rfl).elim
        · rw [isT b e'] at e
          cases e
          exact (h2 rfl).elim
    have noA : ∀ {b : Addr} {o : Obj} {es : Array DictEntry} {ep : Nat}, s₁.heap.get? b = some o → o.data = .dict es ep → H b = none := fun {b o es ep} e d => by
      refine noD e (fun vs n z => ?_) fun z => ?_
      · rw [d] at z
        cases z
      · rw [d] at z
        cases z
    have nsK : ∀ {b : Addr} {m : Str → Option Value}, s₁.heap.Ns b m → (hidT s₁.heap H).Ns b m := fun {b m} ⟨o, es, ep, e, d, r⟩ => ⟨o, es, ep, base_of e (noA e d), d, r⟩
    have hKb : K.In (hidT s₁.heap H) := fun b o e => base_of (KX b o e) (by
      cases q : H b with
      | none => rfl
      | some u =>
        rcases hA b (by rw [q]; simp) with e' | e'
        · rw [e'] at e q
          rw [hK (by rw [q]; simp)] at e
          cases e
        · obtain ⟨p, hp, ep⟩ := List.mem_map.mp e'
          rw [← ep, nT p hp] at e
          cases e)
    have hM : L2.Mod K mg (hidT s₁.heap H) := ⟨hKb, nsK hns, ⟨mb, nsK hb, hbb⟩, let ⟨mc, h1, h2⟩ := hlim; ⟨mc, nsK h1, h2⟩⟩
    have hSR : (hidT s₁.heap H).NoSeer := ⟨(let ⟨mc, a, b⟩ := hsr.statics; ⟨mc, nsK a, b⟩), (let ⟨mc, a, b⟩ := hsr.mods; ⟨mc, nsK a, b⟩), (let ⟨mb, a, b⟩ := hsr.imp; ⟨mb, nsK a, b⟩), by
      obtain ⟨bm, ob, b1, b2, b3, b4, b5, b6⟩ := hbm
      refine ⟨mg, bm, ob, nsK hns, b1, base_of b3 (noD b3 (fun vs n z => ?_) fun z => ?_), b4, b5⟩
      · rw [b6] at z
        cases z
      · rw [b6] at z
        cases z⟩
    have TB : ∀ p ∈ cs, LamX.TabB (hidT s₁.heap H) mg p.1 p.2 := fun p hp => by
      have hTp := hT p hp
      refine ⟨?_, ?_, fun z => ?_⟩
      · obtain ⟨o, us, file, tf, flags, tg, inF, text, tt, e1, r1, r2, r3, r4, r5, r6, r7, r8, hne⟩ := C p hp
        refine ⟨o, us, file, tf, flags, tg, inF, text, tt, base_of e1 (noD e1 (fun vs n z => ?_) fun z => ?_), r1, r2, r3, r4, r5, r6, r7, r8, hne⟩
        · rw [r2] at z
          cases z
        · rw [r2] at z
          cases z
          simp at r3
      · obtain ⟨bm, ob, b1, b2, b3, b4, b5, b6⟩ := hbm
        have nG : bm ≠ mainGlobals := fun q => by
          obtain ⟨o, es, ep, e, hd, _⟩ := hns
          rw [q, e] at b3
          cases b3
          rw [hd] at b6
          cases b6
        have nP : bm ≠ p.2 := fun q => by
          rw [q, hTp] at b3
          cases b3
          cases b6
        refine ⟨bm, ob, b1, b2, nG, nP, base_of b3 (noD b3 (fun vs n z => ?_) fun z => ?_), b4, b5, b6⟩
        · rw [b6] at z
          cases z
        · rw [b6] at z
          cases z
      · obtain ⟨o, es, ep, e, hd, _⟩ := hns
        rw [z, hTp] at e
        cases e
        cases hd
    have e0 : Env0 P w K mg (hidT s₁.heap H) callerA [] s₁ H := ⟨rfl, hM, fun b o e => of_hidT e, Nat.le_of_eq (hidT_size _ _), trivial, fun b hb => absurd (show b ∈ ([] : List Addr) from hb) (by simp), hok, .of_eq hg⟩
    refine codeAny_mono ((F _ hKb (nsK hns) hSR TB).run callerA [] s₁ H ⟨[.ref a], []⟩ [.ref a] [.ref a] _ _ hr e0 (hbind s₁ (.ref a)) (.cons rfl .nil) (hsp H hH hS)) fun r s' h => ?_
    cases r with
    | error e => exact (no_cx h).elim
    | ok fl =>
      cases fl with
      | next => exact False.elim h
      | brk => exact False.elim h
      | cont => exact False.elim h
      | ret u =>
        obtain ⟨v, H', os, bare, un, hok', r', q⟩ := h
        have q' : v = .bl true := q
        subst q'
        obtain rfl : u = Value.bool true := r'
        have key : ∀ b o, b ∉ cs.map (·.2) → s₁.heap.get? b = some o → s'.heap.get? b = some o := fun b o nb e => by
          cases q : H b with
          | none => exact un.keep b o e q (by intro z; exact absurd (show b ∈ ([] : List Addr) from z) (by simp)) (by simp)
          | some u =>
            rcases hO b with z | z | ⟨ob, xs, z⟩
            · rw [q] at z; cases z
            · exact absurd z nb
            · have z2 := un.frzs b ob _ z
              obtain ⟨e1, _⟩ := hok b _ z
              obtain ⟨e2, _⟩ := hok' b _ z2
              rw [e] at e1; cases e1
              exact e2
        have grown : ∀ p ∈ cs, ∃ more : Array Value, s'.heap.get? p.2 = some { cls := .none, data := .fields more } := fun p hp => by
          obtain ⟨more, z⟩ := un.tbls p.2 #[] (hH p hp)
          exact ⟨_, hok' p.2 _ z⟩
        refine ⟨rfl, ⟨fun b o e => ?_, fun b o e => ?_⟩, os, bare⟩
        · by_cases hb : b ∈ cs.map (·.2)
          · obtain ⟨p, hp, ep⟩ := List.mem_map.mp hb
            obtain ⟨more, hm⟩ := grown p hp
            rw [← ep] at e ⊢
            rw [hT p hp] at e
            cases e
            exact .inr (.inl ⟨((C p hp).tab (hT p hp)).isCodeTable, rfl, #[], more, rfl, by rw [Array.empty_append]; exact hm⟩)
          · exact .inl (key b o hb e)
        · by_cases hb : b ∈ cs.map (·.2)
          · obtain ⟨p, hp, ep⟩ := List.mem_map.mp hb
            obtain ⟨more, hm⟩ := grown p hp
            rw [← ep]
            exact ⟨_, hm⟩
          · exact ⟨o, key b o hb e⟩
  cases hk : K.lookup a with
  | some o =>
    have e := KX a o hk
    rw [ha] at e
    cases e
    refine core (fun b => if b ∈ cs.map (·.2) then some (.tbl #[]) else none) (fun p hp => if_pos (memT p hp)) (fun b => ?_) (.inr ⟨_, vs.toArray, _, hk, rfl, rfl, rfl, by rw [List.size_toArray, lenV]; exact hl, by simpa using rv⟩) (fun b u z => ?_) (fun b z => ?_) fun z => absurd (show (if a ∈ cs.map (·.2) then some (HO.tbl #[]) else none) = none from if_neg aT) z
    · by_cases hb : b ∈ cs.map (·.2)
      · exact .inr (.inl hb)
      · exact .inl (if_neg hb)
    · by_cases hb : b ∈ cs.map (·.2)
      · have z' := (if_pos hb).symm.trans z
        cases z'
        exact isT b hb
      · have z' := (if_neg hb).symm.trans z
        cases z'
    · by_cases hb : b ∈ cs.map (·.2)
      · exact .inr hb
      · exact absurd (if_neg hb) z
  | none =>
    refine core (fun b => if b = a then some (.frz { cls := .type "list", data := .seq vs.toArray } (.lst (ns.map V.int))) else if b ∈ cs.map (·.2) then some (.tbl #[]) else none) (fun p hp => (if_neg (show ¬ p.2 = a from fun z => aT (by rw [← z]; exact memT p hp))).trans (if_pos (memT p hp))) (fun b => ?_)
      (.inl (.inr ⟨{ cls := .type "list", data := .seq vs.toArray }, if_pos rfl⟩)) (fun b u z => ?_) (fun b z => ?_) fun _ => hk
    · by_cases hb : b = a
      · exact .inr (.inr ⟨_, _, if_pos hb⟩)
      · by_cases hb2 : b ∈ cs.map (·.2)
        · exact .inr (.inl hb2)
        · exact .inl ((if_neg hb).trans (if_neg hb2))
    · by_cases hb : b = a
      · have z' := (if_pos hb).symm.trans z
        cases z'
        rw [hb]
        exact ⟨ha, by rw [List.length_map]; exact hl, vs, _, rv, ha⟩
      · have z1 := (if_neg hb).symm.trans z
        by_cases hb2 : b ∈ cs.map (·.2)
        · have z' := (if_pos hb2).symm.trans z1
          cases z'
          exact isT b hb2
        · have z' := (if_neg hb2).symm.trans z1
          cases z'
    · by_cases hb : b = a
      · exact .inl hb
      · by_cases hb2 : b ∈ cs.map (·.2)
        · exact .inr hb2
        · exact absurd ((if_neg hb).trans (if_neg hb2)) z
theorem walk_ofP {l : PySem.W.OpenLaw} {n k : Nat} {q : Program} {loose : List Str} {XP : (Str → Option Value) → Heap → Prop} {YP : World → Heap → Prop} {d : DefRec} {x : Str} (hn : l.most = some n) (hn2 : n ≤ sizeLine) (hdf : d.params.defaults = []) (hr : RmC k callerA) (hi : PyProof.Rows.importsNone q = true)
    (F : ∀ (w : World) (mg : Str → Option Value) (fa : Addr) (h : Heap), YP w h → h.Ns mainGlobals mg → mg d.name = some (.ref fa) → ∃ (K : PySem.W.Frag) (fd : FuncData) (cs : List (Addr × Addr)) (sp : Sp), K.In h ∧ (∀ p ∈ cs, h.get? p.2 = some { cls := .none, data := .fields #[] }) ∧ (∀ p ∈ cs, K.lookup p.2 = none) ∧ (∀ p ∈ cs, PySem.W.CodeHd h p.1 p.2) ∧ (∀ (s : Shared) (u : Value), BindsTo s fd ⟨[u], []⟩ [(x, u)]) ∧
      (∀ (H : Hp) (a : Addr) (ns : List Int), ns.length ≤ n → (∀ z ∈ ns, Builtin.Int.intBits z ≤ 1048576) → (∀ p ∈ cs, H p.2 = some (.tbl #[])) → SqL K H a (ns.map V.int) → sp [.ref a] H (fun v _ => v = .bl true) fun _ _ _ => False) ∧ ∀ base : Heap, K.In base → base.Ns mainGlobals mg → base.NoSeer → (∀ p ∈ cs, LamX.TabB base mg p.1 p.2) → FnG l.prog w K mg base k fa fd [x] sp) :
    PySem.W.WalkO q loose XP YP l.row.toRowW d [] (fun f vs => PySem.call f vs) :=
  Att.attach_callB hn hdf fun w t0 t1 mg mb fa o pm cd doc a us ns G Y ho hd hcd hmg hobj hints hlen hbits hg => by
    obtain ⟨K, fd, cs, sp, KX, hT, nT, C, hb, hsp, hF⟩ := F w mg fa _ Y G.T.g hmg
    exact lawG KX G.T.g G.T.b G.T.builtins G.T.nolimit hg hT nT C G.T.bmain hobj hints (Nat.le_trans hlen hn2) hr (G.T.seer hi) hF hb fun H hH hS => hsp H a ns hlen hbits hH hS
end Pu

namespace Pu
open PySem L2
variable [TabT]
theorem ite_some {α : Type} (p : Prop) [Decidable p] (a b : α) : ((if p then some a else none) = some b) = (p ∧ a = b) := by
  by_cases h : p
  · rw [if_pos h]
    simp [h]
  · rw [if_neg h]
    simp [h]
/-! ### what a mirror does, from the left -/
variable {α β : Type} {X : Exn → En → Prop} {k : α → En → Prop}
@[simp] theorem qo_ok (a : α) (r : En) : Po X (.ok a r) k = k a r := rfl
@[simp] theorem qo_ex (e : Exn) (r : En) : Po X (.ex e r) k = X e r := rfl
@[simp] theorem qo_no : Po X (.no : Re α) k = False := rfl
@[simp] theorem qo_bind (x : Re β) (f : β → M α) : Po X (x.bind f) k = Po X x fun a r => Po X (f a r) k := by cases x <;> rfl
theorem qo_opt (o : Option α) (r : En) : Po X (M.opt o r) k = ∃ a, o = some a ∧ k a r := by
  cases o with
  | none => simp [M.opt]
  | some a => simp [M.opt]
theorem qo_mono {x : Re α} {k' : α → En → Prop} (h : Po X x k') (i : ∀ a r, k' a r → k a r) : Po X x k := h.mono (fun _ _ z => z) i
theorem qo_true {f : Re RV} (h : Po (fun _ _ => False) f fun rv _ => rv = .v (.bool true)) : ∃ r, f = .ok (.v (.bool true)) r := by
  cases f with
  | ok a r => exact ⟨r, by rw [show a = .v (.bool true) from h]⟩
  | ex e r => exact h.elim
  | no => exact h.elim
@[simp] theorem getS_ap (i : Nat) (r : En) : getS i r = (match r[i]? with
  | some (.v d) => .ok d r
  | _ => .no) := rfl
@[simp] theorem bin_ap (g : D → D → Option D) (a b : M D) (r : En) : bin g a b r = (a r).bind fun x r => (b r).bind fun y r => M.opt (g x y) r := rfl
@[simp] theorem una_ap (g : D → Option D) (a : M D) (r : En) : una g a r = (a r).bind fun x r => M.opt (g x) r := rfl
@[simp] theorem nry_ap (g : List D → Option D) (a : M (List D)) (r : En) : nry g a r = (a r).bind fun x r => M.opt (g x) r := rfl
@[simp] theorem unaO_ap (g : D → Option (List D)) (a : M D) (r : En) : unaO g a r = (a r).bind fun x r => M.opt ((g x).map fun z => .o (.l z)) r := rfl
@[simp] theorem nryO_ap (g : List D → Option (List D)) (a : M (List D)) (r : En) : nryO g a r = (a r).bind fun x r => M.opt ((g x).map fun z => .o (.l z)) r := rfl
@[simp] theorem aNil_ap (r : En) : aNil r = .ok [] r := rfl
@[simp] theorem aCons_ap (a : M D) (b : M (List D)) (r : En) : aCons a b r = (a r).bind fun x r => (b r).bind fun y r => .ok (x :: y) r := rfl
@[simp] theorem frzM_ap (m : M RV) (r : En) : frzM m r = (m r).bind fun rv r => M.opt rv.data r := rfl
@[simp] theorem data_v (d : D) : RV.data (.v d) = some d := rfl
@[simp] theorem data_l (ds : List D) : RV.data (.o (.l ds)) = some (.list ds) := rfl
@[simp] theorem eTup_ap (m : M (List D)) (r : En) : eTup m r = (m r).bind fun ds r => M.opt (szC ds.length (.tuple ds)) r := rfl
@[simp] theorem oLst_ap (m : M (List D)) (r : En) : oLst m r = (m r).bind fun ds r => M.opt (szC ds.length (.o (.l ds))) r := rfl
theorem szC_iff (n : Nat) (a b : α) : (szC n a = some b) = (n ≤ 16777216 ∧ a = b) := by
  unfold szC
  exact ite_some _ _ _
@[simp] theorem tBool_ap (m : M D) (r : En) : tBool m r = (m r).bind fun d r => M.opt (match d with
  | .bool b => some b
  | _ => none) r := rfl
@[simp] theorem tTru_ap (m : M D) (r : En) : tTru m r = (m r).bind fun d r => M.opt (tru d) r := rfl
@[simp] theorem tNotM_ap (m : M Bool) (r : En) : tNotM m r = (m r).bind fun b r => .ok (!b) r := rfl
@[simp] theorem tAndM_ap (m n : M Bool) (r : En) : tAndM m n r = (m r).bind fun b r => if b = true then n r else .ok false r := by
  show (m r).bind (fun b => if b = true then n else M.ret false) = _
  congr 1
  funext b r
  cases b <;> rfl
@[simp] theorem tOrM_ap (m n : M Bool) (r : En) : tOrM m n r = (m r).bind fun b r => if b = true then .ok true r else n r := by
  show (m r).bind (fun b => if b = true then M.ret true else n) = _
  congr 1
  funext b r
  cases b <;> rfl
@[simp] theorem eNot_ap (m : M D) (r : En) : eNot m r = (tBool m r).bind fun b r => .ok (.bool (!b)) r := rfl
@[simp] theorem eNotT_ap (m : M D) (r : En) : eNotT m r = (tTru m r).bind fun b r => .ok (.bool (!b)) r := rfl
@[simp] theorem eAnd_ap (m n : M D) (r : En) : eAnd m n r = (tBool m r).bind fun b r => if b = true then n r else .ok (.bool false) r := by
  show (tBool m r).bind (fun b => if b = true then n else M.ret (.bool false)) = _
  congr 1
  funext b r
  cases b <;> rfl
@[simp] theorem eOr_ap (m n : M D) (r : En) : eOr m n r = (tBool m r).bind fun b r => if b = true then .ok (.bool true) r else n r := by
  show (tBool m r).bind (fun b => if b = true then M.ret (.bool true) else n) = _
  congr 1
  funext b r
  cases b <;> rfl
@[simp] theorem eIf_ap (t : M Bool) (m n : M D) (r : En) : eIf t m n r = (t r).bind fun b r => if b = true then m r else n r := by
  show (t r).bind (fun b => if b = true then m else n) = _
  congr 1
  funext b r
  cases b <;> rfl
@[simp] theorem eChain_ap (g g' : D → D → Option D) (a b d : M D) (r : En) : eChain g g' a b d r = (a r).bind fun x r => (b r).bind fun y r => (M.opt (g x y) r).bind fun z r => (match z with
  | .bool true => (d r).bind fun z r => M.opt (g' y z) r
  | .bool false => .ok (.bool false) r
  | _ => .no) := by
  show (a r).bind (fun x => b.bind fun y => (M.opt (g x y)).bind fun z => (match z with
  | .bool true => d.bind fun z => M.opt (g' y z)
  | .bool false => M.ret (.bool false)
  | _ => M.no)) = _
  congr 1
  funext x r
  show (b r).bind _ = _
  congr 1
  funext y r
  show (M.opt (g x y) r).bind _ = _
  congr 1
  funext z r
  cases z with
  | bool b => cases b <;> rfl
  | _ => rfl
@[simp] theorem setN_ap (i : Nat) (s : Sl) (r : En) : setN i s r = (match r[i]? with
  | some q => if q.isIo = true then none else some (r.set i s)
  | none => none) := by
  unfold setN
  cases r[i]? with
  | none => rfl
  | some q => cases q <;> rfl
@[simp] theorem io_unk : Sl.isIo .unk = false := rfl
@[simp] theorem io_v (d : D) : Sl.isIo (.v d) = false := rfl
@[simp] theorem io_o (c : Ct) : Sl.isIo (.o c) = false := rfl
@[simp] theorem io_io (c : Ct) : Sl.isIo (.io c) = true := rfl
@[simp] theorem setM_ap (i : Nat) (s : Sl) (r : En) : setM i s r = (match setN i s r with
  | some r' => .ok .nx r'
  | none => .no) := rfl
@[simp] theorem slOf_v (d : D) : slOf (.v d) = .v d := rfl
@[simp] theorem slOf_o (d : Ct) : slOf (.o d) = .o d := rfl
@[simp] theorem sSet_ap (i : Nat) (m : M D) (r : En) : sSet i m r = (m r).bind fun d r => setM i (.v d) r := rfl
@[simp] theorem sSetO_ap (i : Nat) (m : M RV) (r : En) : sSetO i m r = (m r).bind fun d r => setM i (slOf d) r := rfl
@[simp] theorem sNil_ap (r : En) : sNil r = .ok .nx r := rfl
theorem sSeq_ap (m n : M Fl) (r : En) : sSeq m n r = (m r).bind fun fl r => (match fl with
  | .nx => n r
  | f => .ok f r) := by
  show (m r).bind (fun fl => (match fl with
  | .nx => n
  | f => M.ret f)) = _
  congr 1
  funext fl r
  cases fl <;> rfl
theorem qo_seq {kk : Fl → En → Prop} (m n : M Fl) (r : En) : Po X (sSeq m n r) kk = Po X (m r) fun fl r => (match fl with
  | .nx => Po X (n r) kk
  | f => kk f r) := by
  rw [sSeq_ap, qo_bind]
  congr 1
  funext fl r
  cases fl <;> rfl
@[simp] theorem sIf_ap (t : M Bool) (a b : M Fl) (r : En) : sIf t a b r = (t r).bind fun x r => if x = true then a r else b r := by
  show (t r).bind (fun x => if x = true then a else b) = _
  congr 1
  funext x r
  cases x <;> rfl
@[simp] theorem qo_ite (p : Prop) [Decidable p] (x y : Re α) : Po X (if p then x else y) k = if p then Po X x k else Po X y k := by split <;> rfl
@[simp] theorem sRet_ap (m : M RV) (r : En) : sRet m r = (m r).bind fun d r => .ok (.rt d) r := rfl
@[simp] theorem sDrop_ap (m : M D) (r : En) : sDrop m r = (m r).bind fun _ r => .ok .nx r := rfl
@[simp] theorem sDropO_ap (m : M RV) (r : En) : sDropO m r = (m r).bind fun _ r => .ok .nx r := rfl
@[simp] theorem frzE_ap (i : Nat) (r : En) : frzE i r = (match r[i]? with
  | some (.o (.l ds)) => r.set i (.v (.list ds))
  | _ => r) := rfl
@[simp] theorem frz_ap (i : Nat) (m : M α) (r : En) : frz i m r = m (frzE i r) := rfl
@[simp] theorem takeS_ap (i : Nat) (r : En) : takeS i r = (match r[i]? with
  | some (.v d) => .ok (.v d) r
  | some (.o ct) => .ok (.o ct) (r.set i .unk)
  | _ => .no) := rfl
@[simp] theorem gN_ap (i : Nat) (d : D) (r : En) : gN i d r = setN i (.v d) r := rfl
@[simp] theorem gT_ap (t : Tgs) (ds : List D) (r : En) : gT t (.tuple ds) r = t ds r := rfl
@[simp] theorem gT_l (t : Tgs) (ds : List D) (r : En) : gT t (.list ds) r = t ds r := rfl
@[simp] theorem gNl_ap (r : En) : gNl [] r = some r := rfl
@[simp] theorem gCn_ap (t : Tg) (ts : Tgs) (d : D) (ds : List D) (r : En) : gCn t ts (d :: ds) r = (t d r).bind fun r' => ts ds r' := rfl
@[simp] theorem sAsg_ap (t : Tg) (m : M D) (r : En) : sAsg t m r = (m r).bind fun d r => (match t d r with
  | some r' => .ok .nx r'
  | none => .no) := rfl
@[simp] theorem sPar_ap (i j : Nat) (m : M (List D)) (r : En) : sPar i j m r = (m r).bind fun ds r => (match ds with
  | [a, b] => (match (setN i (.v a) r).bind (setN j (.v b)) with
    | some r' => .ok .nx r'
    | none => .no)
  | _ => .no) := by
  unfold sPar
  show (m r).bind _ = _
  congr 1
  funext ds r
  rcases ds with _ | ⟨a, _ | ⟨b, _ | ⟨c, ds⟩⟩⟩ <;> rfl
@[simp] theorem iSeq_ap (m : M D) (r : En) : iSeq m r = (m r).bind fun d r => M.opt (seqOf d) r := rfl
@[simp] theorem seqOf_l (ds : List D) : seqOf (.list ds) = some ds := rfl
@[simp] theorem seqOf_t (ds : List D) : seqOf (.tuple ds) = some ds := rfl
@[simp] theorem iBy_ap (g : List D → Option (List D)) (m : M (List D)) (r : En) : iBy g m r = (m r).bind fun ds r => M.opt (g ds) r := rfl
theorem rng1_iff (j : Int) (xs : List D) : (rng1 [.int j] = some xs) = ((-(2 ^ 62) ≤ j ∧ j < 2 ^ 62) ∧ rngD 0 j.toNat = xs) := by
  show (cI (-(2 ^ 62) ≤ j ∧ j < 2 ^ 62) (some (rngD 0 j.toNat)) none = some xs) = _
  rw [cI_eq]
  exact ite_some _ _ _
theorem rng2_iff (i j : Int) (xs : List D) : (rng2 [.int i, .int j] = some xs) = (((-(2 ^ 62) ≤ i ∧ i < 2 ^ 62) ∧ (-(2 ^ 62) ≤ j ∧ j < 2 ^ 62)) ∧ rngD i (j - i).toNat = xs) := by
  show (cI ((-(2 ^ 62) ≤ i ∧ i < 2 ^ 62) ∧ (-(2 ^ 62) ≤ j ∧ j < 2 ^ 62)) (some (rngD i (j - i).toNat)) none = some xs) = _
  rw [cI_eq]
  exact ite_some _ _ _
theorem enF_zip {γ : Type} (g : γ → D) : ∀ (k : Nat) (xs : List γ), enF k (xs.map g) = (xs.zipIdx k).map fun p => .tuple [.int (p.2 : Nat), g p.1]
  | _, [] => rfl
  | k, x :: xs => by
    rw [List.map_cons, List.zipIdx_cons, List.map_cons, ← enF_zip g (k + 1) xs]
    rfl
@[simp] theorem enOf_l {γ : Type} (g : γ → D) (xs : List γ) : enOf [.list (xs.map g)] = some ((xs.zipIdx 0).map fun p => .tuple [.int (p.2 : Nat), g p.1]) := by
  rw [← enF_zip]
  rfl
@[simp] theorem enOf_t {γ : Type} (g : γ → D) (xs : List γ) : enOf [.tuple (xs.map g)] = some ((xs.zipIdx 0).map fun p => .tuple [.int (p.2 : Nat), g p.1]) := by
  rw [← enF_zip]
  rfl
theorem rng_map (lo : Int) (n : Nat) : rngD lo n = (List.range n).map fun k : Nat => PyData.int (lo + (k : Int)) := rfl
@[simp] theorem pNone_ap (r : En) : pNone r = .ok none r := rfl
@[simp] theorem pSome_ap (m : M D) (r : En) : pSome m r = (m r).bind fun d r => M.opt (match d with
  | .int i => some (some i)
  | _ => none) r := rfl
@[simp] theorem eSl_ap (m : M D) (l u : M (Option Int)) (r : En) : eSl m l u r = (m r).bind fun d r => (l r).bind fun a r => (u r).bind fun b r => M.opt (slD d a b) r := rfl
@[simp] theorem slD_l (ds : List D) (a b : Option Int) : slD (.list ds) a b = some (.list (cutL ds a b)) := rfl
@[simp] theorem slD_t (ds : List D) (a b : Option Int) : slD (.tuple ds) a b = some (.tuple (cutL ds a b)) := rfl
@[simp] theorem revD_l (ds : List D) : revD (.list ds) = some (.list ds.reverse) := rfl
@[simp] theorem revD_t (ds : List D) : revD (.tuple ds) = some (.tuple ds.reverse) := rfl
@[simp] theorem sAppend_ap (i : Nat) (m : M D) (r : En) : sAppend i m r = (match getC i r with
  | some (.l _) => (m r).bind fun d r => (match getC i r with
    | some (.l ds) => if ds.length < 16777216 then .ok .nx (putC i (.l (ds ++ [d])) r) else .no
    | _ => .no)
  | _ => .no) := rfl
@[simp] theorem sExtend_ap (i : Nat) (m : M RV) (r : En) : sExtend i m r = (match getC i r with
  | some (.l _) => (m r).bind fun rv r => (match rv, getC i r with
    | .o (.l es), some (.l ds) => if ds.length + es.length ≤ 16777216 then .ok .nx (putC i (.l (ds ++ es)) r) else .no
    | _, _ => .no)
  | _ => .no) := rfl
@[simp] theorem getC_ap (i : Nat) (r : En) : getC i r = (r[i]?).bind Sl.own := rfl
@[simp] theorem putC_ap (i : Nat) (ct : Ct) (r : En) : putC i ct r = (match r[i]? with
  | some s => r.set i (s.put ct)
  | none => r) := rfl
@[simp] theorem own_o (c : Ct) : Sl.own (.o c) = some c := rfl
@[simp] theorem own_io (c : Ct) : Sl.own (.io c) = some c := rfl
@[simp] theorem own_v (d : D) : Sl.own (.v d) = none := rfl
@[simp] theorem own_unk : Sl.own .unk = none := rfl
@[simp] theorem put_o (c c' : Ct) : Sl.put c (.o c') = .o c := rfl
@[simp] theorem put_io (c c' : Ct) : Sl.put c (.io c') = .io c := rfl
@[simp] theorem eIxS_ap (i : Nat) (mk : M D) (r : En) : eIxS i mk r = (match getC i r with
  | some (.l _) => (mk r).bind fun k r => (match getC i r with
    | some (.l ds) => M.opt (ixL ds k) r
    | _ => .no)
  | some (.d _) => (mk r).bind fun k r => (match getC i r with
    | some (.d kvs) => M.opt ((keyD k).bind (vK kvs)) r
    | _ => .no)
  | some (.t _) => .no
  | none => bin ixD (getS i) mk r) := rfl
@[simp] theorem sPut_ap (i : Nat) (mk m : M D) (r : En) : sPut' i mk m r = (m r).bind fun d r => (match getC i r with
  | none => .no
  | some _ => (mk r).bind fun k r => (match getC i r with
    | some (.l ds) => (match k with
      | .int n => (match ixN ds.length n with
        | some j => .ok .nx (putC i (.l (ds.set j d)) r)
        | none => .no)
      | _ => .no)
    | some (.d kvs) => (match keyD k with
      | some y => if kvs.length < 16777216 then .ok .nx (putC i (.d (pK kvs y d)) r) else .no
      | none => .no)
    | some (.t kvs) => (match tkeyD k with
      | some y => if kvs.length < 16777216 then .ok .nx (putC i (.t (pK kvs y d)) r) else .no
      | none => .no)
    | none => .no)) := rfl
@[simp] theorem ixL_ap (ds : List D) (n : Int) : ixL ds (.int n) = atI ds n := rfl
@[simp] theorem ixD_l (ds : List D) (k : D) : ixD (.list ds) k = ixL ds k := rfl
@[simp] theorem ixD_t (ds : List D) (k : D) : ixD (.tuple ds) k = ixL ds k := rfl
@[simp] theorem lenD_l (ds : List D) : lenD (.list ds) = some (.int (ds.length : Nat)) := rfl
@[simp] theorem lenD_t (ds : List D) : lenD (.tuple ds) = some (.int (ds.length : Nat)) := rfl
@[simp] theorem one_ap (g : D → Option D) (d : D) : one g [d] = g d := rfl
@[simp] theorem two_ap (g : D → D → Option D) (d e : D) : two g [d, e] = g d e := rfl
@[simp] theorem eLenS_ap (i : Nat) (r : En) : eLenS i r = (match getC i r with
  | some (.l ds) => .ok (.int (ds.length : Nat)) r
  | some (.d kvs) => .ok (.int (kvs.length : Nat)) r
  | some (.t _) => .no
  | none => nry (one lenD) (aCons (getS i) aNil) r) := rfl
@[simp] theorem addD_i (i j : Int) : addD (.int i) (.int j) = some (.int (i + j)) := rfl
@[simp] theorem addD_l (xs ys : List D) : addD (.list xs) (.list ys) = szC (xs.length + ys.length) (.list (xs ++ ys)) := rfl
@[simp] theorem addD_t (xs ys : List D) : addD (.tuple xs) (.tuple ys) = szC (xs.length + ys.length) (.tuple (xs ++ ys)) := rfl
@[simp] theorem subD_i (i j : Int) : subD (.int i) (.int j) = some (.int (i - j)) := rfl
theorem mulD_iff (i j : Int) (d : D) : (mulD (.int i) (.int j) = some d) = (mulOk i j ∧ .int (i * j) = d) := by
  show (cI (mulOk i j) (some (PyData.int (i * j))) none = some d) = _
  rw [cI_eq]
  exact ite_some _ _ _
theorem fdivD_iff (i j : Int) (d : D) : (fdivD (.int i) (.int j) = some d) = ((j ≠ 0 ∧ j.natAbs.log2 < 9000) ∧ .int (i.fdiv j) = d) := by
  show (cI (j ≠ 0 ∧ j.natAbs.log2 < 9000) (some (PyData.int (i.fdiv j))) none = some d) = _
  rw [cI_eq]
  exact ite_some _ _ _
theorem modD_iff (i j : Int) (d : D) : (modD (.int i) (.int j) = some d) = (j ≠ 0 ∧ .int (i.fmod j) = d) := by
  show (cI (j ≠ 0) (some (PyData.int (i.fmod j))) none = some d) = _
  rw [cI_eq]
  exact ite_some _ _ _
theorem powD_iff (i j : Int) (d : D) : (powD (.int i) (.int j) = some d) = ((0 ≤ j ∧ j ≤ 1000000 ∧ i.natAbs < 2 ^ 64) ∧ .int (i ^ j.toNat) = d) := by
  show (cI (0 ≤ j ∧ j ≤ 1000000 ∧ i.natAbs < 2 ^ 64) (some (PyData.int (i ^ j.toNat))) none = some d) = _
  rw [cI_eq]
  exact ite_some _ _ _
@[simp] theorem negD_i (i : Int) : negD (.int i) = some (.int (-i)) := rfl
@[simp] theorem ltD_i (i j : Int) : ltD (.int i) (.int j) = some (.bool (decide (i < j))) := congrArg (fun b => some (PyData.bool b)) (cd_eq _)
@[simp] theorem leD_i (i j : Int) : leD (.int i) (.int j) = some (.bool (decide (i ≤ j))) := congrArg (fun b => some (PyData.bool b)) (cd_eq _)
@[simp] theorem gtD_i (i j : Int) : gtD (.int i) (.int j) = some (.bool (decide (j < i))) := congrArg (fun b => some (PyData.bool b)) (cd_eq _)
@[simp] theorem geD_i (i j : Int) : geD (.int i) (.int j) = some (.bool (decide (j ≤ i))) := congrArg (fun b => some (PyData.bool b)) (cd_eq _)
@[simp] theorem eqD_i (i j : Int) : eqD (.int i) (.int j) = some (.bool (decide (i = j))) := by
  show some (PyData.bool (i == j)) = _
  congr 2
@[simp] theorem neD_i (i j : Int) : neD (.int i) (.int j) = some (.bool (!decide (i = j))) := by
  show some (PyData.bool (!(i == j))) = _
  congr 2
@[simp] theorem eqD_s (i j : Str) : eqD (.str i) (.str j) = some (.bool (decide (i = j))) := rfl
@[simp] theorem neD_s (i j : Str) : neD (.str i) (.str j) = some (.bool (!decide (i = j))) := rfl
theorem eqD_ll {xs ys : List D} (h1 : SeqAt.shaped (.list xs) = true) (h2 : SeqAt.shaped (.list ys) = true) : eqD (.list xs) (.list ys) = some (.bool (PyData.eqvAll xs ys)) := if_pos ⟨h1, h2⟩
theorem neD_ll {xs ys : List D} (h1 : SeqAt.shaped (.list xs) = true) (h2 : SeqAt.shaped (.list ys) = true) : neD (.list xs) (.list ys) = some (.bool (!PyData.eqvAll xs ys)) := if_pos ⟨h1, h2⟩
theorem eqD_tt {xs ys : List D} (h1 : SeqAt.shaped (.tuple xs) = true) (h2 : SeqAt.shaped (.tuple ys) = true) : eqD (.tuple xs) (.tuple ys) = some (.bool (PyData.eqvAll xs ys)) := if_pos ⟨h1, h2⟩
theorem neD_tt {xs ys : List D} (h1 : SeqAt.shaped (.tuple xs) = true) (h2 : SeqAt.shaped (.tuple ys) = true) : neD (.tuple xs) (.tuple ys) = some (.bool (!PyData.eqvAll xs ys)) := if_pos ⟨h1, h2⟩
theorem eqD0_l (xs : List D) (e : D) (h : SeqAt.shaped (.list xs) = true ∧ SeqAt.shaped e = true) : eqD0 (.list xs) e = some (.bool (PyData.eqv (.list xs) e)) := if_pos h
/-- of other lengths -/
theorem eqD_other {xs ys : List D} (h : xs.length ≠ ys.length) : eqD (.list xs) (.list ys) = some (.bool false) := by
  show (if SeqAt.shaped (.list xs) = true ∧ SeqAt.shaped (.list ys) = true then some (PyData.bool (PyData.eqvAll xs ys)) else eqL (.list xs) (.list ys)) = _
  split
  · rw [SeqAt.eqvAll_other_length h]
  · show (if xs.length = ys.length then none else some (PyData.bool false)) = _
    rw [if_neg h]
theorem eqD_nil (xs : List D) : eqD (.list xs) (.list []) = some (.bool (decide (xs = []))) := by
  cases xs with
  | nil => rfl
  | cons x xs => rw [eqD_other (by simp)]; simp
theorem eqD_tnil (xs : List D) : eqD (.tuple xs) (.tuple []) = some (.bool (decide (xs = []))) := by
  cases xs with
  | nil => rfl
  | cons x xs =>
    show (if SeqAt.shaped (.tuple (x :: xs)) = true ∧ SeqAt.shaped (.tuple []) = true then some (PyData.bool (PyData.eqvAll (x :: xs) [])) else eqL (.tuple (x :: xs)) (.tuple [])) = _
    split
    · rw [SeqAt.eqvAll_other_length (by simp)]; simp
    · show (if (x :: xs).length = 0 then none else some (PyData.bool false)) = _
      rw [if_neg (by simp)]
      simp
/-! plain data: whole numbers, yes and no, None, rows of such -/
mutual
def pln : D → Bool
  | .none => true
  | .bool _ => true
  | .int i => decide (i.natAbs < 2 ^ 1900)
  | .str x => (PyData.str x).showable && ((PyData.str x).canLay0 && (PyData.str x).leavesShort 1901)
  | .list xs => plnAll xs
  | .tuple xs => plnAll xs
  | .dict _ => false
def plnAll : List D → Bool
  | [] => true
  | x :: xs => pln x && plnAll xs
end
theorem int_len {i : Int} (h : i.natAbs < 2 ^ 1900) : (PyData.shown (.int i)).length ≤ 1901 := by
  show (Str.ofString (toString i)).length ≤ 1901
  rw [ofString_length]
  exact int_text_length_le (k := 1900) (by decide) (PySem.Flt.log2_lt_of (by decide) h)
mutual
theorem pln_ok : ∀ d : D, pln d = true → d.showable = true ∧ d.canLay0 = true ∧ d.leavesShort 1901 = true
  | .none, _ => ⟨rfl, rfl, rfl⟩
  | .bool _, _ => ⟨rfl, rfl, rfl⟩
  | .int i, h => by
    have h : i.natAbs < 2 ^ 1900 := of_decide_eq_true h
    refine ⟨?_, rfl, ?_⟩
    · exact decide_eq_true (by
        have : i.natAbs.log2 < 1900 := PySem.Flt.log2_lt_of (by decide) h
        omega)
    · exact decide_eq_true (int_len h)
  | .str x, h => by
    have h : ((PyData.str x).showable && ((PyData.str x).canLay0 && (PyData.str x).leavesShort 1901)) = true := h -- pln_str
    rw [Bool.and_eq_true, Bool.and_eq_true] at h
    exact ⟨h.1, h.2.1, h.2.2⟩
  | .list xs, h => plnAll_ok xs h
  | .tuple xs, h => plnAll_ok xs h
  | .dict _, h => by cases h
theorem plnAll_ok : ∀ xs : List D, plnAll xs = true → PyData.showableAll xs = true ∧ PyData.canLayAll0 xs = true ∧ PyData.leavesShortAll 1901 xs = true
  | [], _ => ⟨rfl, rfl, rfl⟩
  | x :: xs, h => by
    have h : (pln x && plnAll xs) = true := h
    obtain ⟨h1, h2⟩ := Bool.and_eq_true_iff.mp h
    obtain ⟨a1, a2, a3⟩ := pln_ok x h1
    obtain ⟨b1, b2, b3⟩ := plnAll_ok xs h2
    exact ⟨Bool.and_eq_true_iff.mpr ⟨a1, b1⟩, Bool.and_eq_true_iff.mpr ⟨a2, b2⟩, Bool.and_eq_true_iff.mpr ⟨a3, b3⟩⟩
end
theorem pln_shaped {d : D} (h : pln d = true) (hd : d.depth ≤ 64) : SeqAt.shaped d = true := Bool.and_eq_true_iff.mpr ⟨(pln_ok d h).2.1, decide_eq_true hd⟩
theorem pln_len {d : D} (h : pln d = true) (hb : d.bulk ≤ 8000) : d.shown.length ≤ 16777216 := by
  have := PyData.shown_le_bulk 1901 (by decide) d (pln_ok d h).2.2
  omega
theorem repr_l {ds : List D} (h : pln (.list ds) = true) (hd : (PyData.list ds).depth ≤ 64) (hb : (PyData.list ds).bulk ≤ 8000) : reprD (.list ds) = some (.str (PyData.list ds).shown) := (cI_eq ..).trans (if_pos ⟨(pln_ok _ h).1, pln_shaped h hd, pln_len h hb⟩)
theorem repr_t {ds : List D} (h : pln (.tuple ds) = true) (hd : (PyData.tuple ds).depth ≤ 64) (hb : (PyData.tuple ds).bulk ≤ 8000) : reprD (.tuple ds) = some (.str (PyData.tuple ds).shown) := (cI_eq ..).trans (if_pos ⟨(pln_ok _ h).1, pln_shaped h hd, pln_len h hb⟩)
theorem plnAll_map {γ : Type} (f : γ → D) : ∀ xs : List γ, (∀ x ∈ xs, pln (f x) = true) → plnAll (xs.map f) = true
  | [], _ => rfl
  | x :: xs, h => Bool.and_eq_true_iff.mpr ⟨h x (List.mem_cons_self ..), plnAll_map f xs fun y hy => h y (List.mem_cons_of_mem _ hy)⟩
theorem depthAll_map {γ : Type} (f : γ → D) (k : Nat) : ∀ xs : List γ, (∀ x ∈ xs, (f x).depth ≤ k) → PyData.depthAll (xs.map f) ≤ k
  | [], _ => Nat.zero_le _
  | x :: xs, h => by
    have h1 := h x (List.mem_cons_self ..)
    have h2 := depthAll_map f k xs fun y hy => h y (List.mem_cons_of_mem _ hy)
    simp only [List.map_cons, PyData.depthAll]
    omega
theorem bulkAll_map {γ : Type} (f : γ → D) (k : Nat) : ∀ xs : List γ, (∀ x ∈ xs, (f x).bulk ≤ k) → PyData.bulkAll (xs.map f) ≤ (k + 1) * xs.length
  | [], _ => Nat.zero_le _
  | x :: xs, h => by
    have h1 := h x (List.mem_cons_self ..)
    have h2 := bulkAll_map f k xs fun y hy => h y (List.mem_cons_of_mem _ hy)
    simp only [List.map_cons, PyData.bulkAll, List.length_cons, Nat.mul_add, Nat.mul_one]
    omega
theorem eqvAll_self {ds : List D} (h : plnAll ds = true) : PyData.eqvAll ds ds = true := PySem.SeqAt.eqvAll_refl ds (plnAll_ok ds h).2.1
theorem lay_ints : ∀ xs : List Int, PyData.canLayAll0 (xs.map .int) = true
  | [] => rfl
  | _ :: xs => lay_ints xs
theorem shaped_t (xs : List Int) : SeqAt.shaped (.tuple (xs.map .int)) = true := Bool.and_eq_true_iff.mpr ⟨lay_ints xs, decide_eq_true (by
  have := depthAll_map PyData.int 1 xs fun x _ => by simp [PyData.depth]
  simp only [PyData.depth]
  omega)⟩
theorem shaped_l (xs : List Int) : SeqAt.shaped (.list (xs.map .int)) = true := Bool.and_eq_true_iff.mpr ⟨lay_ints xs, decide_eq_true (by
  have := depthAll_map PyData.int 1 xs fun x _ => by simp [PyData.depth]
  simp only [PyData.depth]
  omega)⟩
theorem eqv_ints : ∀ xs ys : List Int, PyData.eqvAll (xs.map .int) (ys.map .int) = decide (xs = ys)
  | [], [] => rfl
  | [], _ :: _ => rfl
  | _ :: _, [] => rfl
  | x :: xs, y :: ys => by
    show ((x == y) && PyData.eqvAll (xs.map .int) (ys.map .int)) = _
    rw [eqv_ints xs ys]
    by_cases h1 : x = y
    · by_cases h2 : xs = ys
      · simp [h1, h2]
      · simp [h1, h2]
    · simp [h1]
@[simp] theorem eqD_T (xs ys : List Int) : eqD (.tuple (xs.map .int)) (.tuple (ys.map .int)) = some (.bool (decide (xs = ys))) := by
  rw [eqD_tt (shaped_t _) (shaped_t _), eqv_ints]
@[simp] theorem neD_T (xs ys : List Int) : neD (.tuple (xs.map .int)) (.tuple (ys.map .int)) = some (.bool (!decide (xs = ys))) := by
  rw [neD_tt (shaped_t _) (shaped_t _), eqv_ints]
@[simp] theorem eqD_L (xs ys : List Int) : eqD (.list (xs.map .int)) (.list (ys.map .int)) = some (.bool (decide (xs = ys))) := by
  rw [eqD_ll (shaped_l _) (shaped_l _), eqv_ints]
@[simp] theorem neD_L (xs ys : List Int) : neD (.list (xs.map .int)) (.list (ys.map .int)) = some (.bool (!decide (xs = ys))) := by
  rw [neD_ll (shaped_l _) (shaped_l _), eqv_ints]
@[simp] theorem neD_b (i j : Bool) : neD (.bool i) (.bool j) = some (.bool (!decide (i = j))) := by
  show some (PyData.bool (!(i == j))) = _
  congr 2
@[simp] theorem eqD_b (i j : Bool) : eqD (.bool i) (.bool j) = some (.bool (decide (i = j))) := by
  show some (PyData.bool (i == j)) = _
  congr 2
@[simp] theorem tru_b (b : Bool) : tru (.bool b) = some b := rfl
@[simp] theorem tru_i (i : Int) : tru (.int i) = some (i != 0) := rfl
@[simp] theorem tru_l (ds : List D) : tru (.list ds) = some (!ds.isEmpty) := rfl
@[simp] theorem tru_t (ds : List D) : tru (.tuple ds) = some (!ds.isEmpty) := rfl
@[simp] theorem absD_i (i : Int) : absD (.int i) = some (.int (if i < 0 then -i else i)) := rfl
@[simp] theorem tupD_l (ds : List D) : tupD (.list ds) = some (.tuple ds) := rfl
@[simp] theorem tupD_t (ds : List D) : tupD (.tuple ds) = some (.tuple ds) := rfl
@[simp] theorem isi_ii (i : Int) : isiD "int" (.int i) = some (.bool true) := by kernel_rfl
@[simp] theorem isi_ib (i : Int) : isiD "bool" (.int i) = some (.bool false) := by kernel_rfl
@[simp] theorem isi_it (i : Int) : isiD "tuple" (.int i) = some (.bool false) := by kernel_rfl
@[simp] theorem isi_tt (ds : List D) : isiD "tuple" (.tuple ds) = some (.bool true) := by kernel_rfl
@[simp] theorem isi_ll (ds : List D) : isiD "list" (.list ds) = some (.bool true) := by kernel_rfl
@[simp] theorem eqS_ap (i : Nat) (mb : M D) (r : En) : eqS i mb r = (match getC i r with
  | some (.l _) => (mb r).bind fun d r => (match getC i r with
    | some (.l ds) => M.opt (eqD0 (.list ds) d) r
    | _ => .no)
  | some (.d _) => .no
  | some (.t _) => .no
  | none => bin eqD (getS i) mb r) := rfl
@[simp] theorem neS_ap (i : Nat) (mb : M D) (r : En) : neS i mb r = (match getC i r with
  | some (.l _) => (mb r).bind fun d r => (match getC i r with
    | some (.l ds) => M.opt (neD (.list ds) d) r
    | _ => .no)
  | some (.d _) => .no
  | some (.t _) => .no
  | none => bin neD (getS i) mb r) := rfl
@[simp] theorem cCall0_ap (f : List Sl → Re RV) (r : En) : cCall0 f r = cCall f aNil r := rfl
@[simp] theorem binO_ap (g : D → D → Option RV) (a b : M D) (r : En) : binO g a b r = (a r).bind fun x r => (b r).bind fun y r => M.opt (g x y) r := rfl
@[simp] theorem addO_l (xs ys : List D) : addO (.list xs) (.list ys) = szC (xs.length + ys.length) (.o (.l (xs ++ ys))) := rfl
@[simp] theorem addO_t (xs ys : List D) : addO (.tuple xs) (.tuple ys) = (szC (xs.length + ys.length) (PyData.tuple (xs ++ ys))).map .v := rfl
@[simp] theorem listD_t (xs : List D) : listD [.tuple xs] = some xs := rfl
@[simp] theorem listD_l (xs : List D) : listD [.list xs] = some xs := rfl
@[simp] theorem addO_i (i j : Int) : addO (.int i) (.int j) = some (.v (.int (i + j))) := rfl
@[simp] theorem mulO_iff (xs : List D) (k : Int) (d : RV) : (mulO (.list xs) (.int k) = some d) = (((-(2 ^ 63) ≤ k ∧ k < 2 ^ 63) ∧ xs.length * k.toNat ≤ 16777216) ∧ .o (.l (List.replicate k.toNat xs).flatten) = d) := by
  show (cI ((-(2 ^ 63) ≤ k ∧ k < 2 ^ 63) ∧ xs.length * k.toNat ≤ 16777216) (some (RV.o (.l (List.replicate k.toNat xs).flatten))) none = some d) = _
  rw [cI_eq]
  exact ite_some _ _ _
@[simp] theorem sAppX_ap (m : M RV) (r : En) : sAppX m r = (m r).bind fun rv r => (match rv with
  | .o (.l ds) => if ds.length < 16777216 then .ok .nx r else .no
  | _ => .no) := by
  show (m r).bind _ = _
  congr 1
  funext rv r
  rcases rv with d | ct
  · rfl
  · cases ct with
    | l ds =>
      simp only
      split <;> rfl
    | d kvs => rfl
    | t kvs => rfl
/-! an answer with a condition -/
@[simp] theorem qo_szM {γ : Type} (n : Nat) (a : γ) (f : γ → α) (r : En) : Po X (M.opt ((szC n a).map f) r) k = (n ≤ 16777216 ∧ k (f a) r) := by
  unfold szC
  by_cases h : n ≤ 16777216
  · rw [if_pos h]
    simp [h]
  · rw [if_neg h]
    simp [h]
@[simp] theorem qo_szC (n : Nat) (a : α) (r : En) : Po X (M.opt (szC n a) r) k = (n ≤ 16777216 ∧ k a r) := by
  rw [qo_opt]
  simp only [szC_iff]
  exact propext ⟨fun ⟨_, ⟨h, e⟩, q⟩ => ⟨h, by rw [e]; exact q⟩, fun ⟨h, q⟩ => ⟨a, ⟨h, rfl⟩, q⟩⟩
section
variable {kd : D → En → Prop} {kl : List D → En → Prop}
@[simp] theorem qo_rng1 (j : Int) (r : En) : Po X (M.opt (rng1 [.int j]) r) kl = ((-(2 ^ 62) ≤ j ∧ j < 2 ^ 62) ∧ kl (rngD 0 j.toNat) r) := by
  rw [qo_opt]
  simp only [rng1_iff]
  exact propext ⟨fun ⟨_, ⟨h, e⟩, q⟩ => ⟨h, by rw [e]; exact q⟩, fun ⟨h, q⟩ => ⟨_, ⟨h, rfl⟩, q⟩⟩
@[simp] theorem qo_rng2 (i j : Int) (r : En) : Po X (M.opt (rng2 [.int i, .int j]) r) kl = (((-(2 ^ 62) ≤ i ∧ i < 2 ^ 62) ∧ (-(2 ^ 62) ≤ j ∧ j < 2 ^ 62)) ∧ kl (rngD i (j - i).toNat) r) := by
  rw [qo_opt]
  simp only [rng2_iff]
  exact propext ⟨fun ⟨_, ⟨h, e⟩, q⟩ => ⟨h, by rw [e]; exact q⟩, fun ⟨h, q⟩ => ⟨_, ⟨h, rfl⟩, q⟩⟩
@[simp] theorem qo_mul (i j : Int) (r : En) : Po X (M.opt (mulD (.int i) (.int j)) r) kd = (mulOk i j ∧ kd (.int (i * j)) r) := by
  rw [qo_opt]
  simp only [mulD_iff]
  exact propext ⟨fun ⟨_, ⟨h, e⟩, q⟩ => ⟨h, by rw [e]; exact q⟩, fun ⟨h, q⟩ => ⟨_, ⟨h, rfl⟩, q⟩⟩
@[simp] theorem qo_fdiv (i j : Int) (r : En) : Po X (M.opt (fdivD (.int i) (.int j)) r) kd = ((j ≠ 0 ∧ j.natAbs.log2 < 9000) ∧ kd (.int (i.fdiv j)) r) := by
  rw [qo_opt]
  simp only [fdivD_iff]
  exact propext ⟨fun ⟨_, ⟨h, e⟩, q⟩ => ⟨h, by rw [e]; exact q⟩, fun ⟨h, q⟩ => ⟨_, ⟨h, rfl⟩, q⟩⟩
@[simp] theorem qo_mod (i j : Int) (r : En) : Po X (M.opt (modD (.int i) (.int j)) r) kd = (j ≠ 0 ∧ kd (.int (i.fmod j)) r) := by
  rw [qo_opt]
  simp only [modD_iff]
  exact propext ⟨fun ⟨_, ⟨h, e⟩, q⟩ => ⟨h, by rw [e]; exact q⟩, fun ⟨h, q⟩ => ⟨_, ⟨h, rfl⟩, q⟩⟩
@[simp] theorem qo_pow (i j : Int) (r : En) : Po X (M.opt (powD (.int i) (.int j)) r) kd = ((0 ≤ j ∧ j ≤ 1000000 ∧ i.natAbs < 2 ^ 64) ∧ kd (.int (i ^ j.toNat)) r) := by
  rw [qo_opt]
  simp only [powD_iff]
  exact propext ⟨fun ⟨_, ⟨h, e⟩, q⟩ => ⟨h, by rw [e]; exact q⟩, fun ⟨h, q⟩ => ⟨_, ⟨h, rfl⟩, q⟩⟩
@[simp] theorem qo_mulO {kr : RV → En → Prop} (xs : List D) (j : Int) (r : En) : Po X (M.opt (mulO (.list xs) (.int j)) r) kr = (((-(2 ^ 63) ≤ j ∧ j < 2 ^ 63) ∧ xs.length * j.toNat ≤ 16777216) ∧ kr (.o (.l (List.replicate j.toNat xs).flatten)) r) := by
  rw [qo_opt]
  simp only [mulO_iff]
  exact propext ⟨fun ⟨_, ⟨h, e⟩, q⟩ => ⟨h, by rw [e]; exact q⟩, fun ⟨h, q⟩ => ⟨_, ⟨h, rfl⟩, q⟩⟩
@[simp] theorem qo_mulL (xs : List D) (k : Int) (r : En) : Po X (M.opt (mulD (.list xs) (.int k)) r) kd = (((-(2 ^ 63) ≤ k ∧ k < 2 ^ 63) ∧ xs.length * k.toNat ≤ 16777216) ∧ kd (.list (List.replicate k.toNat xs).flatten) r) := by
  rw [qo_opt]
  show (∃ a, cI ((-(2 ^ 63) ≤ k ∧ k < 2 ^ 63) ∧ xs.length * k.toNat ≤ 16777216) (some (PyData.list (List.replicate k.toNat xs).flatten)) none = some a ∧ kd a r) = _
  rw [cI_eq]
  simp only [ite_some]
  exact propext ⟨fun ⟨_, ⟨h, e⟩, q⟩ => ⟨h, by rw [e]; exact q⟩, fun ⟨h, q⟩ => ⟨_, ⟨h, rfl⟩, q⟩⟩
@[simp] theorem qo_mulT (xs : List D) (k : Int) (r : En) : Po X (M.opt (mulD (.tuple xs) (.int k)) r) kd = ((-1000 ≤ k ∧ k ≤ 1000 ∧ xs.length ≤ 1000) ∧ kd (.tuple (List.replicate k.toNat xs).flatten) r) := by
  rw [qo_opt]
  show (∃ a, cI (-1000 ≤ k ∧ k ≤ 1000 ∧ xs.length ≤ 1000) (some (PyData.tuple (List.replicate k.toNat xs).flatten)) none = some a ∧ kd a r) = _
  rw [cI_eq]
  simp only [ite_some]
  exact propext ⟨fun ⟨_, ⟨h, e⟩, q⟩ => ⟨h, by rw [e]; exact q⟩, fun ⟨h, q⟩ => ⟨_, ⟨h, rfl⟩, q⟩⟩
@[simp] theorem qo_at (xs : List D) (n : Int) (r : En) : Po X (M.opt (atI xs n) r) kd = ∃ d, atI xs n = some d ∧ kd d r := qo_opt _ _
@[simp] theorem atI_nat {α : Type} (xs : List α) (i : Nat) : atI xs (i : Int) = xs[i]? := by
  unfold atI ixN
  rw [if_pos (by omega)]
  by_cases h : i < xs.length
  · rw [if_pos (by omega)]
    simp
  · rw [if_neg (by omega), List.getElem?_eq_none (by omega)]
    rfl
theorem atI_map {α β : Type} (f : α → β) (xs : List α) (n : Int) : atI (xs.map f) n = (atI xs n).map f := by
  unfold atI
  rw [List.length_map]
  cases ixN xs.length n with
  | none => rfl
  | some j => simp
@[simp high] theorem qo_atI (xs : List Int) (n : Int) (r : En) : Po X (M.opt (atI (xs.map .int) n) r) kd = ∃ c, atI xs n = some c ∧ kd (.int c) r := by
  rw [qo_opt, atI_map]
  cases atI xs n with
  | none => simp
  | some c => simp
end
/-! calls -/
@[simp] theorem qo_call {kk : RV → En → Prop} (f : List Sl → Re RV) (ms : M (List D)) (r : En) : Po X (cCall f ms r) kk = Po X (ms r) fun ds r => Po (fun e _ => X e r) (f (ds.map .v)) fun rv _ => kk rv r := by
  show Po X ((ms r).bind _) kk = _
  rw [qo_bind]
  congr 1
  funext ds r
  cases f (ds.map .v) <;> rfl
def InIo (P : Ct → Prop) : List Sl → Prop
  | .io c :: _ => P c
  | _ => False
@[simp] theorem inIo (P : Ct → Prop) (c : Ct) (t : List Sl) : InIo P (.io c :: t) = P c := rfl
@[simp] theorem qo_callI {kk : RV → En → Prop} (f : List Sl → Re RV) (ms : M (List D)) (i : Nat) (r : En) : Po X (cCallI i f ms r) kk = (match getC i r with
  | none => False
  | some _ => Po X (ms r) fun ds r1 => (match getC i r1 with
    | none => False
    | some ct => Po (fun e z => InIo (fun c => X e (putC i c r1)) z) (f (.io ct :: ds.map .v)) fun rv z => InIo (fun c => kk rv (putC i c r1)) z)) := by
  unfold cCallI
  cases getC i r with
  | none => rfl
  | some c0 =>
    show Po X ((ms r).bind _) kk = _
    rw [qo_bind]
    simp only
    congr 1
    funext ds r1
    cases getC i r1 with
    | none => rfl
    | some ct =>
      simp only
      cases f (.io ct :: ds.map .v) with
      | no => rfl
      | ok rv z => rcases z with _ | ⟨q, z⟩ <;> first | rfl | (cases q <;> rfl)
      | ex rv z => rcases z with _ | ⟨q, z⟩ <;> first | rfl | (cases q <;> rfl)
theorem qo_fn {kk : RV → List Sl → Prop} {n : Nat} {m : M Fl} {rs : List Sl} (h : Po (fun e r => ∃ z, backA rs r = some z ∧ X e z) (m (rs ++ List.replicate (n - rs.length) .unk)) fun fl r => ∃ rv z, backA rs r = some z ∧ (fl = .rt rv ∨ (fl = .nx ∧ rv = .v .none)) ∧ kk rv z) : Po X (fnOf n m rs) kk := by
  unfold fnOf backR flRv
  cases hm : m (rs ++ List.replicate (n - rs.length) .unk) with
  | ok fl r =>
    rw [hm] at h
    obtain ⟨rv, z, hz, hfl, hk⟩ := h
    rcases hfl with rfl | ⟨rfl, rfl⟩
    · simp only [hz]
      exact hk
    · simp only [hz]
      exact hk
  | ex e r =>
    rw [hm] at h
    obtain ⟨z, hz, hk⟩ := h
    simp only [hz]
    exact hk
  | no =>
    rw [hm] at h
    exact h.elim
@[simp] theorem backA_nil (r : En) : backA [] r = some [] := rfl
@[simp] theorem backA_io (c c' : Ct) (s : List Sl) (r : En) : backA (.io c :: s) (.io c' :: r) = (backA s r).map fun z => .io c' :: z := rfl
@[simp] theorem backA_v (d : D) (s : List Sl) (q : Sl) (r : En) : backA (.v d :: s) (q :: r) = (backA s r).map fun z => .v d :: z := rfl
/-! loops -/
theorem qo_for {kk : Fl → En → Prop} {tg : Tg} {b : M Fl} (I : List D → List D → En → Prop) : ∀ (xs done : List D) (r : En), I done xs r →
    (∀ done x xs r, I done (x :: xs) r → ∃ r1, tg x r = some r1 ∧ Po X (b r1) fun fl r2 => (match fl with
      | .nx => I (done ++ [x]) xs r2
      | .ct => I (done ++ [x]) xs r2
      | .bk => kk .nx r2
      | .rt v => kk (.rt v) r2)) → (∀ done r, I done [] r → kk .nx r) → Po X (forL tg b xs r) kk
  | [], done, r, h0, hs, he => he done r h0
  | x :: xs, done, r, h0, hs, he => by
    obtain ⟨r1, h1, h2⟩ := hs done x xs r h0
    unfold forL
    rw [h1]
    simp only
    cases hb : b r1 with
    | no =>
      rw [hb] at h2
      exact h2.elim
    | ex e r2 =>
      rw [hb] at h2
      exact h2
    | ok fl r2 =>
      rw [hb] at h2
      cases fl with
      | nx => exact qo_for I xs (done ++ [x]) r2 h2 hs he
      | ct => exact qo_for I xs (done ++ [x]) r2 h2 hs he
      | bk => exact h2
      | rt v => exact h2
/-- over a list of things told as data -/
theorem qo_forM {γ : Type} {kk : Fl → En → Prop} {tg : Tg} {b : M Fl} {f : γ → D} (I : List γ → En → Prop) (xs : List γ) (r : En) (h0 : I [] r)
    (hs : ∀ done x rest r, xs = done ++ x :: rest → I done r → ∃ r1, tg (f x) r = some r1 ∧ Po X (b r1) fun fl r2 => (match fl with
      | .nx => I (done ++ [x]) r2
      | .ct => I (done ++ [x]) r2
      | .bk => kk .nx r2
      | .rt v => kk (.rt v) r2)) (he : ∀ r, I xs r → kk .nx r) : Po X (forL tg b (xs.map f) r) kk := by
  refine qo_for (fun d1 rest r => ∃ done xs2, xs = done ++ xs2 ∧ rest = xs2.map f ∧ I done r) _ [] r ⟨[], xs, rfl, rfl, h0⟩ ?_ ?_
  · rintro d1 x rest r ⟨done, xs2, e1, e2, hI⟩
    cases xs2 with
    | nil => cases e2
    | cons y ys =>
      cases e2
      obtain ⟨r1, h1, h2⟩ := hs done y ys r e1 hI
      refine ⟨r1, h1, qo_mono h2 fun fl r2 q => ?_⟩
      have e3 : xs = (done ++ [y]) ++ ys := by rw [e1]; simp
      cases fl with
      | nx => exact ⟨_, ys, e3, rfl, q⟩
      | ct => exact ⟨_, ys, e3, rfl, q⟩
      | bk => exact q
      | rt v => exact q
  · rintro d1 r ⟨done, xs2, e1, e2, hI⟩
    cases xs2 with
    | nil =>
      rw [List.append_nil] at e1
      subst e1
      exact he r hI
    | cons y ys => cases e2
/-- .. with no way out but the end -/
theorem qo_forN {γ : Type} {kk : Fl → En → Prop} {tg : Tg} {b : M Fl} {f : γ → D} (I : List γ → En → Prop) (xs : List γ) (r : En) (h0 : I [] r)
    (hs : ∀ done x rest r, xs = done ++ x :: rest → I done r → ∃ r1, tg (f x) r = some r1 ∧ Po X (b r1) fun fl r2 => fl = .nx ∧ I (done ++ [x]) r2) (he : ∀ r, I xs r → kk .nx r) : Po X (forL tg b (xs.map f) r) kk :=
  qo_forM I xs r h0 (fun done x rest r e h => by
    obtain ⟨r1, h1, h2⟩ := hs done x rest r e h
    refine ⟨r1, h1, qo_mono h2 fun fl r2 q => ?_⟩
    obtain ⟨rfl, q⟩ := q
    exact q) he
/-- range(n): the invariant by the number of turns -/
theorem qo_rng {kk : Fl → En → Prop} {tg : Tg} {b : M Fl} {lo : Int} (I : Nat → En → Prop) (n : Nat) (r : En) (h0 : I 0 r)
    (hs : ∀ i r, i < n → I i r → ∃ r1, tg (.int (lo + (i : Nat))) r = some r1 ∧ Po X (b r1) fun fl r2 => (match fl with
      | .nx => I (i + 1) r2
      | .ct => I (i + 1) r2
      | .bk => kk .nx r2
      | .rt v => kk (.rt v) r2)) (he : ∀ r, I n r → kk .nx r) : Po X (forL tg b (rngD lo n) r) kk := by
  refine qo_forM (f := fun k : Nat => PyData.int (lo + (k : Nat))) (fun done r => I done.length r) (List.range n) r h0 ?_ ?_
  · intro done x rest r e hI
    have hl : (List.range n).length = (done ++ x :: rest).length := by rw [e]
    rw [List.length_range, List.length_append, List.length_cons] at hl
    have hx : x = done.length := by
      have h1 : (List.range n)[done.length]? = some x := by rw [e]; simp
      rw [List.getElem?_range (by omega)] at h1
      cases h1
      rfl
    subst hx
    obtain ⟨r1, h1, h2⟩ := hs done.length r (by omega) hI
    refine ⟨r1, h1, qo_mono h2 fun fl r2 q => ?_⟩
    rw [List.length_append, List.length_singleton]
    exact q
  · intro r h
    rw [List.length_range] at h
    exact he r h
@[simp] theorem sFor_ap (src : M (List D)) (tg : Tg) (b : M Fl) (r : En) : sFor src tg b r = (src r).bind fun xs r => forL tg b xs r := rfl
theorem qo_while {kk : Fl → En → Prop} {t : M Bool} {b : M Fl} (I : Nat → En → Prop)
    (hs : ∀ n r, I n r → Po X (t r) fun x r1 => if x = true then Po X (b r1) fun fl r2 => (match fl with
      | .nx => ∃ m, m < n ∧ I m r2
      | .ct => ∃ m, m < n ∧ I m r2
      | .bk => kk .nx r2
      | .rt v => kk (.rt v) r2) else kk .nx r1) (n : Nat) (r : En) (h0 : I n r) : Po X (sWhile t b r) kk := by
  have key : ∀ n r, I n r → ∃ f, Po X (wloop t b f r) kk := by
    intro n
    induction n using Nat.strongRecOn with
    | ind n ih =>
      intro r h
      have h1 := hs n r h
      cases ht : t r with
      | no =>
        rw [ht] at h1
        exact h1.elim
      | ex e r1 =>
        rw [ht] at h1
        refine ⟨1, ?_⟩
        unfold wloop
        rw [ht]
        exact h1
      | ok x r1 =>
        rw [ht] at h1
        cases x with
        | false =>
          refine ⟨1, ?_⟩
          unfold wloop
          rw [ht]
          exact h1
        | true =>
          have h2 : Po X (b r1) fun fl r2 => (match fl with
            | .nx => ∃ m, m < n ∧ I m r2
            | .ct => ∃ m, m < n ∧ I m r2
            | .bk => kk .nx r2
            | .rt v => kk (.rt v) r2) := h1
          cases hb : b r1 with
          | no =>
            rw [hb] at h2
            exact h2.elim
          | ex e r2 =>
            rw [hb] at h2
            refine ⟨1, ?_⟩
            unfold wloop
            rw [ht]
            simp only [hb]
            exact h2
          | ok fl r2 =>
            rw [hb] at h2
            cases fl with
            | nx =>
              obtain ⟨m, hm, h3⟩ := h2
              obtain ⟨f, hf⟩ := ih m hm r2 h3
              refine ⟨f + 1, ?_⟩
              unfold wloop
              rw [ht]
              simp only [hb]
              exact hf
            | ct =>
              obtain ⟨m, hm, h3⟩ := h2
              obtain ⟨f, hf⟩ := ih m hm r2 h3
              refine ⟨f + 1, ?_⟩
              unfold wloop
              rw [ht]
              simp only [hb]
              exact hf
            | bk =>
              refine ⟨1, ?_⟩
              unfold wloop
              rw [ht]
              simp only [hb]
              exact h2
            | rt v =>
              refine ⟨1, ?_⟩
              unfold wloop
              rw [ht]
              simp only [hb]
              exact h2
  obtain ⟨f, hf⟩ := key n r h0
  have hn : wloop t b f r ≠ .no := fun z => by
    rw [z] at hf
    exact hf
  rw [sWhile_of (n := f) rfl hn]
  exact hf
/-! the same, with what comes behind hidden -/
theorem qo_step {kk : Fl → En → Prop} {m n : M Fl} {r : En} (h : ∀ K : Fl → En → Prop, (∀ r', Po X (n r') kk → K .nx r') → (∀ v r', kk (.rt v) r' → K (.rt v) r') → (∀ r', kk .bk r' → K .bk r') → (∀ r', kk .ct r' → K .ct r') → Po X (m r) K) : Po X (sSeq m n r) kk := by
  rw [qo_seq]
  exact h _ (fun _ q => q) (fun _ _ q => q) (fun _ q => q) fun _ q => q
theorem qo_fnK {kk : RV → List Sl → Prop} {n : Nat} {m : M Fl} {rs : List Sl} (h : ∀ (Y : Exn → En → Prop) (K : Fl → En → Prop), (∀ e r z, backA rs r = some z → X e z → Y e r) → (∀ v r z, backA rs r = some z → kk v z → K (.rt v) r) → (∀ r z, backA rs r = some z → kk (.v .none) z → K .nx r) → Po Y (m (rs ++ List.replicate (n - rs.length) .unk)) K) : Po X (fnOf n m rs) kk :=
  qo_fn (h _ _ (fun _ _ z hz q => ⟨z, hz, q⟩) (fun v _ z hz q => ⟨v, z, hz, .inl rfl, q⟩) fun _ z hz q => ⟨_, z, hz, .inr ⟨rfl, rfl⟩, q⟩)
theorem qo_forK {γ : Type} {kk : Fl → En → Prop} {tg : Tg} {b : M Fl} {f : γ → D} (I : List γ → En → Prop) (xs : List γ) (r : En) (h0 : I [] r)
    (hs : ∀ done x rest r, xs = done ++ x :: rest → I done r → ∃ r1, tg (f x) r = some r1 ∧ ∀ K : Fl → En → Prop, (∀ r2, I (done ++ [x]) r2 → K .nx r2) → (∀ v r2, kk (.rt v) r2 → K (.rt v) r2) → (∀ r2, I (done ++ [x]) r2 → K .ct r2) → (∀ r2, kk .nx r2 → K .bk r2) → Po X (b r1) K) (he : ∀ r, I xs r → kk .nx r) : Po X (forL tg b (xs.map f) r) kk :=
  qo_forM I xs r h0 (fun done x rest r e h => by
    obtain ⟨r1, h1, h2⟩ := hs done x rest r e h
    exact ⟨r1, h1, h2 _ (fun _ q => q) (fun _ _ q => q) (fun _ q => q) fun _ q => q⟩) he
theorem qo_rngK {kk : Fl → En → Prop} {tg : Tg} {b : M Fl} {lo : Int} (I : Nat → En → Prop) (n : Nat) (r : En) (h0 : I 0 r)
    (hs : ∀ i r, i < n → I i r → ∃ r1, tg (.int (lo + (i : Nat))) r = some r1 ∧ ∀ K : Fl → En → Prop, (∀ r2, I (i + 1) r2 → K .nx r2) → (∀ v r2, kk (.rt v) r2 → K (.rt v) r2) → (∀ r2, I (i + 1) r2 → K .ct r2) → (∀ r2, kk .nx r2 → K .bk r2) → Po X (b r1) K) (he : ∀ r, I n r → kk .nx r) : Po X (forL tg b (rngD lo n) r) kk :=
  qo_rng I n r h0 (fun i r hi h => by
    obtain ⟨r1, h1, h2⟩ := hs i r hi h
    exact ⟨r1, h1, h2 _ (fun _ q => q) (fun _ _ q => q) (fun _ q => q) fun _ q => q⟩) he
@[simp] theorem oDict0_ap (r : En) : oDict0 r = .ok (.o (.d [])) r := rfl
@[simp] theorem zipOf_T (a b : List Int) : zipOf [.tuple (a.map .int), .tuple (b.map .int)] = some ((List.zip a b).map fun p => .tuple [.int p.1, .int p.2]) := by
  show some (zipD (a.map .int) (b.map .int)) = _
  unfold zipD
  rw [List.zipWith_map, List.map_zip_eq_zipWith]
  rfl
theorem ixN_nat {n i : Nat} (h : i < n) : ixN n (i : Int) = some i := by
  unfold ixN
  rw [if_pos (by omega), if_pos (by omega), Int.toNat_natCast]
@[simp] theorem isD_bb (a b : Bool) : isD (.bool a) (.bool b) = some (.bool (decide (a = b))) := rfl
@[simp] theorem isntD_bb (a b : Bool) : isntD (.bool a) (.bool b) = some (.bool (!decide (a = b))) := rfl
@[simp] theorem boolD_i (i : Int) : boolD (.int i) = some (.bool (i != 0)) := rfl
@[simp] theorem boolD_b (b : Bool) : boolD (.bool b) = some (.bool b) := rfl
@[simp] theorem strD_s (x : Str) : strD (.str x) = some (.str x) := rfl
theorem strD_i (i : Int) (h : i.natAbs.log2 < 1920) : strD (.int i) = some (.str (toString i)) := by
  show cI (i.natAbs.log2 < 1920) (some (PyData.str (toString i))) none = _
  rw [cI_eq, if_pos h]
theorem inD_l (d : D) (ds : List D) (h : SeqAt.shaped d = true ∧ SeqAt.shaped (.list ds) = true) : inD d (.list ds) = some (.bool (ds.any fun z => PyData.eqv z d)) := by
  show cI (SeqAt.shaped d = true ∧ SeqAt.shaped (.list ds) = true) (some (PyData.bool (ds.any fun z => PyData.eqv z d))) none = _
  rw [cI_eq, if_pos h]
theorem ninD_l (d : D) (ds : List D) (h : SeqAt.shaped d = true ∧ SeqAt.shaped (.list ds) = true) : ninD d (.list ds) = some (.bool (!ds.any fun z => PyData.eqv z d)) := by
  show cI (SeqAt.shaped d = true ∧ SeqAt.shaped (.list ds) = true) (some (PyData.bool (!ds.any fun z => PyData.eqv z d))) none = _
  rw [cI_eq, if_pos h]
@[simp] theorem eIndex_ap (mo me : M D) (r : En) : eIndex mo me r = (mo r).bind fun d r => (match d with
  | .list ds => (me r).bind fun b r => M.opt (indexD (.list ds) b) r
  | _ => .no) := by
  show (mo r).bind (fun d => (match d with
  | .list ds => me.bind fun b => M.opt (indexD (.list ds) b)
  | _ => M.no)) = _
  congr 1
  funext d r
  cases d <;> rfl
theorem indexD_l (ds : List D) (d : D) (h : SeqAt.shaped d = true ∧ SeqAt.shaped (.list ds) = true) : indexD (.list ds) d = (ds.findIdx? fun z => PyData.eqv z d).map fun j => .int (j : Nat) := by
  show cI (SeqAt.shaped d = true ∧ SeqAt.shaped (.list ds) = true) ((ds.findIdx? fun z => PyData.eqv z d).map fun j => PyData.int (j : Nat)) none = _
  rw [cI_eq, if_pos h]
@[simp] theorem ePop_ap (i : Nat) (m : M D) (r : En) : ePop i m r = (match getC i r with
  | some (.l _) => (m r).bind fun d r => match getC i r with
    | some (.l ds) => (match popD ds d with
      | some p => .ok p.1 (putC i (.l p.2) r)
      | none => .no)
    | _ => .no
  | _ => .no) := rfl
theorem popD_n (ds : List D) (n : Nat) (y : D) (h : n < 2 ^ 63) (e : ds[n]? = some y) : popD ds (.int n) = some (y, ds.eraseIdx n) := by
  show cI (0 ≤ (n : Int) ∧ (n : Int) < 2 ^ 63) ((ds[(n : Int).toNat]?).map fun y => (y, ds.eraseIdx (n : Int).toNat)) none = _
  rw [cI_eq, if_pos (by omega), Int.toNat_natCast, e]
  rfl
@[simp] theorem isi_bi (b : Bool) : isiD "int" (.bool b) = some (.bool true) := by kernel_rfl
@[simp] theorem isi_bb (b : Bool) : isiD "bool" (.bool b) = some (.bool true) := by kernel_rfl
@[simp] theorem isi_bt (b : Bool) : isiD "tuple" (.bool b) = some (.bool false) := by kernel_rfl
@[simp] theorem isi_bs (b : Bool) : isiD "str" (.bool b) = some (.bool false) := by kernel_rfl
@[simp] theorem isi_ni : isiD "int" .none = some (.bool false) := by kernel_rfl
@[simp] theorem isi_nb : isiD "bool" .none = some (.bool false) := by kernel_rfl
@[simp] theorem isi_nt : isiD "tuple" .none = some (.bool false) := by kernel_rfl
@[simp] theorem isi_ns : isiD "str" .none = some (.bool false) := by kernel_rfl
@[simp] theorem isi_nl : isiD "list" .none = some (.bool false) := by kernel_rfl
@[simp] theorem isi_si (x : Str) : isiD "int" (.str x) = some (.bool false) := by kernel_rfl
@[simp] theorem isi_sb (x : Str) : isiD "bool" (.str x) = some (.bool false) := by kernel_rfl
@[simp] theorem isi_st (x : Str) : isiD "tuple" (.str x) = some (.bool false) := by kernel_rfl
@[simp] theorem isi_ss (x : Str) : isiD "str" (.str x) = some (.bool true) := by kernel_rfl
@[simp] theorem isi_sl (x : Str) : isiD "list" (.str x) = some (.bool false) := by kernel_rfl
@[simp] theorem isi_is (i : Int) : isiD "str" (.int i) = some (.bool false) := by kernel_rfl
@[simp] theorem isi_il (i : Int) : isiD "list" (.int i) = some (.bool false) := by kernel_rfl
@[simp] theorem isi_li (ds : List D) : isiD "int" (.list ds) = some (.bool false) := by kernel_rfl
@[simp] theorem isi_lb (ds : List D) : isiD "bool" (.list ds) = some (.bool false) := by kernel_rfl
@[simp] theorem isi_lt (ds : List D) : isiD "tuple" (.list ds) = some (.bool false) := by kernel_rfl
@[simp] theorem isi_ls (ds : List D) : isiD "str" (.list ds) = some (.bool false) := by kernel_rfl
@[simp] theorem isi_ti (ds : List D) : isiD "int" (.tuple ds) = some (.bool false) := by kernel_rfl
@[simp] theorem isi_tb (ds : List D) : isiD "bool" (.tuple ds) = some (.bool false) := by kernel_rfl
@[simp] theorem isi_ts (ds : List D) : isiD "str" (.tuple ds) = some (.bool false) := by kernel_rfl
@[simp] theorem isi_tl (ds : List D) : isiD "list" (.tuple ds) = some (.bool false) := by kernel_rfl
@[simp] theorem isi_di (ds : List (D × D)) : isiD "int" (.dict ds) = some (.bool false) := by cases ds <;> kernel_rfl
@[simp] theorem isi_db (ds : List (D × D)) : isiD "bool" (.dict ds) = some (.bool false) := by cases ds <;> kernel_rfl
@[simp] theorem isi_dt (ds : List (D × D)) : isiD "tuple" (.dict ds) = some (.bool false) := by cases ds <;> kernel_rfl
@[simp] theorem isi_ds (ds : List (D × D)) : isiD "str" (.dict ds) = some (.bool false) := by cases ds <;> kernel_rfl
@[simp] theorem isi_dl (ds : List (D × D)) : isiD "list" (.dict ds) = some (.bool false) := by cases ds <;> kernel_rfl
/-! comprehensions -/
@[simp] theorem qo_comp {kk : RV → En → Prop} (src : M (List D)) (is : List Nat) (tg : Tg) (tt : M Bool) (te : M D) (r : En) : Po X (oComp src is tg tt te r) kk = Po X (src r) fun xs r => noOwn r is = true ∧ Po (fun _ _ => False) (compL is tg tt te xs [] r) fun ys q => kk (.o (.l ys)) (backE r (wipeE q is) is) := by
  show Po X ((src r).bind _) kk = _
  rw [qo_bind]
  congr 1
  funext xs r
  by_cases h : noOwn r is = true
  · rw [if_pos h]
    cases compL is tg tt te xs [] r with
    | ok ys q => simp [h]
    | ex e q => simp
    | no => simp
  · rw [if_neg h]
    simp [h]
@[simp] theorem compL_nil (is : List Nat) (tg : Tg) (tt : M Bool) (te : M D) (acc : List D) (r : En) : compL is tg tt te [] acc r = .ok acc r := rfl
theorem qo_compL {kl : List D → En → Prop} (is : List Nat) (tg : Tg) (tt : M Bool) (te : M D) (x : D) (xs acc : List D) (r : En) : Po (fun _ _ => False) (compL is tg tt te (x :: xs) acc r) kl = (match tg x (wipeE r is) with
  | none => False
  | some r1 => Po (fun _ _ => False) (tt r1) fun b r2 => if b = true then Po (fun _ _ => False) (te r2) fun y r3 => acc.length < 16777216 ∧ Po (fun _ _ => False) (compL is tg tt te xs (acc ++ [y]) r3) kl else Po (fun _ _ => False) (compL is tg tt te xs acc r2) kl) := by
  show Po _ (match tg x (wipeE r is) with
    | none => .no
    | some r1 => match tt r1 with
      | .ok true r2 => (match te r2 with
        | .ok y r3 => if acc.length < 16777216 then compL is tg tt te xs (acc ++ [y]) r3 else .no
        | _ => .no)
      | .ok false r2 => compL is tg tt te xs acc r2
      | _ => .no) kl = _
  cases tg x (wipeE r is) with
  | none => rfl
  | some r1 =>
    simp only
    cases tt r1 with
    | no => rfl
    | ex e r2 => rfl
    | ok b r2 =>
      cases b with
      | false => rfl
      | true =>
        simp only [qo_ok, if_true]
        cases te r2 with
        | no => rfl
        | ex e r3 => rfl
        | ok y r3 =>
          simp only [qo_ok]
          by_cases h : acc.length < 16777216
          · rw [if_pos h]
            simp [h]
          · rw [if_neg h]
            simp [h]
@[simp] theorem yes_ap (r : En) : yes r = .ok true r := rfl
/-- each thing to one datum, nothing else changed -/
theorem qo_compM {γ : Type} {kl : List D → En → Prop} {is : List Nat} {tg : Tg} {te : M D} {f : γ → D} {g : γ → D} (J : En → Prop) : ∀ (xs : List γ) (acc : List D) (r : En), J r → acc.length + xs.length ≤ 16777216 →
    (∀ x ∈ xs, ∀ r, J r → ∃ r1, tg (f x) (wipeE r is) = some r1 ∧ Po (fun _ _ => False) (te r1) fun y r3 => y = g x ∧ J r3) → (∀ r, J r → kl (acc ++ xs.map g) r) → Po (fun _ _ => False) (compL is tg yes te (xs.map f) acc r) kl
  | [], acc, r, hJ, _, _, he => by
    have := he r hJ
    rw [List.map_nil, List.append_nil] at this
    exact this
  | x :: xs, acc, r, hJ, hl, hs, he => by
    rw [List.map_cons, qo_compL]
    obtain ⟨r1, h1, h2⟩ := hs x (List.mem_cons_self ..) r hJ
    rw [h1]
    simp only [yes_ap, qo_ok, if_true]
    refine qo_mono h2 ?_
    rintro y r3 ⟨rfl, hJ3⟩
    rw [List.length_cons] at hl
    refine ⟨by omega, qo_compM J xs (acc ++ [g x]) r3 hJ3 (by rw [List.length_append, List.length_singleton]; omega) (fun z hz => hs z (List.mem_cons_of_mem _ hz)) fun r hr => ?_⟩
    have := he r hr
    rw [List.map_cons] at this
    rw [List.append_assoc]
    exact this
/-- with an invariant over what is gathered -/
theorem qo_compI {γ : Type} {kl : List D → En → Prop} {is : List Nat} {tg : Tg} {te : M D} {f : γ → D} (J : List D → En → Prop) : ∀ (xs : List γ) (acc : List D) (r : En), J acc r →
    (∀ x ∈ xs, ∀ acc r, J acc r → ∃ r1, tg (f x) (wipeE r is) = some r1 ∧ Po (fun _ _ => False) (te r1) fun y r3 => acc.length < 16777216 ∧ J (acc ++ [y]) r3) → (∀ acc2 r, acc2.length = acc.length + xs.length → J acc2 r → kl acc2 r) → Po (fun _ _ => False) (compL is tg yes te (xs.map f) acc r) kl
  | [], acc, r, hJ, _, he => he acc r rfl hJ
  | x :: xs, acc, r, hJ, hs, he => by
    rw [List.map_cons, qo_compL]
    obtain ⟨r1, h1, h2⟩ := hs x (List.mem_cons_self ..) acc r hJ
    rw [h1]
    simp only [yes_ap, qo_ok, if_true]
    refine qo_mono h2 ?_
    rintro y r3 ⟨hl, hJ3⟩
    refine ⟨hl, qo_compI J xs (acc ++ [y]) r3 hJ3 (fun z hz => hs z (List.mem_cons_of_mem _ hz)) fun acc2 r hl2 hr => he acc2 r ?_ hr⟩
    rw [hl2, List.length_append, List.length_singleton, List.length_cons]
    omega
/-- .. gathered so far as many as are gone through -/
theorem qo_compC {γ : Type} {kl : List D → En → Prop} {is : List Nat} {tg : Tg} {te : M D} {f : γ → D} (J : List D → En → Prop) (xs : List γ) (r : En) (hJ : J [] r) (hl : xs.length ≤ 16777216)
    (hs : ∀ x acc r, xs[acc.length]? = some x → J acc r → ∃ r1, tg (f x) (wipeE r is) = some r1 ∧ ∀ K : D → En → Prop, (∀ y r3, J (acc ++ [y]) r3 → K y r3) → Po (fun _ _ => False) (te r1) K) (he : ∀ acc r, acc.length = xs.length → J acc r → kl acc r) : Po (fun _ _ => False) (compL is tg yes te (xs.map f) [] r) kl := by
  have key : ∀ (rest done : List γ) (acc : List D) (r : En), xs = done ++ rest → acc.length = done.length → J acc r → Po (fun _ _ => False) (compL is tg yes te (rest.map f) acc r) kl := by
    intro rest
    induction rest with
    | nil =>
      intro done acc r e hl h
      rw [List.append_nil] at e
      exact he acc r (by rw [hl, e]) h
    | cons x rest ih =>
      intro done acc r e hl2 h
      rw [List.map_cons, qo_compL]
      obtain ⟨r1, h1, h2⟩ := hs x acc r (by rw [e, hl2]; simp) h
      rw [h1]
      simp only [yes_ap, qo_ok, if_true]
      refine h2 _ ?_
      intro y r3 hJ3
      have hlen : xs.length = done.length + (rest.length + 1) := by rw [e, List.length_append, List.length_cons]
      exact ⟨by omega, ih (done ++ [x]) (acc ++ [y]) r3 (by rw [e]; simp) (by simp [hl2]) hJ3⟩
  exact key xs [] [] r rfl rfl hJ
/-- with a test -/
theorem qo_compF {γ : Type} {kl : List D → En → Prop} {is : List Nat} {tg : Tg} {tt : M Bool} {te : M D} {f : γ → D} {g : γ → D} {p : γ → Bool} (J : En → Prop) : ∀ (xs : List γ) (acc : List D) (r : En), J r → acc.length + xs.length ≤ 16777216 →
    (∀ x ∈ xs, ∀ r, J r → ∃ r1, tg (f x) (wipeE r is) = some r1 ∧ Po (fun _ _ => False) (tt r1) fun b r2 => b = p x ∧ (p x = false → J r2) ∧ (p x = true → Po (fun _ _ => False) (te r2) fun y r3 => y = g x ∧ J r3)) → (∀ r, J r → kl (acc ++ (xs.filter p).map g) r) → Po (fun _ _ => False) (compL is tg tt te (xs.map f) acc r) kl
  | [], acc, r, hJ, _, _, he => by
    have := he r hJ
    rw [List.filter_nil, List.map_nil, List.append_nil] at this
    exact this
  | x :: xs, acc, r, hJ, hl, hs, he => by
    rw [List.map_cons, qo_compL]
    obtain ⟨r1, h1, h2⟩ := hs x (List.mem_cons_self ..) r hJ
    rw [h1]
    simp only
    rw [List.length_cons] at hl
    refine qo_mono h2 ?_
    rintro b r2 ⟨rfl, h3, h4⟩
    cases hp : p x with
    | false =>
      rw [if_neg Bool.false_ne_true]
      refine qo_compF J xs acc r2 (h3 hp) (by omega) (fun z hz => hs z (List.mem_cons_of_mem _ hz)) fun r hr => ?_
      have := he r hr
      rw [List.filter_cons_of_neg (by rw [hp]; exact Bool.false_ne_true)] at this
      exact this
    | true =>
      rw [if_pos rfl]
      refine qo_mono (h4 hp) ?_
      rintro y r3 ⟨rfl, hJ3⟩
      refine ⟨by omega, qo_compF J xs (acc ++ [g x]) r3 hJ3 (by rw [List.length_append, List.length_singleton]; omega) (fun z hz => hs z (List.mem_cons_of_mem _ hz)) fun r hr => ?_⟩
      have := he r hr
      rw [List.filter_cons_of_pos hp, List.map_cons] at this
      rw [List.append_assoc]
      exact this
theorem qo_compMD {kl : List D → En → Prop} {is : List Nat} {tg : Tg} {te : M D} {g : D → D} (J : En → Prop) (xs : List D) (r : En) (hJ : J r) (hl : xs.length ≤ 16777216) (hs : ∀ x ∈ xs, ∀ r, J r → ∃ r1, tg x (wipeE r is) = some r1 ∧ Po (fun _ _ => False) (te r1) fun y r3 => y = g x ∧ J r3) (he : ∀ r, J r → kl (xs.map g) r) : Po (fun _ _ => False) (compL is tg yes te xs [] r) kl := by
  have h := qo_compM (kl := kl) (is := is) (tg := tg) (te := te) (f := fun d : D => d) (g := g) J xs [] r hJ (by simpa using hl) hs (by simpa using he)
  rwa [List.map_id''] at h
  exact fun _ => rfl
theorem qo_compFD {kl : List D → En → Prop} {is : List Nat} {tg : Tg} {tt : M Bool} {te : M D} {g : D → D} {p : D → Bool} (J : En → Prop) (xs : List D) (r : En) (hJ : J r) (hl : xs.length ≤ 16777216) (hs : ∀ x ∈ xs, ∀ r, J r → ∃ r1, tg x (wipeE r is) = some r1 ∧ Po (fun _ _ => False) (tt r1) fun b r2 => b = p x ∧ (p x = false → J r2) ∧ (p x = true → Po (fun _ _ => False) (te r2) fun y r3 => y = g x ∧ J r3)) (he : ∀ r, J r → kl ((xs.filter p).map g) r) : Po (fun _ _ => False) (compL is tg tt te xs [] r) kl := by
  have h := qo_compF (kl := kl) (is := is) (tg := tg) (tt := tt) (te := te) (f := fun d : D => d) (g := g) (p := p) J xs [] r hJ (by simpa using hl) hs (by simpa using he)
  rwa [List.map_id''] at h
  exact fun _ => rfl
theorem qo_forD {kk : Fl → En → Prop} {tg : Tg} {b : M Fl} (I : List D → En → Prop) (xs : List D) (r : En) (h0 : I [] r)
    (hs : ∀ done x rest r, xs = done ++ x :: rest → I done r → ∃ r1, tg x r = some r1 ∧ ∀ K : Fl → En → Prop, (∀ r2, I (done ++ [x]) r2 → K .nx r2) → (∀ v r2, kk (.rt v) r2 → K (.rt v) r2) → (∀ r2, I (done ++ [x]) r2 → K .ct r2) → (∀ r2, kk .nx r2 → K .bk r2) → Po X (b r1) K) (he : ∀ r, I xs r → kk .nx r) : Po X (forL tg b xs r) kk := by
  have h := qo_forK (X := X) (kk := kk) (tg := tg) (b := b) (f := fun d : D => d) I xs r h0 hs he
  rwa [List.map_id''] at h
  exact fun _ => rfl
@[simp] theorem wipe_nil (r : En) : wipeE r [] = r := rfl
@[simp] theorem wipe_cons (r : En) (i : Nat) (is : List Nat) : wipeE r (i :: is) = (wipeE r is).set i .unk := rfl
@[simp] theorem back_nil (r q : En) : backE r q [] = q := rfl
@[simp] theorem back_cons (r q : En) (i : Nat) (is : List Nat) : backE r q (i :: is) = (backE r q is).set i (r.getD i .unk) := rfl
@[simp] theorem noOwn_nil (r : En) : noOwn r [] = true := rfl
@[simp] theorem noOwn_cons (r : En) (i : Nat) (is : List Nat) : noOwn r (i :: is) = ((match r[i]? with
  | some s => s.own.isNone
  | none => false) && noOwn r is) := rfl
@[simp] theorem allD_b (ds : List D) : allD (.list ds) = (boolsOf ds).map fun bs => .bool (bs.all id) := rfl
@[simp] theorem anyD_b (ds : List D) : anyD (.list ds) = (boolsOf ds).map fun bs => .bool (bs.any id) := rfl
@[simp] theorem boolsOf_nil : boolsOf [] = some [] := rfl
@[simp] theorem boolsOf_cons (b : Bool) (ds : List D) : boolsOf (.bool b :: ds) = (boolsOf ds).map (b :: ·) := rfl
@[simp] theorem boolsOf_map {γ : Type} (f : γ → Bool) : ∀ xs : List γ, boolsOf (xs.map fun x => .bool (f x)) = some (xs.map f)
  | [] => rfl
  | x :: xs => by
    rw [List.map_cons, boolsOf_cons, boolsOf_map f xs]
    rfl
/-! numbers -/
theorem mulOk_l {i j : Int} (h : -(2 ^ 63) < i ∧ i < 2 ^ 63) : mulOk i j := .inl (by omega)
theorem mulOk_r {i j : Int} (h : -(2 ^ 63) < j ∧ j < 2 ^ 63) : mulOk i j := .inr (.inl (by omega))
theorem log2_64 {n : Int} (h : -(2 ^ 63) < n ∧ n < 2 ^ 63) : n.natAbs.log2 < 9000 := by
  have : n.natAbs.log2 < 64 := PySem.Flt.log2_lt_of (by decide) (by omega)
  omega
theorem fmod_pos (a : Int) {n : Int} (h : 0 < n) : 0 ≤ a.fmod n ∧ a.fmod n < n := by
  rw [Int.fmod_eq_emod_of_nonneg _ (by omega)]
  exact ⟨Int.emod_nonneg _ (by omega), Int.emod_lt_of_pos _ h⟩
theorem fdiv_nn {a n : Int} (ha : 0 ≤ a) (h : 0 < n) : 0 ≤ a.fdiv n := by
  rw [Int.fdiv_eq_ediv_of_nonneg _ (by omega)]
  exact Int.ediv_nonneg ha (by omega)
theorem fmod_nat (x p : Nat) : (x : Int).fmod p = ((x % p : Nat) : Int) := by
  rw [Int.fmod_eq_emod_of_nonneg _ (by omega)]
  rfl
theorem fdiv_nat (x p : Nat) : (x : Int).fdiv p = ((x / p : Nat) : Int) := by
  rw [Int.fdiv_eq_ediv_of_nonneg _ (by omega)]
  rfl
theorem atI_all {α : Type} {P : α → Prop} {xs : List α} {n : Int} (h0 : 0 ≤ n) (h1 : n < xs.length) (h : ∀ x ∈ xs, P x) : ∃ c, atI xs n = some c ∧ P c := by
  unfold atI ixN
  rw [if_pos h0, if_pos h1]
  exact ⟨xs[n.toNat]'(by omega), by simp, h _ (List.getElem_mem _)⟩
theorem atI_nn {α : Type} {xs : List α} {n : Int} (h0 : 0 ≤ n) (h1 : n < xs.length) : ∃ c, atI xs n = some c ∧ xs[n.toNat]? = some c := by
  unfold atI ixN
  rw [if_pos h0, if_pos h1]
  exact ⟨xs[n.toNat]'(by omega), by simp, by simp⟩
@[simp] theorem mulOk_sl (i j : Int) (h1 : -(2 ^ 63) < i) (h2 : i < 2 ^ 63) : mulOk i j := mulOk_l ⟨h1, h2⟩
@[simp] theorem mulOk_sr (i j : Int) (h1 : -(2 ^ 63) < j) (h2 : j < 2 ^ 63) : mulOk i j := mulOk_r ⟨h1, h2⟩
@[simp] theorem mulOk_ml (x m j : Int) (h0 : 0 < m) (h1 : m < 2 ^ 63) : mulOk (x % m) j := by
  have a1 := Int.emod_nonneg x (show m ≠ 0 by omega)
  have a2 := Int.emod_lt_of_pos x h0
  exact mulOk_l ⟨by omega, by omega⟩
@[simp] theorem mulOk_mr (x m i : Int) (h0 : 0 < m) (h1 : m < 2 ^ 63) : mulOk i (x % m) := by
  have a1 := Int.emod_nonneg x (show m ≠ 0 by omega)
  have a2 := Int.emod_lt_of_pos x h0
  exact mulOk_r ⟨by omega, by omega⟩
@[simp] theorem log2_s (n : Nat) (h : n < 2 ^ 64) : n.log2 < 9000 := by
  have : n.log2 < 64 := PySem.Flt.log2_lt_of (by decide) h
  omega
@[simp] theorem abs_nn (c : Int) : 0 ≤ (if c < 0 then -c else c) := by split <;> omega
@[simp] theorem sInsert_ap (i : Nat) (mk m : M D) (r : En) : sInsert i mk m r = (match getC i r with
  | some (.l _) => (mk r).bind fun k r => (m r).bind fun d r => (match k, getC i r with
    | .int n, some (.l ds) => cI (ds.length < 16777216 ∧ 0 ≤ n ∧ n < 2 ^ 63) (.ok .nx (putC i (.l (ds.take n.toNat ++ [d] ++ ds.drop n.toNat)) r)) .no
    | _, _ => .no)
  | _ => .no) := rfl
@[simp] theorem qo_cI (p : Prop) (x : Re α) : Po X (cI p x .no) k = (p ∧ Po X x k) := by
  by_cases h : p
  · have : cI p x .no = x := by unfold cI; exact if_pos h
    rw [this]
    simp [h]
  · have : cI p x .no = .no := by unfold cI; exact if_neg h
    rw [this]
    simp [h]
theorem zip3D_map {γ δ ε : Type} (f : γ → D) (g : δ → D) (h : ε → D) : ∀ (xs : List γ) (ys : List δ) (zs : List ε), zip3D (xs.map f) (ys.map g) (zs.map h) = (List.zip xs (List.zip ys zs)).map fun p => .tuple [f p.1, g p.2.1, h p.2.2]
  | [], _, _ => rfl
  | _ :: _, [], _ => rfl
  | _ :: _, _ :: _, [] => rfl
  | x :: xs, y :: ys, z :: zs => by
    simp only [List.map_cons, zip3D, zip3D_map f g h xs ys zs, List.zip_cons_cons]
@[simp] theorem zip3Of_T (a b c : List Int) : zip3Of [.tuple (a.map .int), .tuple (b.map .int), .tuple (c.map .int)] = some ((List.zip a (List.zip b c)).map fun p => .tuple [.int p.1, .int p.2.1, .int p.2.2]) := congrArg some (zip3D_map _ _ _ a b c)
/-! exceptions -/
@[simp] theorem sRaiseF_ap (nm : Str) (fs : List Str) (ms : M (List D)) (r : En) : sRaiseF nm fs ms r = (ms r).bind fun ds r => if ds.length = fs.length then .ex ⟨nm, (fs.zip ds).reverse⟩ r else .no := rfl
@[simp] theorem sRaise_ap (nm : Str) (r : En) : sRaise nm r = .ex ⟨nm, []⟩ r := rfl
@[simp] theorem exOf_ap (nm : Str) : exOf ⟨nm, []⟩ = .dict [(.str nm, .none)] := rfl
@[simp] theorem isED_ap (ns : List Str) (y nm : Str) (kv : List (D × D)) : isED ns y (.dict ((.str nm, .none) :: kv)) = if nm ∈ ns then some (.bool (isB nm y)) else none := rfl
@[simp] theorem isEV_ap (ns : List Str) (nm : Str) (kv : List (D × D)) : isEV ns (.dict ((.str nm, .none) :: kv)) = if nm ∈ ns then some (.bool true) else none := rfl
@[simp] theorem isET_ap (ns ys : List Str) (nm : Str) (kv : List (D × D)) : isET ns ys (.dict ((.str nm, .none) :: kv)) = if nm ∈ ns then some (.bool (ys.any fun y => isB nm y)) else none := rfl
@[simp] theorem isntD_d (kv : List (D × D)) : isntD (.dict kv) .none = some (.bool true) := rfl
@[simp] theorem isD_d (kv : List (D × D)) : isD (.dict kv) .none = some (.bool false) := rfl
@[simp] theorem lamRes_rt (r r2 : En) (rv : RV) : lamRes r (.ok (.rt rv) r2) = .ok rv r := rfl
@[simp] theorem lamRes_nx (r r2 : En) : lamRes r (.ok .nx r2) = .ok (.v .none) r := rfl
@[simp] theorem hide_v (d : D) : hideS (.v d) = .v d := rfl
@[simp] theorem hide_u : hideS .unk = .unk := rfl
@[simp] theorem hide_o (c : Ct) : hideS (.o c) = .unk := rfl
@[simp] theorem hide_io (c : Ct) : hideS (.io c) = .unk := rfl
@[simp] theorem qo_lamR {kk : RV → En → Prop} (r : En) (m : Re Fl) : Po X (lamRes r m) kk = Po (fun _ _ => False) m fun fl _ => (match fl with
  | .rt rv => kk rv r
  | .nx => kk (.v .none) r
  | _ => False) := by
  cases m with
  | no => rfl
  | ex e r1 => rfl
  | ok fl r1 => cases fl <;> rfl
@[simp] theorem qo_lam {kk : RV → En → Prop} (ns : List Str) (n i : Nat) (br : M Fl) (th : M D) (r : En) : Po X (cLam ns n i br th r) kk = Po (fun e _ => e.name ∈ ns ∧ Po X (lamRes r (br ((List.replicate n Sl.unk).set i (.v (exOf e))))) kk) (th (r.map hideS)) fun _ _ => Po X (lamRes r (br ((List.replicate n Sl.unk).set i (.v .none)))) kk := by
  unfold cLam
  cases th (r.map hideS) with
  | ok fl r1 => rfl
  | no => rfl
  | ex e r1 =>
    show Po X (if e.name ∈ ns then _ else _) kk = (e.name ∈ ns ∧ _)
    by_cases h : e.name ∈ ns
    · rw [if_pos h]
      simp only [h, true_and]
    · rw [if_neg h]
      simp only [h, false_and]
      rfl
@[simp] theorem qo_try {kk : Fl → En → Prop} (ns : List Str) (j i : Nat) (mb : M Fl) (r : En) : Po X (sTry ns j i mb r) kk = Po (fun e r1 => e.name ∈ ns ∧ (match (setN j (.v (exOf e)) r1).bind (setN i (.v (exOf e))) with
  | some r2 => kk .nx (r2.set j .unk)
  | none => False)) (mb r) kk := by
  unfold sTry
  cases mb r with
  | ok fl r1 => rfl
  | no => rfl
  | ex e r1 =>
    show Po X (if e.name ∈ ns then _ else _) kk = (e.name ∈ ns ∧ _)
    by_cases h : e.name ∈ ns
    · rw [if_pos h]
      simp only [h, true_and]
      cases (setN j (.v (exOf e)) r1).bind (setN i (.v (exOf e))) <;> rfl
    · rw [if_neg h]
      simp [h]
theorem repr_pln {d : D} (h : pln d = true) (hd : d.depth ≤ 64) (hb : d.bulk ≤ 8000) : ∃ x, reprD d = some (.str x) := by
  cases d with
  | none => exact ⟨_, rfl⟩
  | bool b => exact ⟨_, rfl⟩
  | int i =>
    have h : i.natAbs < 2 ^ 1900 := of_decide_eq_true h
    have : i.natAbs.log2 < 1900 := PySem.Flt.log2_lt_of (by decide) h
    exact ⟨_, (cI_eq ..).trans (if_pos (by omega))⟩
  | str x =>
    have h := pln_len h hb
    exact ⟨_, (cI_eq ..).trans (if_pos h)⟩
  | list ds => exact ⟨_, repr_l h hd hb⟩
  | tuple ds => exact ⟨_, repr_t h hd hb⟩
  | dict kv => cases h
/-! the pen -/
def pen (cs : List Int) (a l : Int) : Ct := .d [(.inr "cells", .list (cs.map .int)), (.inr "at", .int a), (.inr "left", .int l)]
def penL (cs : List Int) (a l : Int) : List (Key × D) := [(.inr "cells", .list (cs.map .int)), (.inr "at", .int a), (.inr "left", .int l)]
theorem pen_eq (cs : List Int) (a l : Int) : pen cs a l = .d (penL cs a l) := rfl
@[simp] theorem pen_c (cs : List Int) (a l : Int) : vK (penL cs a l) (.inr "cells") = some (.list (cs.map .int)) := rfl
@[simp] theorem pen_a (cs : List Int) (a l : Int) : vK (penL cs a l) (.inr "at") = some (.int a) := rfl
@[simp] theorem pen_l (cs : List Int) (a l : Int) : vK (penL cs a l) (.inr "left") = some (.int l) := rfl
@[simp] theorem pen_pa (cs : List Int) (a l b : Int) : pK (penL cs a l) (.inr "at") (.int b) = penL cs b l := rfl
@[simp] theorem pen_pl (cs : List Int) (a l b : Int) : pK (penL cs a l) (.inr "left") (.int b) = penL cs a b := rfl
@[simp] theorem pen_len (cs : List Int) (a l : Int) : (penL cs a l).length = 3 := rfl
@[simp] theorem keyD_s (x : Str) : keyD (.str x) = some (.inr x) := rfl
@[simp] theorem keyD_i (x : Int) : keyD (.int x) = some (.inl x) := rfl
def cutG {γ : Type} (xs : List γ) (lo hi : Option Int) : List γ := (xs.drop (HT.sIx xs.length 0 lo)).take (HT.sIx xs.length xs.length hi - HT.sIx xs.length 0 lo)
theorem cutL_map {γ : Type} (f : γ → D) (xs : List γ) (lo hi : Option Int) : cutL (xs.map f) lo hi = (cutG xs lo hi).map f := by
  unfold cutL cutG
  rw [List.length_map, List.map_take, List.map_drop]
theorem pen_new (cs : List Int) (a l : Int) : Ct.d (pK (pK (pK [] (.inr "cells") (.list (cs.map .int))) (.inr "at") (.int a)) (.inr "left") (.int l)) = pen cs a l := rfl
/-- a pen over the cells cs, fit to be drawn from -/
def PenOk (cs : List Int) (c : Ct) : Prop := ∃ a l, c = pen cs a l ∧ 0 ≤ a ∧ 0 ≤ l
theorem PenOk.mk {cs : List Int} {a l : Int} (ha : 0 ≤ a) (hl : 0 ≤ l) : PenOk cs (.d (penL cs a l)) := ⟨a, l, rfl, ha, hl⟩
/-- .. with at most n draws from it -/
def PenB (cs : List Int) (n : Nat) (c : Ct) : Prop := ∃ a l, c = pen cs a l ∧ 0 ≤ a ∧ a ≤ n ∧ 0 ≤ l
theorem PenB.mk {cs : List Int} {n : Nat} {a l : Int} (ha : 0 ≤ a) (hn : a ≤ n) (hl : 0 ≤ l) : PenB cs n (.d (penL cs a l)) := ⟨a, l, rfl, ha, hn, hl⟩
theorem PenB.le {cs : List Int} {n m : Nat} {c : Ct} (h : PenB cs n c) (hm : n ≤ m) : PenB cs m c := by
  obtain ⟨a, l, h1, h2, h3, h4⟩ := h
  exact ⟨a, l, h1, h2, by omega, h4⟩
def DrB (cs : List Int) (b : Nat) (n : Int) (rv : RV) (z : List Sl) : Prop := ∃ k c t, rv = .v (.int k) ∧ 0 ≤ k ∧ k < n ∧ z = .io c :: t ∧ PenB cs (b + 1) c
/-- what a draw says -/
def Dr (cs : List Int) (n : Int) (rv : RV) (z : List Sl) : Prop := ∃ k c t, rv = .v (.int k) ∧ 0 ≤ k ∧ k < n ∧ z = .io c :: t ∧ PenOk cs c
theorem cutL_le (xs : List D) (lo hi : Option Int) : (cutL xs lo hi).length ≤ xs.length := by
  unfold cutL
  rw [List.length_take, List.length_drop]
  omega
theorem cutL_take (xs : List D) (k : Nat) : cutL xs none (some (k : Int)) = xs.take k := by
  unfold cutL
  rw [HT.sIx_none, HT.sIx_nat, List.drop_zero]
  rw [Nat.sub_zero]
  by_cases h : k ≤ xs.length
  · rw [Nat.min_eq_left h]
  · rw [Nat.min_eq_right (by omega), List.take_length, List.take_of_length_le (by omega)]
theorem cutL_drop (xs : List D) (k : Nat) : cutL xs (some (k : Int)) none = xs.drop k := by
  unfold cutL
  rw [HT.sIx_none, HT.sIx_nat]
  by_cases h : k ≤ xs.length
  · rw [Nat.min_eq_left h, List.take_of_length_le (by rw [List.length_drop]; exact Nat.le_refl _)]
  · rw [Nat.min_eq_right (by omega), List.drop_length, List.drop_of_length_le (by omega)]
    simp
theorem intsOf_mp : ∀ ns : List Int, intsOf (ns.map .int) = some ns
  | [] => rfl
  | k :: ks => by
    show (intsOf (ks.map .int)).map (k :: ·) = some (k :: ks)
    rw [intsOf_mp ks]
    rfl
theorem ssetD_l {ns : List Int} (h1 : ns.length < 1000) (h2 : (sset ns).length < 64) : ssetD (.list (ns.map .int)) = some ((sset ns).map .int) := by
  show (intsOf (ns.map PyData.int)).bind (fun ns => cI (ns.length < 1000 ∧ (sset ns).length < 64) (some ((sset ns).map PyData.int)) none) = _
  rw [intsOf_mp]
  show cI _ _ _ = _
  rw [cI_eq, if_pos ⟨h1, h2⟩]
theorem sortD_l (ns : List Int) : sortD [.list (ns.map .int)] = some ((isort ns).map .int) := by
  show (intsOf (ns.map PyData.int)).map (fun ns => (isort ns).map PyData.int) = _
  rw [intsOf_mp]
  rfl
/-! ### the same, shut to the elaborator's own reckoning -/
section
variable {α β : Type} {X : Exn → En → Prop} {k : α → En → Prop}
@[irreducible] def Wp {α : Type} (X : Exn → En → Prop) (x : Re α) (k : α → En → Prop) : Prop := Po X x k
theorem wp_eq {α : Type} {X : Exn → En → Prop} {x : Re α} {k : α → En → Prop} : Wp X x k = Po X x k := by
  unfold Wp
  rfl
variable {kd : D → En → Prop} {kl : List D → En → Prop}
@[simp] theorem po_ok (a : α) (r : En) : Wp X (.ok a r) k = k a r := by
  rw [wp_eq]
  rfl
@[simp] theorem po_ex (e : Exn) (r : En) : Wp X (.ex e r) k = X e r := by
  rw [wp_eq]
  rfl
@[simp] theorem po_no : Wp X (.no : Re α) k = False := by
  rw [wp_eq]
  rfl
@[simp] theorem po_bind (x : Re β) (f : β → M α) : Wp X (x.bind f) k = Wp X x fun a r => Wp X (f a r) k := by
  simp only [wp_eq, qo_bind]
theorem po_opt (o : Option α) (r : En) : Wp X (M.opt o r) k = ∃ a, o = some a ∧ k a r := by
  simp only [wp_eq, qo_opt]
theorem po_mono {x : Re α} {k' : α → En → Prop} (h : Wp X x k') (i : ∀ a r, k' a r → k a r) : Wp X x k := by
  simp only [wp_eq] at *
  exact qo_mono h i
theorem po_true {f : Re RV} (h : Wp (fun _ _ => False) f fun rv _ => rv = .v (.bool true)) : ∃ r, f = .ok (.v (.bool true)) r := by
  simp only [wp_eq] at *
  exact qo_true h
theorem po_seq {kk : Fl → En → Prop} (m n : M Fl) (r : En) : Wp X (sSeq m n r) kk = Wp X (m r) fun fl r => (match fl with
  | .nx => Wp X (n r) kk
  | f => kk f r) := by
  simp only [wp_eq, qo_seq]
@[simp] theorem po_ite (p : Prop) [Decidable p] (x y : Re α) : Wp X (if p then x else y) k = if p then Wp X x k else Wp X y k := by
  simp only [wp_eq, qo_ite]
@[simp] theorem po_szM {γ : Type} (n : Nat) (a : γ) (f : γ → α) (r : En) : Wp X (M.opt ((szC n a).map f) r) k = (n ≤ 16777216 ∧ k (f a) r) := by
  simp only [wp_eq, qo_szM]
@[simp] theorem po_szC (n : Nat) (a : α) (r : En) : Wp X (M.opt (szC n a) r) k = (n ≤ 16777216 ∧ k a r) := by
  simp only [wp_eq, qo_szC]
@[simp] theorem po_rng1 (j : Int) (r : En) : Wp X (M.opt (rng1 [.int j]) r) kl = ((-(2 ^ 62) ≤ j ∧ j < 2 ^ 62) ∧ kl (rngD 0 j.toNat) r) := by
  simp only [wp_eq, qo_rng1]
@[simp] theorem po_rng2 (i j : Int) (r : En) : Wp X (M.opt (rng2 [.int i, .int j]) r) kl = (((-(2 ^ 62) ≤ i ∧ i < 2 ^ 62) ∧ (-(2 ^ 62) ≤ j ∧ j < 2 ^ 62)) ∧ kl (rngD i (j - i).toNat) r) := by
  simp only [wp_eq, qo_rng2]
@[simp] theorem po_mul (i j : Int) (r : En) : Wp X (M.opt (mulD (.int i) (.int j)) r) kd = (mulOk i j ∧ kd (.int (i * j)) r) := by
  simp only [wp_eq, qo_mul]
@[simp] theorem po_fdiv (i j : Int) (r : En) : Wp X (M.opt (fdivD (.int i) (.int j)) r) kd = ((j ≠ 0 ∧ j.natAbs.log2 < 9000) ∧ kd (.int (i.fdiv j)) r) := by
  simp only [wp_eq, qo_fdiv]
@[simp] theorem po_mod (i j : Int) (r : En) : Wp X (M.opt (modD (.int i) (.int j)) r) kd = (j ≠ 0 ∧ kd (.int (i.fmod j)) r) := by
  simp only [wp_eq, qo_mod]
@[simp] theorem po_pow (i j : Int) (r : En) : Wp X (M.opt (powD (.int i) (.int j)) r) kd = ((0 ≤ j ∧ j ≤ 1000000 ∧ i.natAbs < 2 ^ 64) ∧ kd (.int (i ^ j.toNat)) r) := by
  simp only [wp_eq, qo_pow]
@[simp] theorem po_mulO {kr : RV → En → Prop} (xs : List D) (j : Int) (r : En) : Wp X (M.opt (mulO (.list xs) (.int j)) r) kr = (((-(2 ^ 63) ≤ j ∧ j < 2 ^ 63) ∧ xs.length * j.toNat ≤ 16777216) ∧ kr (.o (.l (List.replicate j.toNat xs).flatten)) r) := by
  simp only [wp_eq, qo_mulO]
@[simp] theorem po_mulL (xs : List D) (k : Int) (r : En) : Wp X (M.opt (mulD (.list xs) (.int k)) r) kd = (((-(2 ^ 63) ≤ k ∧ k < 2 ^ 63) ∧ xs.length * k.toNat ≤ 16777216) ∧ kd (.list (List.replicate k.toNat xs).flatten) r) := by
  simp only [wp_eq, qo_mulL]
@[simp] theorem po_mulT (xs : List D) (k : Int) (r : En) : Wp X (M.opt (mulD (.tuple xs) (.int k)) r) kd = ((-1000 ≤ k ∧ k ≤ 1000 ∧ xs.length ≤ 1000) ∧ kd (.tuple (List.replicate k.toNat xs).flatten) r) := by
  simp only [wp_eq, qo_mulT]
@[simp] theorem po_at (xs : List D) (n : Int) (r : En) : Wp X (M.opt (atI xs n) r) kd = ∃ d, atI xs n = some d ∧ kd d r := by
  simp only [wp_eq, qo_at]
@[simp high] theorem po_atI (xs : List Int) (n : Int) (r : En) : Wp X (M.opt (atI (xs.map .int) n) r) kd = ∃ c, atI xs n = some c ∧ kd (.int c) r := by
  simp only [wp_eq, qo_atI]
@[simp] theorem po_call {kk : RV → En → Prop} (f : List Sl → Re RV) (ms : M (List D)) (r : En) : Wp X (cCall f ms r) kk = Wp X (ms r) fun ds r => Wp (fun e _ => X e r) (f (ds.map .v)) fun rv _ => kk rv r := by
  simp only [wp_eq, qo_call]
@[simp] theorem po_callI {kk : RV → En → Prop} (f : List Sl → Re RV) (ms : M (List D)) (i : Nat) (r : En) : Wp X (cCallI i f ms r) kk = (match getC i r with
  | none => False
  | some _ => Wp X (ms r) fun ds r1 => (match getC i r1 with
    | none => False
    | some ct => Wp (fun e z => InIo (fun c => X e (putC i c r1)) z) (f (.io ct :: ds.map .v)) fun rv z => InIo (fun c => kk rv (putC i c r1)) z)) := by
  simp only [wp_eq, qo_callI]
theorem po_fn {kk : RV → List Sl → Prop} {n : Nat} {m : M Fl} {rs : List Sl} (h : Wp (fun e r => ∃ z, backA rs r = some z ∧ X e z) (m (rs ++ List.replicate (n - rs.length) .unk)) fun fl r => ∃ rv z, backA rs r = some z ∧ (fl = .rt rv ∨ (fl = .nx ∧ rv = .v .none)) ∧ kk rv z) : Wp X (fnOf n m rs) kk := by
  simp only [wp_eq] at *
  exact qo_fn h
theorem po_for {kk : Fl → En → Prop} {tg : Tg} {b : M Fl} (I : List D → List D → En → Prop) : ∀ (xs done : List D) (r : En), I done xs r →
    (∀ done x xs r, I done (x :: xs) r → ∃ r1, tg x r = some r1 ∧ Wp X (b r1) fun fl r2 => (match fl with
      | .nx => I (done ++ [x]) xs r2
      | .ct => I (done ++ [x]) xs r2
      | .bk => kk .nx r2
      | .rt v => kk (.rt v) r2)) → (∀ done r, I done [] r → kk .nx r) → Wp X (forL tg b xs r) kk := by
  intro xs done r h0 hs he
  simp only [wp_eq] at *
  exact qo_for I xs done r h0 hs he
theorem po_forM {γ : Type} {kk : Fl → En → Prop} {tg : Tg} {b : M Fl} {f : γ → D} (I : List γ → En → Prop) (xs : List γ) (r : En) (h0 : I [] r)
    (hs : ∀ done x rest r, xs = done ++ x :: rest → I done r → ∃ r1, tg (f x) r = some r1 ∧ Wp X (b r1) fun fl r2 => (match fl with
      | .nx => I (done ++ [x]) r2
      | .ct => I (done ++ [x]) r2
      | .bk => kk .nx r2
      | .rt v => kk (.rt v) r2)) (he : ∀ r, I xs r → kk .nx r) : Wp X (forL tg b (xs.map f) r) kk := by
  simp only [wp_eq] at *
  exact qo_forM I xs r h0 hs he
theorem po_forN {γ : Type} {kk : Fl → En → Prop} {tg : Tg} {b : M Fl} {f : γ → D} (I : List γ → En → Prop) (xs : List γ) (r : En) (h0 : I [] r)
    (hs : ∀ done x rest r, xs = done ++ x :: rest → I done r → ∃ r1, tg (f x) r = some r1 ∧ Wp X (b r1) fun fl r2 => fl = .nx ∧ I (done ++ [x]) r2) (he : ∀ r, I xs r → kk .nx r) : Wp X (forL tg b (xs.map f) r) kk := by
  simp only [wp_eq] at *
  exact qo_forN I xs r h0 hs he
theorem po_rng {kk : Fl → En → Prop} {tg : Tg} {b : M Fl} {lo : Int} (I : Nat → En → Prop) (n : Nat) (r : En) (h0 : I 0 r)
    (hs : ∀ i r, i < n → I i r → ∃ r1, tg (.int (lo + (i : Nat))) r = some r1 ∧ Wp X (b r1) fun fl r2 => (match fl with
      | .nx => I (i + 1) r2
      | .ct => I (i + 1) r2
      | .bk => kk .nx r2
      | .rt v => kk (.rt v) r2)) (he : ∀ r, I n r → kk .nx r) : Wp X (forL tg b (rngD lo n) r) kk := by
  simp only [wp_eq] at *
  exact qo_rng I n r h0 hs he
theorem po_while {kk : Fl → En → Prop} {t : M Bool} {b : M Fl} (I : Nat → En → Prop)
    (hs : ∀ n r, I n r → Wp X (t r) fun x r1 => if x = true then Wp X (b r1) fun fl r2 => (match fl with
      | .nx => ∃ m, m < n ∧ I m r2
      | .ct => ∃ m, m < n ∧ I m r2
      | .bk => kk .nx r2
      | .rt v => kk (.rt v) r2) else kk .nx r1) (n : Nat) (r : En) (h0 : I n r) : Wp X (sWhile t b r) kk := by
  simp only [wp_eq] at *
  exact qo_while I hs n r h0
theorem po_step {kk : Fl → En → Prop} {m n : M Fl} {r : En} (h : ∀ K : Fl → En → Prop, (∀ r', Wp X (n r') kk → K .nx r') → (∀ v r', kk (.rt v) r' → K (.rt v) r') → (∀ r', kk .bk r' → K .bk r') → (∀ r', kk .ct r' → K .ct r') → Wp X (m r) K) : Wp X (sSeq m n r) kk := by
  simp only [wp_eq] at *
  exact qo_step h
theorem po_fnK {kk : RV → List Sl → Prop} {n : Nat} {m : M Fl} {rs : List Sl} (h : ∀ (Y : Exn → En → Prop) (K : Fl → En → Prop), (∀ e r z, backA rs r = some z → X e z → Y e r) → (∀ v r z, backA rs r = some z → kk v z → K (.rt v) r) → (∀ r z, backA rs r = some z → kk (.v .none) z → K .nx r) → Wp Y (m (rs ++ List.replicate (n - rs.length) .unk)) K) : Wp X (fnOf n m rs) kk := by
  simp only [wp_eq] at *
  exact qo_fnK h
theorem po_forK {γ : Type} {kk : Fl → En → Prop} {tg : Tg} {b : M Fl} {f : γ → D} (I : List γ → En → Prop) (xs : List γ) (r : En) (h0 : I [] r)
    (hs : ∀ done x rest r, xs = done ++ x :: rest → I done r → ∃ r1, tg (f x) r = some r1 ∧ ∀ K : Fl → En → Prop, (∀ r2, I (done ++ [x]) r2 → K .nx r2) → (∀ v r2, kk (.rt v) r2 → K (.rt v) r2) → (∀ r2, I (done ++ [x]) r2 → K .ct r2) → (∀ r2, kk .nx r2 → K .bk r2) → Wp X (b r1) K) (he : ∀ r, I xs r → kk .nx r) : Wp X (forL tg b (xs.map f) r) kk := by
  simp only [wp_eq] at *
  exact qo_forK I xs r h0 hs he
theorem po_rngK {kk : Fl → En → Prop} {tg : Tg} {b : M Fl} {lo : Int} (I : Nat → En → Prop) (n : Nat) (r : En) (h0 : I 0 r)
    (hs : ∀ i r, i < n → I i r → ∃ r1, tg (.int (lo + (i : Nat))) r = some r1 ∧ ∀ K : Fl → En → Prop, (∀ r2, I (i + 1) r2 → K .nx r2) → (∀ v r2, kk (.rt v) r2 → K (.rt v) r2) → (∀ r2, I (i + 1) r2 → K .ct r2) → (∀ r2, kk .nx r2 → K .bk r2) → Wp X (b r1) K) (he : ∀ r, I n r → kk .nx r) : Wp X (forL tg b (rngD lo n) r) kk := by
  simp only [wp_eq] at *
  exact qo_rngK I n r h0 hs he
@[simp] theorem po_comp {kk : RV → En → Prop} (src : M (List D)) (is : List Nat) (tg : Tg) (tt : M Bool) (te : M D) (r : En) : Wp X (oComp src is tg tt te r) kk = Wp X (src r) fun xs r => noOwn r is = true ∧ Wp (fun _ _ => False) (compL is tg tt te xs [] r) fun ys q => kk (.o (.l ys)) (backE r (wipeE q is) is) := by
  simp only [wp_eq, qo_comp]
theorem po_compL {kl : List D → En → Prop} (is : List Nat) (tg : Tg) (tt : M Bool) (te : M D) (x : D) (xs acc : List D) (r : En) : Wp (fun _ _ => False) (compL is tg tt te (x :: xs) acc r) kl = (match tg x (wipeE r is) with
  | none => False
  | some r1 => Wp (fun _ _ => False) (tt r1) fun b r2 => if b = true then Wp (fun _ _ => False) (te r2) fun y r3 => acc.length < 16777216 ∧ Wp (fun _ _ => False) (compL is tg tt te xs (acc ++ [y]) r3) kl else Wp (fun _ _ => False) (compL is tg tt te xs acc r2) kl) := by
  simp only [wp_eq, qo_compL]
theorem po_compM {γ : Type} {kl : List D → En → Prop} {is : List Nat} {tg : Tg} {te : M D} {f : γ → D} {g : γ → D} (J : En → Prop) : ∀ (xs : List γ) (acc : List D) (r : En), J r → acc.length + xs.length ≤ 16777216 →
    (∀ x ∈ xs, ∀ r, J r → ∃ r1, tg (f x) (wipeE r is) = some r1 ∧ Wp (fun _ _ => False) (te r1) fun y r3 => y = g x ∧ J r3) → (∀ r, J r → kl (acc ++ xs.map g) r) → Wp (fun _ _ => False) (compL is tg yes te (xs.map f) acc r) kl := by
  intro xs acc r hJ hl hs he
  simp only [wp_eq] at *
  exact qo_compM J xs acc r hJ hl hs he
theorem po_compI {γ : Type} {kl : List D → En → Prop} {is : List Nat} {tg : Tg} {te : M D} {f : γ → D} (J : List D → En → Prop) : ∀ (xs : List γ) (acc : List D) (r : En), J acc r →
    (∀ x ∈ xs, ∀ acc r, J acc r → ∃ r1, tg (f x) (wipeE r is) = some r1 ∧ Wp (fun _ _ => False) (te r1) fun y r3 => acc.length < 16777216 ∧ J (acc ++ [y]) r3) → (∀ acc2 r, acc2.length = acc.length + xs.length → J acc2 r → kl acc2 r) → Wp (fun _ _ => False) (compL is tg yes te (xs.map f) acc r) kl := by
  intro xs acc r hJ hs he
  simp only [wp_eq] at *
  exact qo_compI J xs acc r hJ hs he
theorem po_compC {γ : Type} {kl : List D → En → Prop} {is : List Nat} {tg : Tg} {te : M D} {f : γ → D} (J : List D → En → Prop) (xs : List γ) (r : En) (hJ : J [] r) (hl : xs.length ≤ 16777216)
    (hs : ∀ x acc r, xs[acc.length]? = some x → J acc r → ∃ r1, tg (f x) (wipeE r is) = some r1 ∧ ∀ K : D → En → Prop, (∀ y r3, J (acc ++ [y]) r3 → K y r3) → Wp (fun _ _ => False) (te r1) K) (he : ∀ acc r, acc.length = xs.length → J acc r → kl acc r) : Wp (fun _ _ => False) (compL is tg yes te (xs.map f) [] r) kl := by
  simp only [wp_eq] at *
  exact qo_compC J xs r hJ hl hs he
theorem po_compF {γ : Type} {kl : List D → En → Prop} {is : List Nat} {tg : Tg} {tt : M Bool} {te : M D} {f : γ → D} {g : γ → D} {p : γ → Bool} (J : En → Prop) : ∀ (xs : List γ) (acc : List D) (r : En), J r → acc.length + xs.length ≤ 16777216 →
    (∀ x ∈ xs, ∀ r, J r → ∃ r1, tg (f x) (wipeE r is) = some r1 ∧ Wp (fun _ _ => False) (tt r1) fun b r2 => b = p x ∧ (p x = false → J r2) ∧ (p x = true → Wp (fun _ _ => False) (te r2) fun y r3 => y = g x ∧ J r3)) → (∀ r, J r → kl (acc ++ (xs.filter p).map g) r) → Wp (fun _ _ => False) (compL is tg tt te (xs.map f) acc r) kl := by
  intro xs acc r hJ hl hs he
  simp only [wp_eq] at *
  exact qo_compF J xs acc r hJ hl hs he
theorem po_compMD {kl : List D → En → Prop} {is : List Nat} {tg : Tg} {te : M D} {g : D → D} (J : En → Prop) (xs : List D) (r : En) (hJ : J r) (hl : xs.length ≤ 16777216) (hs : ∀ x ∈ xs, ∀ r, J r → ∃ r1, tg x (wipeE r is) = some r1 ∧ Wp (fun _ _ => False) (te r1) fun y r3 => y = g x ∧ J r3) (he : ∀ r, J r → kl (xs.map g) r) : Wp (fun _ _ => False) (compL is tg yes te xs [] r) kl := by
  simp only [wp_eq] at *
  exact qo_compMD J xs r hJ hl hs he
theorem po_compFD {kl : List D → En → Prop} {is : List Nat} {tg : Tg} {tt : M Bool} {te : M D} {g : D → D} {p : D → Bool} (J : En → Prop) (xs : List D) (r : En) (hJ : J r) (hl : xs.length ≤ 16777216) (hs : ∀ x ∈ xs, ∀ r, J r → ∃ r1, tg x (wipeE r is) = some r1 ∧ Wp (fun _ _ => False) (tt r1) fun b r2 => b = p x ∧ (p x = false → J r2) ∧ (p x = true → Wp (fun _ _ => False) (te r2) fun y r3 => y = g x ∧ J r3)) (he : ∀ r, J r → kl ((xs.filter p).map g) r) : Wp (fun _ _ => False) (compL is tg tt te xs [] r) kl := by
  simp only [wp_eq] at *
  exact qo_compFD J xs r hJ hl hs he
theorem po_forD {kk : Fl → En → Prop} {tg : Tg} {b : M Fl} (I : List D → En → Prop) (xs : List D) (r : En) (h0 : I [] r)
    (hs : ∀ done x rest r, xs = done ++ x :: rest → I done r → ∃ r1, tg x r = some r1 ∧ ∀ K : Fl → En → Prop, (∀ r2, I (done ++ [x]) r2 → K .nx r2) → (∀ v r2, kk (.rt v) r2 → K (.rt v) r2) → (∀ r2, I (done ++ [x]) r2 → K .ct r2) → (∀ r2, kk .nx r2 → K .bk r2) → Wp X (b r1) K) (he : ∀ r, I xs r → kk .nx r) : Wp X (forL tg b xs r) kk := by
  simp only [wp_eq] at *
  exact qo_forD I xs r h0 hs he
@[simp] theorem po_cI (p : Prop) (x : Re α) : Wp X (cI p x .no) k = (p ∧ Wp X x k) := by
  simp only [wp_eq, qo_cI]
@[simp] theorem po_lamR {kk : RV → En → Prop} (r : En) (m : Re Fl) : Wp X (lamRes r m) kk = Wp (fun _ _ => False) m fun fl _ => (match fl with
  | .rt rv => kk rv r
  | .nx => kk (.v .none) r
  | _ => False) := by
  simp only [wp_eq, qo_lamR]
@[simp] theorem po_lam {kk : RV → En → Prop} (ns : List Str) (n i : Nat) (br : M Fl) (th : M D) (r : En) : Wp X (cLam ns n i br th r) kk = Wp (fun e _ => e.name ∈ ns ∧ Wp X (lamRes r (br ((List.replicate n Sl.unk).set i (.v (exOf e))))) kk) (th (r.map hideS)) fun _ _ => Wp X (lamRes r (br ((List.replicate n Sl.unk).set i (.v .none)))) kk := by
  simp only [wp_eq, qo_lam]
@[simp] theorem po_try {kk : Fl → En → Prop} (ns : List Str) (j i : Nat) (mb : M Fl) (r : En) : Wp X (sTry ns j i mb r) kk = Wp (fun e r1 => e.name ∈ ns ∧ (match (setN j (.v (exOf e)) r1).bind (setN i (.v (exOf e))) with
  | some r2 => kk .nx (r2.set j .unk)
  | none => False)) (mb r) kk := by
  simp only [wp_eq, qo_try]
end
end Pu

namespace Pu
open PySem L2
variable [TabT]
/-! ### comprehensions of pure members, by the surroundings themselves -/
theorem set_back (r : En) (i : Nat) (s t : Sl) (hi : i < r.length) : ((r.set i s).set i t).set i (r.getD i .unk) = r := by
  rw [List.set_set, List.set_set]
  apply List.ext_getElem?
  intro k
  rw [List.getElem?_set]
  by_cases h : i = k
  · subst h
    rw [if_pos rfl, if_pos hi, List.getD_eq_getElem?_getD, List.getElem?_eq_getElem hi]
    rfl
  · rw [if_neg h]
theorem own_lt {r : En} {i : Nat} {is : List Nat} (h : noOwn r (i :: is) = true) : i < r.length ∧ noOwn r is = true := by
  rw [noOwn_cons, Bool.and_eq_true] at h
  refine ⟨?_, h.2⟩
  have h1 := h.1
  cases hr : r[i]? with
  | none =>
    rw [hr] at h1
    cases h1
  | some s => exact (List.getElem?_eq_some_iff.mp hr).1
theorem po_LC1 {γ : Type} {X : Exn → En → Prop} {kk : RV → En → Prop} {src : M (List D)} {i : Nat} {te : M D} {r : En} (f g : γ → D) (xs : List γ) (hsrc : Wp X (src r) fun ds r' => ds = xs.map f ∧ r' = r) (ho : noOwn r [i] = true) (hl : xs.length ≤ 16777216) (hb : ∀ x ∈ xs, Wp (fun _ _ => False) (te (r.set i (.v (f x)))) fun y r3 => y = g x ∧ r3 = r.set i (.v (f x))) (hk : kk (.o (.l (xs.map g))) r) : Wp X (oComp src [i] (gN i) yes te r) kk := by
  rw [po_comp]
  refine po_mono hsrc ?_
  rintro _ _ ⟨rfl, rfl⟩
  refine ⟨ho, ?_⟩
  have hi := (own_lt ho).1
  rename_i q
  refine po_compM (f := f) (g := g) (fun r => ∃ s, r = q.set i s) xs [] q ⟨q[i], by rw [List.set_getElem_self]⟩ (by simpa using hl) ?_ ?_
  · rintro x hx _ ⟨s, rfl⟩
    refine ⟨q.set i (.v (f x)), ?_, po_mono (hb x hx) ?_⟩
    · simp [hi]
    · rintro y r3 ⟨h1, h2⟩
      exact ⟨h1, _, h2⟩
  · rintro _ ⟨s, rfl⟩
    rw [List.nil_append]
    simp only [wipe_cons, wipe_nil, back_cons, back_nil]
    rw [set_back _ _ _ _ hi]
    exact hk
theorem set_back2 (r : En) (i j : Nat) (s t s2 t2 : Sl) (hi : i < r.length) (hj : j < r.length) : (((((r.set i s).set j t).set j s2).set i t2).set j (r.getD j .unk)).set i (r.getD i .unk) = r := by
  apply List.ext_getElem?
  intro k
  simp only [List.getElem?_set, List.length_set]
  by_cases h : i = k
  · subst h
    simp [hi, List.getD_eq_getElem?_getD]
  · by_cases h2 : j = k
    · subst h2
      simp [h, hj, List.getD_eq_getElem?_getD]
    · simp [h, h2]
theorem po_LC2 {γ : Type} {X : Exn → En → Prop} {kk : RV → En → Prop} {src : M (List D)} {i j : Nat} {te : M D} {r : En} (f1 f2 g : γ → D) (xs : List γ) (hsrc : Wp X (src r) fun ds r' => (ds = xs.map fun x => .tuple [f1 x, f2 x]) ∧ r' = r) (ho : noOwn r [i, j] = true) (hij : i ≠ j) (hl : xs.length ≤ 16777216) (hb : ∀ x ∈ xs, Wp (fun _ _ => False) (te ((r.set i (.v (f1 x))).set j (.v (f2 x)))) fun y r3 => y = g x ∧ r3 = (r.set i (.v (f1 x))).set j (.v (f2 x))) (hk : kk (.o (.l (xs.map g))) r) : Wp X (oComp src [i, j] (gT (gCn (gN i) (gCn (gN j) gNl))) yes te r) kk := by
  rw [po_comp]
  refine po_mono hsrc ?_
  rintro _ _ ⟨rfl, rfl⟩
  refine ⟨ho, ?_⟩
  have hi := (own_lt ho).1
  have hj := (own_lt (own_lt ho).2).1
  rename_i q
  refine po_compM (f := fun x => .tuple [f1 x, f2 x]) (g := g) (fun r => ∃ s t, r = (q.set i s).set j t) xs [] q ⟨q[i], q[j], by rw [List.set_getElem_self, List.set_getElem_self]⟩ (by simpa using hl) ?_ ?_
  · rintro x hx _ ⟨s, t, rfl⟩
    refine ⟨(q.set i (.v (f1 x))).set j (.v (f2 x)), ?_, po_mono (hb x hx) ?_⟩
    · simp only [wipe_cons, wipe_nil]
      have e : (((q.set i s).set j t).set j Sl.unk).set i Sl.unk = (q.set j Sl.unk).set i Sl.unk := by
        rw [List.set_set, List.set_comm _ _ (Ne.symm hij), List.set_set, List.set_comm _ _ hij]
      rw [e]
      simp only [gT_ap, gCn_ap, gN_ap, gNl_ap, setN_ap]
      have e1 : ((q.set j Sl.unk).set i Sl.unk)[i]? = some .unk := by simp [hi]
      rw [e1]
      simp only [io_unk, Bool.false_eq_true, if_false, Option.bind_some]
      have e2 : (((q.set j Sl.unk).set i Sl.unk).set i (.v (f1 x)))[j]? = some .unk := by
        rw [List.set_set, List.getElem?_set_ne hij]
        simp [hj]
      rw [e2]
      simp only [io_unk, Bool.false_eq_true, if_false, Option.bind_some]
      congr 1
      rw [List.set_set, List.set_comm _ _ hij, List.set_set]
      exact List.set_comm _ _ (Ne.symm hij)
    · rintro y r3 ⟨h1, h2⟩
      exact ⟨h1, _, _, h2⟩
  · rintro _ ⟨s, t, rfl⟩
    rw [List.nil_append]
    simp only [wipe_cons, wipe_nil, back_cons, back_nil]
    rw [set_back2 _ _ _ _ _ _ _ hi hj]
    exact hk
theorem str_t {ds : List D} (h : pln (.tuple ds) = true) (hd : (PyData.tuple ds).depth ≤ 64) (hb : (PyData.tuple ds).bulk ≤ 8000) : strD (.tuple ds) = some (.str (PyData.tuple ds).shown) := (cI_eq ..).trans (if_pos ⟨(pln_ok _ h).1, pln_shaped h hd, pln_len h hb⟩)
/-! ### what can be told as a text -/
def Rq (dp bk : Nat) (d : D) : Prop := pln d = true ∧ d.depth ≤ dp ∧ d.bulk ≤ bk
theorem Rq.int {i : Int} (h : i.natAbs < 2 ^ 1900) : Rq 1 0 (.int i) := ⟨decide_eq_true h, by simp [PyData.depth], by simp [PyData.bulk]⟩
theorem Rq.mono {a b a' b' : Nat} {d : D} (h : Rq a b d) (h1 : a ≤ a') (h2 : b ≤ b') : Rq a' b' d := ⟨h.1, Nat.le_trans h.2.1 h1, Nat.le_trans h.2.2 h2⟩
theorem Rq.all {dp bk n : Nat} {ds : List D} (hl : ds.length ≤ n) (h : ∀ d ∈ ds, Rq dp bk d) : plnAll ds = true ∧ PyData.depthAll ds ≤ dp ∧ PyData.bulkAll ds ≤ (bk + 1) * n := by
  have e : ds.map (fun d : D => d) = ds := by simp
  have h1 := plnAll_map (fun d : D => d) ds fun d hd => (h d hd).1
  have h2 := depthAll_map (fun d : D => d) dp ds fun d hd => (h d hd).2.1
  have h3 := bulkAll_map (fun d : D => d) bk ds fun d hd => (h d hd).2.2
  rw [e] at h1 h2 h3
  exact ⟨h1, h2, Nat.le_trans h3 (Nat.mul_le_mul_left _ hl)⟩
theorem Rq.tup {dp bk n : Nat} {ds : List D} (hl : ds.length ≤ n) (h : ∀ d ∈ ds, Rq dp bk d) : Rq (dp + 1) ((bk + 1) * n) (.tuple ds) := by
  obtain ⟨h1, h2, h3⟩ := Rq.all hl h
  exact ⟨h1, by simp only [PyData.depth]; omega, by simp only [PyData.bulk]; exact h3⟩
theorem Rq.lst {dp bk n : Nat} {ds : List D} (hl : ds.length ≤ n) (h : ∀ d ∈ ds, Rq dp bk d) : Rq (dp + 1) ((bk + 1) * n) (.list ds) := by
  obtain ⟨h1, h2, h3⟩ := Rq.all hl h
  exact ⟨h1, by simp only [PyData.depth]; omega, by simp only [PyData.bulk]; exact h3⟩
theorem Rq.repr {dp bk : Nat} {d : D} (h : Rq dp bk d) (h1 : dp ≤ 64) (h2 : bk ≤ 8000) : ∃ x, reprD d = some (.str x) := repr_pln h.1 (Nat.le_trans h.2.1 h1) (Nat.le_trans h.2.2 h2)
@[simp] theorem eRemove_ap (i : Nat) (m : M D) (r : En) : eRemove i m r = (match getC i r with
  | some (.l _) => (m r).bind fun d r => match getC i r with
    | some (.l ds) => cI (SeqAt.shaped d = true ∧ SeqAt.shaped (.list ds) = true ∧ (SeqAt.dataPlace ds d).isSome = true) (.ok .none (putC i (.l (ds.eraseIdx ((SeqAt.dataPlace ds d).getD 0))) r)) .no
    | _ => .no
  | _ => .no) := rfl
@[simp] theorem eCount_ap (mo me : M D) (r : En) : eCount mo me r = (mo r).bind fun d r => (match d with
  | .list ds => (me r).bind fun b r => M.opt (countD (.list ds) b) r
  | _ => .no) := by
  show (mo r).bind (fun d => (match d with
  | .list ds => me.bind fun b => M.opt (countD (.list ds) b)
  | _ => M.no)) = _
  congr 1
  funext d r
  cases d <;> rfl
theorem countD_l (ds : List D) (d : D) (h : SeqAt.shaped d = true ∧ SeqAt.shaped (.list ds) = true) : countD (.list ds) d = some (.int ((ds.countP fun z => PyData.eqv z d : Nat) : Int)) := by
  show cI (SeqAt.shaped d = true ∧ SeqAt.shaped (.list ds) = true) (some (PyData.int ((ds.countP fun z => PyData.eqv z d : Nat) : Int))) none = _
  rw [cI_eq, if_pos h]
@[simp] theorem eGet_ap (i : Nat) (mk mx : M D) (r : En) : eGet i mk mx r = (match getC i r with
  | some (.d _) => (mk r).bind fun k r => (mx r).bind fun x r => (match getC i r with
    | some (.d kvs) => (match keyD k with
      | some y => .ok ((vK kvs y).getD x) r
      | none => .no)
    | _ => .no)
  | _ => .no) := rfl
@[simp] theorem eClear_ap (i : Nat) (r : En) : eClear i r = (match getC i r with
  | some (.l _) => .ok .none (putC i (.l []) r)
  | _ => .no) := rfl
@[simp] theorem zipW_tl (a b : List D) : zipW [.tuple a, .list b] = some (zipD a b) := rfl
@[simp] theorem zipW_ll (a b : List D) : zipW [.list a, .list b] = some (zipD a b) := rfl
theorem zipD_map {γ δ : Type} (f : γ → D) (g : δ → D) (xs : List γ) (ys : List δ) : zipD (xs.map f) (ys.map g) = (List.zip xs ys).map fun p => .tuple [f p.1, g p.2] := by
  unfold zipD
  rw [List.zipWith_map, List.map_zip_eq_zipWith]
  rfl
/-- a comprehension whose target is three names, the last two in a tuple -/
theorem po_LC3 {γ : Type} {X : Exn → En → Prop} {kk : RV → En → Prop} {src : M (List D)} {i j k : Nat} {te : M D} {r : En} (f1 f2 f3 g : γ → D) (xs : List γ) (hsrc : Wp X (src r) fun ds r' => (ds = xs.map fun x => .tuple [f1 x, .tuple [f2 x, f3 x]]) ∧ r' = r) (ho : noOwn r [i, j, k] = true) (hij : i ≠ j) (hik : i ≠ k) (hjk : j ≠ k) (hl : xs.length ≤ 16777216) (hb : ∀ x ∈ xs, Wp (fun _ _ => False) (te (((r.set i (.v (f1 x))).set j (.v (f2 x))).set k (.v (f3 x)))) fun y r3 => y = g x ∧ r3 = ((r.set i (.v (f1 x))).set j (.v (f2 x))).set k (.v (f3 x))) (hk : kk (.o (.l (xs.map g))) r) : Wp X (oComp src [i, j, k] (gT (gCn (gN i) (gCn (gT (gCn (gN j) (gCn (gN k) gNl))) gNl))) yes te r) kk := by
  rw [po_comp]
  refine po_mono hsrc ?_
  rintro _ _ ⟨rfl, rfl⟩
  refine ⟨ho, ?_⟩
  have hi := (own_lt ho).1
  have hj := (own_lt (own_lt ho).2).1
  have hk3 := (own_lt (own_lt (own_lt ho).2).2).1
  rename_i q
  refine po_compM (f := fun x => .tuple [f1 x, .tuple [f2 x, f3 x]]) (g := g) (fun r => ∃ s t u, r = ((q.set i s).set j t).set k u) xs [] q ⟨q[i], q[j], q[k], by rw [List.set_getElem_self, List.set_getElem_self, List.set_getElem_self]⟩ (by simpa using hl) ?_ ?_
  · rintro x hx _ ⟨s, t, u, rfl⟩
    refine ⟨((q.set i (.v (f1 x))).set j (.v (f2 x))).set k (.v (f3 x)), ?_, po_mono (hb x hx) ?_⟩
    · simp only [wipe_cons, wipe_nil, gT_ap, gCn_ap, gN_ap, gNl_ap, setN_ap]
      simp only [List.getElem?_set, List.length_set, hi, hj, hk3, hij, hik, hjk, Ne.symm hij, Ne.symm hik, Ne.symm hjk, if_true, if_false, io_unk, Bool.false_eq_true, Option.bind_some]
      congr 1
      apply List.ext_getElem?
      intro m
      simp only [List.getElem?_set, List.length_set]
      by_cases h1 : k = m
      · simp [h1]
      · by_cases h2 : j = m
        · simp [h1, h2]
        · by_cases h3 : i = m
          · simp [h1, h2, h3]
          · simp [h1, h2, h3]
    · rintro y r3 ⟨h1, h2⟩
      exact ⟨h1, _, _, _, h2⟩
  · rintro _ ⟨s, t, u, rfl⟩
    rw [List.nil_append]
    simp only [wipe_cons, wipe_nil, back_cons, back_nil]
    have e : (((((((((q.set i s).set j t).set k u).set k Sl.unk).set j Sl.unk).set i Sl.unk).set k (q.getD k .unk)).set j (q.getD j .unk)).set i (q.getD i .unk)) = q := by
      apply List.ext_getElem?
      intro m
      simp only [List.getElem?_set, List.length_set]
      by_cases h1 : i = m
      · subst h1
        simp [hi, List.getD_eq_getElem?_getD]
      · by_cases h2 : j = m
        · subst h2
          simp [h1, hj, List.getD_eq_getElem?_getD]
        · by_cases h3 : k = m
          · subst h3
            simp [h1, h2, hk3, List.getD_eq_getElem?_getD]
          · simp [h1, h2, h3]
    rw [e]
    exact hk
@[simp] theorem eReprS_ap (i : Nat) (r : En) : eReprS i r = (match getC i r with
  | some (.l ds) => M.opt (reprD (.list ds)) r
  | some (.d _) => .no
  | some (.t _) => .no
  | none => nry (one reprD) (aCons (getS i) aNil) r) := rfl
@[simp] theorem eIsiS_ap (T : String) (i : Nat) (r : En) : eIsiS T i r = (match getC i r with
  | some (.l ds) => M.opt ((kitB "list" T).map PyData.bool) r
  | some (.d _) => M.opt ((kitB "dict" T).map PyData.bool) r
  | some (.t _) => .no
  | none => una (isiD T) (getS i) r) := rfl
@[simp] theorem eTupS_ap (i : Nat) (r : En) : eTupS i r = (match getC i r with
  | some (.l ds) => .ok (.tuple ds) r
  | some (.d _) => .no
  | some (.t _) => .no
  | none => nry (one tupD) (aCons (getS i) aNil) r) := rfl
@[simp] theorem kit_ll : kitB "list" "list" = some true := by kernel_rfl
@[simp] theorem kit_lt : kitB "list" "tuple" = some false := by kernel_rfl
@[simp] theorem oListK_ap (i : Nat) (r : En) : oListK i r = (match getC i r with
  | some (.d kvs) => .ok (.o (.l (kvs.map fun kv => kD kv.1))) r
  | some (.l _) => .no
  | some (.t _) => .no
  | none => nryO listD (aCons (getS i) aNil) r) := rfl
@[simp] theorem oSortK_ap (i : Nat) (r : En) : oSortK i r = (match getC i r with
  | some (.d kvs) => (match intKs (kvs.map (·.1)) with
    | some is => cI (is.length < 64) (.ok (.o (.l ((isort is).map .int))) r) .no
    | none => .no)
  | some (.l _) => .no
  | some (.t _) => .no
  | none => nryO sortD (aCons (getS i) aNil) r) := rfl
@[simp] theorem maxdD_l (ns : List Int) (d : Int) : maxdD (.list (ns.map .int)) (.int d) = some (.int (maxI d ns)) := by
  show (intsOf (ns.map PyData.int)).map (fun ns => PyData.int (maxI d ns)) = _
  rw [intsOf_mp]
  rfl
theorem qo_callB {X : Exn → En → Prop} {kk : RV → En → Prop} (i : Nat) (f : List Sl → Re RV) (r : En) (ds : List D) (h : r[i]? = some (.o (.l ds))) : Po X (cCallB i f r) kk = Po (fun _ _ => False) (f [.v (.list ds)]) fun rv _ => noLR rv = true ∧ kk rv r := by
  unfold cCallB
  rw [h]
  simp only
  cases f [.v (.list ds)] with
  | ok rv z => exact qo_cI _ _
  | ex e z => rfl
  | no => rfl
theorem po_callB {X : Exn → En → Prop} {kk : RV → En → Prop} (i : Nat) (f : List Sl → Re RV) (r : En) (ds : List D) (h : r[i]? = some (.o (.l ds))) : Wp X (cCallB i f r) kk = Wp (fun _ _ => False) (f [.v (.list ds)]) fun rv _ => noLR rv = true ∧ kk rv r := by
  simp only [wp_eq, qo_callB i f r ds h]
@[simp] theorem noL_i (i : Int) : noL (.int i) = true := rfl
@[simp] theorem noL_t (ds : List D) : noL (.tuple ds) = noLAll ds := rfl
@[simp] theorem noL_nil : noLAll [] = true := rfl
theorem noL_map {γ : Type} (f : γ → D) : ∀ xs : List γ, (∀ x ∈ xs, noL (f x) = true) → noLAll (xs.map f) = true
  | [], _ => rfl
  | x :: xs, h => Bool.and_eq_true_iff.mpr ⟨h x (List.mem_cons_self ..), noL_map f xs fun y hy => h y (List.mem_cons_of_mem _ hy)⟩
@[simp] theorem kD_l (i : Int) : kD (.inl i) = .int i := rfl
theorem intKs_mp : ∀ is : List Int, intKs (is.map Sum.inl) = some is
  | [] => rfl
  | i :: is => by
    show (intKs (is.map Sum.inl)).map (i :: ·) = _
    rw [intKs_mp is]
    rfl
/-! ### what can be told as a text, of short numbers, much of it -/
def Rs (dp bk : Nat) (d : D) : Prop := (pln d = true ∧ d.leavesShort 60 = true) ∧ d.depth ≤ dp ∧ d.bulk ≤ bk
theorem leaves_all {k : Nat} : ∀ {ds : List D}, (∀ d ∈ ds, d.leavesShort k = true) → PyData.leavesShortAll k ds = true
  | [], _ => rfl
  | d :: ds, h => Bool.and_eq_true_iff.mpr ⟨h d (List.mem_cons_self ..), leaves_all fun x hx => h x (List.mem_cons_of_mem _ hx)⟩
theorem Rs.int {i : Int} (h : i.natAbs < 2 ^ 50) : Rs 1 0 (.int i) := ⟨⟨decide_eq_true (Nat.lt_of_lt_of_le h (Nat.pow_le_pow_right (by decide) (by decide))), decide_eq_true (by
  show (Str.ofString (toString i)).length ≤ 60
  rw [ofString_length]
  have := int_text_length_le (k := 50) (by decide) (PySem.Flt.log2_lt_of (by decide) h)
  omega)⟩, by simp [PyData.depth], by simp [PyData.bulk]⟩
theorem Rs.mono {a b a' b' : Nat} {d : D} (h : Rs a b d) (h1 : a ≤ a') (h2 : b ≤ b') : Rs a' b' d := ⟨h.1, Nat.le_trans h.2.1 h1, Nat.le_trans h.2.2 h2⟩
theorem Rs.all {dp bk n : Nat} {ds : List D} (hl : ds.length ≤ n) (h : ∀ d ∈ ds, Rs dp bk d) : plnAll ds = true ∧ PyData.leavesShortAll 60 ds = true ∧ PyData.depthAll ds ≤ dp ∧ PyData.bulkAll ds ≤ (bk + 1) * n := by
  have e : ds.map (fun d : D => d) = ds := by simp
  have h1 := plnAll_map (fun d : D => d) ds fun d hd => (h d hd).1.1
  have h2 := depthAll_map (fun d : D => d) dp ds fun d hd => (h d hd).2.1
  have h3 := bulkAll_map (fun d : D => d) bk ds fun d hd => (h d hd).2.2
  rw [e] at h1 h2 h3
  exact ⟨h1, leaves_all fun d hd => (h d hd).1.2, h2, Nat.le_trans h3 (Nat.mul_le_mul_left _ hl)⟩
theorem Rs.tup {dp bk n : Nat} {ds : List D} (hl : ds.length ≤ n) (h : ∀ d ∈ ds, Rs dp bk d) : Rs (dp + 1) ((bk + 1) * n) (.tuple ds) := by
  obtain ⟨h1, h4, h2, h3⟩ := Rs.all hl h
  exact ⟨⟨h1, h4⟩, by simp only [PyData.depth]; omega, by simp only [PyData.bulk]; exact h3⟩
theorem Rs.lst {dp bk n : Nat} {ds : List D} (hl : ds.length ≤ n) (h : ∀ d ∈ ds, Rs dp bk d) : Rs (dp + 1) ((bk + 1) * n) (.list ds) := by
  obtain ⟨h1, h4, h2, h3⟩ := Rs.all hl h
  exact ⟨⟨h1, h4⟩, by simp only [PyData.depth]; omega, by simp only [PyData.bulk]; exact h3⟩
theorem Rs.shaped {dp bk : Nat} {d : D} (h : Rs dp bk d) (h1 : dp ≤ 64) : SeqAt.shaped d = true := pln_shaped h.1.1 (Nat.le_trans h.2.1 h1)
theorem Rs.reprL {dp bk : Nat} {ds : List D} (h : Rs dp bk (.list ds)) (h1 : dp ≤ 64) (h2 : bk ≤ 270000) : reprD (.list ds) = some (.str (PyData.list ds).shown) := (cI_eq ..).trans (if_pos ⟨(pln_ok _ h.1.1).1, h.shaped h1, by
  have := PyData.shown_le_bulk 60 (by decide) _ h.1.2
  have := h.2.2
  omega⟩)
theorem Rq.shaped {dp bk : Nat} {d : D} (h : Rq dp bk d) (h1 : dp ≤ 64) : SeqAt.shaped d = true := pln_shaped h.1 (Nat.le_trans h.2.1 h1)
theorem fdivLD_iff (i j : Int) (d : D) : (fdivLD (.int i) (.int j) = some d) = (j ≠ 0 ∧ .int (i.fdiv j) = d) := by
  show (cI (j ≠ 0) (some (PyData.int (i.fdiv j))) none = some d) = _
  rw [cI_eq]
  exact ite_some _ _ _
@[simp] theorem po_fdivL {X : Exn → En → Prop} {kd : D → En → Prop} (i j : Int) (r : En) : Wp X (M.opt (fdivLD (.int i) (.int j)) r) kd = (j ≠ 0 ∧ kd (.int (i.fdiv j)) r) := by
  simp only [wp_eq]
  rw [qo_opt]
  simp only [fdivLD_iff]
  exact propext ⟨fun ⟨_, ⟨h, e⟩, q⟩ => ⟨h, by rw [e]; exact q⟩, fun ⟨h, q⟩ => ⟨_, ⟨h, rfl⟩, q⟩⟩
end Pu

namespace St
/-! ### vectors, spans, stairs -/
abbrev Ve := Nat → Int
inductive Sp (S : Ve → Prop) : Ve → Prop
  | zero : Sp S (fun _ => 0)
  | step {x r : Ve} (k : Int) : S r → Sp S x → Sp S (fun i => x i + k * r i)
theorem Sp.cong {S : Ve → Prop} {x y : Ve} (h : Sp S x) (e : ∀ i, x i = y i) : Sp S y := by
  have : x = y := funext e
  exact this ▸ h
theorem Sp.of {S : Ve → Prop} {r : Ve} (h : S r) : Sp S r := (Sp.step 1 h .zero).cong fun i => by show (0:Int) + 1 * r i = r i; omega
theorem Sp.add {S : Ve → Prop} {x y : Ve} (hx : Sp S x) (hy : Sp S y) : Sp S (fun i => x i + y i) := by
  induction hy with
  | zero => exact hx.cong fun i => by simp
  | step k hr _ ih => exact (ih.step k hr).cong fun i => by simp [Int.add_assoc]
theorem Sp.smul {S : Ve → Prop} {x : Ve} (c : Int) (hx : Sp S x) : Sp S (fun i => c * x i) := by
  induction hx with
  | zero => exact Sp.zero.cong fun i => by simp
  | step k hr _ ih => exact (ih.step (c * k) hr).cong fun i => by simp [Int.mul_add, Int.mul_assoc]
theorem Sp.subm {S : Ve → Prop} {x y : Ve} (c : Int) (hx : Sp S x) (hy : Sp S y) : Sp S (fun i => x i - c * y i) :=
  (hx.add (hy.smul (-c))).cong fun i => by rw [Int.neg_mul]; rfl
theorem Sp.le {S T : Ve → Prop} (h : ∀ r, S r → Sp T r) {x : Ve} (hx : Sp S x) : Sp T x := by
  induction hx with
  | zero => exact .zero
  | step k hr _ ih => exact ih.add ((h _ hr).smul k)
theorem Sp.mono {S T : Ve → Prop} (h : ∀ r, S r → T r) {x : Ve} (hx : Sp S x) : Sp T x := hx.le fun r hr => .of (h r hr)
theorem Sp.at0 {S : Ve → Prop} {i : Nat} (h : ∀ r, S r → r i = 0) {x : Ve} (hx : Sp S x) : x i = 0 := by
  induction hx with
  | zero => rfl
  | step k hr _ ih => simp [ih, h _ hr]
theorem Sp.dvd {S : Ve → Prop} {i : Nat} {d : Int} (h : ∀ r, S r → d ∣ r i) {x : Ve} (hx : Sp S x) : d ∣ x i := by
  induction hx with
  | zero => exact Int.dvd_zero d
  | step k hr _ ih => exact Int.dvd_add ih (Int.dvd_trans (h _ hr) ⟨k, by rw [Int.mul_comm]⟩)
/-- the span of a list -/
abbrev Sl (l : List Ve) (x : Ve) : Prop := Sp (fun r => r ∈ l) x
theorem sl_nil {x : Ve} : Sl [] x ↔ ∀ i, x i = 0 := by
  constructor
  · intro h i
    exact Sp.at0 (fun r hr => absurd hr (by simp)) h
  · intro h
    exact Sp.zero.cong fun i => (h i).symm
theorem sl_cons {a : Ve} {t : List Ve} {x : Ve} : Sl (a :: t) x ↔ ∃ c : Int, Sl t (fun i => x i - c * a i) := by
  constructor
  · intro h
    induction h with
    | zero => exact ⟨0, Sp.zero.cong fun i => by simp⟩
    | step k hr _ ih =>
      obtain ⟨c, hc⟩ := ih
      rcases List.mem_cons.mp hr with rfl | hr
      · exact ⟨c + k, hc.cong fun i => by simp only [Int.add_mul]; omega⟩
      · exact ⟨c, (hc.step k hr).cong fun i => by simp only []; omega⟩
  · rintro ⟨c, h⟩
    have h1 : Sl (a :: t) (fun i => x i - c * a i) := Sp.mono (fun r hr => List.mem_cons_of_mem _ hr) h
    exact (h1.step c (List.mem_cons_self ..)).cong fun i => by show x i - c * a i + c * a i = x i; omega
/-- the foot of a vector -/
def Ft (r : Ve) (k : Nat) : Prop := (∀ i, i < k → r i = 0) ∧ 0 < r k
theorem Ft.uniq {r : Ve} {j k : Nat} (a : Ft r j) (b : Ft r k) : j = k := by
  rcases Nat.lt_trichotomy j k with h | h | h
  · have := b.1 j h
    have := a.2
    omega
  · exact h
  · have := a.1 k h
    have := b.2
    omega
/-- a stair -/
inductive Stair : List Ve → Prop
  | nil : Stair []
  | cons {a : Ve} {t : List Ve} {k : Nat} : Ft a k → (∀ r ∈ t, ∀ i, i ≤ k → r i = 0) → (∀ r ∈ t, ∀ j, Ft r j → 0 ≤ a j ∧ a j < r j) → Stair t → Stair (a :: t)
theorem Stair.ft {l : List Ve} (h : Stair l) : ∀ r ∈ l, ∃ k, Ft r k := by
  induction h with
  | nil => intro r hr; cases hr
  | cons hk _ _ _ ih =>
    intro r hr
    rcases List.mem_cons.mp hr with rfl | hr
    · exact ⟨_, hk⟩
    · exact ih r hr
/-- what is reached, seen from the first row -/
theorem Stair.red {a : Ve} {t : List Ve} {k : Nat} {x : Ve} (hk : Ft a k) (hz : ∀ r ∈ t, ∀ i, i ≤ k → r i = 0) : Sl (a :: t) x ↔ (a k ∣ x k ∧ Sl t (fun i => x i - (x k).fdiv (a k) * a i)) := by
  rw [sl_cons]
  constructor
  · rintro ⟨c, h⟩
    have h0 : x k - c * a k = 0 := Sp.at0 (fun r hr => hz r hr k (Nat.le_refl _)) h
    have e : x k = a k * c := by rw [Int.mul_comm]; omega
    refine ⟨⟨c, e⟩, ?_⟩
    have q : (x k).fdiv (a k) = c := by rw [e]; exact Int.mul_fdiv_cancel_left _ (by have := hk.2; omega)
    rw [q]
    exact h
  · rintro ⟨_, h⟩
    exact ⟨_, h⟩
/-- a vector of the span that is small at all feet is nought -/
theorem Stair.small {l : List Ve} (h : Stair l) : ∀ {x : Ve}, Sl l x → (∀ r ∈ l, ∀ k, Ft r k → -(r k) < x k ∧ x k < r k) → ∀ i, x i = 0 := by
  induction h with
  | nil => intro x hx _; exact sl_nil.mp hx
  | @cons a t k hk hz hr _ ih =>
    intro x hx hs
    obtain ⟨⟨c, hc⟩, h2⟩ := (Stair.red hk hz).mp hx
    have hb := hs a (List.mem_cons_self ..) k hk
    have hp := hk.2
    have c0 : c = 0 := by
      rcases Int.lt_trichotomy c 0 with h | h | h
      · have h3 : a k * c ≤ a k * (-1) := Int.mul_le_mul_of_nonneg_left (by omega) (by omega)
        omega
      · exact h
      · have h3 : a k * 1 ≤ a k * c := Int.mul_le_mul_of_nonneg_left (by omega) (by omega)
        omega
    rw [c0, Int.mul_zero] at hc
    rw [hc, Int.zero_fdiv] at h2
    exact ih (h2.cong fun i => by simp) fun r hr => hs r (List.mem_cons_of_mem _ hr)
theorem Stair.tail {a : Ve} {t : List Ve} (h : Stair (a :: t)) : Stair t := by
  cases h with
  | cons _ _ _ h => exact h
/-- the span of the rest: what is 0 at the first foot -/
theorem Stair.rest {a : Ve} {t : List Ve} {k : Nat} {x : Ve} (hk : Ft a k) (hz : ∀ r ∈ t, ∀ i, i ≤ k → r i = 0) : Sl t x ↔ (Sl (a :: t) x ∧ x k = 0) := by
  constructor
  · intro h
    exact ⟨Sp.mono (fun r hr => List.mem_cons_of_mem _ hr) h, Sp.at0 (fun r hr => hz r hr k (Nat.le_refl _)) h⟩
  · rintro ⟨h, h0⟩
    have := ((Stair.red hk hz).mp h).2
    rw [h0, Int.zero_fdiv] at this
    exact this.cong fun i => by simp
theorem dvd_pos_eq {a b : Int} (ha : 0 < a) (hb : 0 < b) (h1 : a ∣ b) (h2 : b ∣ a) : a = b := Int.le_antisymm (Int.le_of_dvd hb h1) (Int.le_of_dvd ha h2)
theorem Stair.uniq : ∀ {l m : List Ve}, Stair l → Stair m → (∀ x, Sl l x ↔ Sl m x) → l = m := by
  intro l m hl
  induction hl generalizing m with
  | nil =>
    intro hm h
    cases hm with
    | nil => rfl
    | @cons b s j hj _ _ _ =>
      have := (h b).mpr (.of (List.mem_cons_self ..))
      have := sl_nil.mp this j
      have := hj.2
      omega
  | @cons a t k hk hz hr ht ih =>
    intro hm h
    cases hm with
    | nil =>
      have := (h a).mp (.of (List.mem_cons_self ..))
      have := sl_nil.mp this k
      have := hk.2
      omega
    | @cons b s j hj hzj hrj hs =>
      have ha : Sl (b :: s) a := (h a).mp (.of (List.mem_cons_self ..))
      have hb : Sl (a :: t) b := (h b).mpr (.of (List.mem_cons_self ..))
      have e : k = j := by
        have z1 : ∀ i, i < j → a i = 0 := fun i hi => Sp.at0 (fun r hr => by
          rcases List.mem_cons.mp hr with rfl | hr
          · exact hj.1 i hi
          · exact hzj r hr i (by omega)) ha
        have z2 : ∀ i, i < k → b i = 0 := fun i hi => Sp.at0 (fun r hr => by
          rcases List.mem_cons.mp hr with rfl | hr
          · exact hk.1 i hi
          · exact hz r hr i (by omega)) hb
        rcases Nat.lt_trichotomy k j with q | q | q
        · have := z1 k q
          have := hk.2
          omega
        · exact q
        · have := z2 j q
          have := hj.2
          omega
      subst e
      have eq : a k = b k := dvd_pos_eq hk.2 hj.2 ((Stair.red hk hz).mp hb).1 ((Stair.red hj hzj).mp ha).1
      have hts : ∀ x, Sl t x ↔ Sl s x := fun x => by rw [Stair.rest hk hz, Stair.rest hj hzj, h x]
      have ets : t = s := ih hs hts
      subst ets
      have hd : Sl (a :: t) (fun i => a i - 1 * b i) := (Sp.of (List.mem_cons_self ..)).subm 1 hb
      have hd2 : Sl t (fun i => a i - 1 * b i) := (Stair.rest hk hz).mpr ⟨hd, by simp [eq]⟩
      have hzero := ht.small hd2 fun r hr2 q hq => by
        have h1 := hr r hr2 q hq
        have h2 := hrj r hr2 q hq
        constructor <;> omega
      have eab : a = b := funext fun i => by
        have := hzero i
        omega
      rw [eab]
/-! ### pairs of a row and its mixing -/
abbrev P2 := List Int × List Int
def vec (l : List Int) : Ve := fun i => l.getD i 0
def lsl (a b : List Int) (m : Int) : List Int := List.zipWith (fun x y => x - m * y) a b
def less (p q : P2) (m : Int) : P2 := (lsl p.1 q.1 m, lsl p.2 q.2 m)
theorem vec_nil (i : Nat) : vec [] i = 0 := rfl
theorem vec_cons0 (a : Int) (l : List Int) : vec (a :: l) 0 = a := rfl
theorem vec_cons1 (a : Int) (l : List Int) (i : Nat) : vec (a :: l) (i + 1) = vec l i := rfl
theorem vec_out {l : List Int} {i : Nat} (h : l.length ≤ i) : vec l i = 0 := by
  unfold vec
  rw [List.getD_eq_getElem?_getD, List.getElem?_eq_none h]
  rfl
theorem vec_get {l : List Int} {i : Nat} (h : i < l.length) : vec l i = l[i] := by
  unfold vec
  rw [List.getD_eq_getElem?_getD, List.getElem?_eq_getElem h]
  rfl
theorem vec_mem {l : List Int} {i : Nat} (h : i < l.length) : vec l i ∈ l := by
  rw [vec_get h]
  exact List.getElem_mem h
theorem vec_ext {a b : List Int} (h : a.length = b.length) (e : ∀ i, vec a i = vec b i) : a = b := List.ext_getElem h fun i h1 h2 => by
  have := e i
  rwa [vec_get h1, vec_get h2] at this
theorem len_lsl {a b : List Int} {m : Int} (h : a.length = b.length) : (lsl a b m).length = a.length := by simp [lsl, h]
theorem vec_lsl : ∀ {a b : List Int} {m : Int}, a.length = b.length → ∀ i, vec (lsl a b m) i = vec a i - m * vec b i
  | [], [], m, _, i => by simp [lsl, vec_nil]
  | x :: a, y :: b, m, h, 0 => rfl
  | x :: a, y :: b, m, h, i + 1 => by
    show vec (lsl a b m) i = vec a i - m * vec b i
    exact vec_lsl (by simpa using h) i
  | [], _ :: _, _, h, _ => by simp at h
  | _ :: _, [], _, h, _ => by simp at h
theorem mem_lsl : ∀ {a b : List Int} {m e : Int}, e ∈ lsl a b m → ∃ x ∈ a, ∃ y ∈ b, e = x - m * y
  | [], _, m, e, h => by simp [lsl] at h
  | _ :: _, [], m, e, h => by simp [lsl] at h
  | x :: a, y :: b, m, e, h => by
    rcases List.mem_cons.mp (show e ∈ (x - m * y) :: lsl a b m from h) with rfl | h
    · exact ⟨x, List.mem_cons_self .., y, List.mem_cons_self .., rfl⟩
    · obtain ⟨x', hx, y', hy, e⟩ := mem_lsl h
      exact ⟨x', List.mem_cons_of_mem _ hx, y', List.mem_cons_of_mem _ hy, e⟩
/-- rows mixed by numbers -/
def dot : List Int → List (List Int) → Ve
  | c :: m, r :: rs => fun i => c * vec r i + dot m rs i
  | _, _ => fun _ => 0
theorem dot_lsl : ∀ {a b : List Int} {m : Int} {rs : List (List Int)}, a.length = b.length → ∀ i, dot (lsl a b m) rs i = dot a rs i - m * dot b rs i
  | [], [], m, rs, _, i => by simp [lsl, dot]
  | x :: a, y :: b, m, [], h, i => by simp [lsl, dot]
  | x :: a, y :: b, m, r :: rs, h, i => by
    show (x - m * y) * vec r i + dot (lsl a b m) rs i = (x * vec r i + dot a rs i) - m * (y * vec r i + dot b rs i)
    rw [dot_lsl (by simpa using h) i, Int.sub_mul, Int.mul_add, Int.mul_assoc]
    omega
  | [], _ :: _, _, _, h, _ => by simp at h
  | _ :: _, [], _, _, h, _ => by simp at h
theorem dot_sp : ∀ (m : List Int) (rs : List (List Int)), Sl (rs.map vec) (dot m rs)
  | [], rs => by
    have : dot [] rs = fun _ => 0 := by cases rs <;> rfl
    rw [this]
    exact .zero
  | c :: m, [] => .zero
  | c :: m, r :: rs => by
    have h := Sp.mono (T := fun x => x ∈ (r :: rs).map vec) (fun x hx => List.mem_cons_of_mem _ hx) (dot_sp m rs)
    exact (h.step c (List.mem_cons_self ..)).cong fun i => by show dot m rs i + c * vec r i = c * vec r i + dot m rs i; omega
theorem dot_zero : ∀ (n : Nat) (rs : List (List Int)) (i : Nat), dot (List.replicate n 0) rs i = 0
  | 0, rs, i => by cases rs <;> rfl
  | n + 1, [], i => by simp [List.replicate_succ, dot]
  | n + 1, r :: rs, i => by
    show 0 * vec r i + dot (List.replicate n 0) rs i = 0
    rw [dot_zero n rs i]
    omega
/-- the row of n numbers with 1 at a place and 0 else -/
def unit (n at' : Nat) : List Int := (List.range n).map fun k => if k = at' then 1 else 0
theorem unit_len (n a : Nat) : (unit n a).length = n := by simp [unit]
theorem unit_succ0 (n : Nat) : unit (n + 1) 0 = 1 :: List.replicate n 0 := by
  apply List.ext_getElem
  · simp [unit]
  · intro i h1 h2
    simp [unit]
    cases i <;> simp
theorem unit_succ1 (n a : Nat) : unit (n + 1) (a + 1) = 0 :: unit n a := by
  apply List.ext_getElem
  · simp [unit]
  · intro i h1 h2
    simp [unit]
    cases i <;> simp
theorem dot_unit : ∀ (rs : List (List Int)) (a : Nat), a < rs.length → ∀ i, dot (unit rs.length a) rs i = vec (rs.getD a []) i
  | [], a, h, i => by simp at h
  | r :: rs, 0, h, i => by
    show dot (unit (rs.length + 1) 0) (r :: rs) i = _
    rw [unit_succ0]
    show 1 * vec r i + dot (List.replicate rs.length 0) rs i = vec r i
    rw [dot_zero]
    omega
  | r :: rs, a + 1, h, i => by
    show dot (unit (rs.length + 1) (a + 1)) (r :: rs) i = _
    rw [unit_succ1]
    show 0 * vec r i + dot (unit rs.length a) rs i = vec (rs.getD a []) i
    rw [dot_unit rs a (by simpa using h) i]
    omega
/-! ### the numbers at a place -/
theorem fdiv_fmod (v f : Int) : v - v.fdiv f * f = v.fmod f := by
  have := Int.mul_fdiv_add_fmod v f
  rw [Int.mul_comm] at this
  omega
theorem fmod_sgn {v f : Int} (h : f ≠ 0) : (0 < f → 0 ≤ v.fmod f ∧ v.fmod f < f) ∧ (f < 0 → f < v.fmod f ∧ v.fmod f ≤ 0) := by
  constructor
  · intro hf
    exact ⟨Int.fmod_nonneg_of_pos _ hf, Int.fmod_lt_of_pos _ hf⟩
  · intro hf
    have e : v.fmod f = -((-v).fmod (-f)) := by
      rw [Int.neg_fmod_neg]
      omega
    have h1 := Int.fmod_nonneg_of_pos (-v) (show 0 < -f by omega)
    have h2 := Int.fmod_lt_of_pos (-v) (show 0 < -f by omega)
    omega
theorem abs_mul_le {a b c d : Nat} (h1 : a ≤ c) (h2 : b ≤ d) : a * b ≤ c * d := Nat.mul_le_mul h1 h2
/-- |v // f| times |f| -/
theorem fdiv_abs {v f : Int} (h : f ≠ 0) : (v.fdiv f).natAbs * f.natAbs ≤ v.natAbs + f.natAbs := by
  rw [← Int.natAbs_mul]
  have e := fdiv_fmod v f
  have s := fmod_sgn (v := v) h
  rcases Int.lt_or_gt_of_ne h with hf | hf
  · have := s.2 hf
    omega
  · have := s.1 hf
    omega
theorem fdiv_abs1 {v f : Int} (h : f ≠ 0) : (v.fdiv f).natAbs ≤ v.natAbs + 1 := by
  have h1 := fdiv_abs (v := v) h
  have h2 : 1 ≤ f.natAbs := by omega
  rcases Nat.lt_or_ge (v.natAbs + 1) (v.fdiv f).natAbs with q | q
  · exfalso
    have h3 : (v.natAbs + 2) * f.natAbs ≤ (v.fdiv f).natAbs * f.natAbs := Nat.mul_le_mul_right _ q
    have h4 : v.natAbs * 1 ≤ v.natAbs * f.natAbs := Nat.mul_le_mul_left _ h2
    rw [Nat.add_mul] at h3
    omega
  · exact q
/-! ### gathering at a place -/
abbrev vt (p : P2) (k : Nat) : Int := vec p.1 k
structure GS (rs : List (List Int)) (w n k : Nat) (T : Ve → Prop) (l : List P2) : Prop where
  len : ∀ p ∈ l, p.1.length = w ∧ p.2.length = n
  mx : ∀ p ∈ l, ∀ i, vec p.1 i = dot p.2 rs i
  sp : ∀ x, Sl (l.map fun p => vec p.1) x ↔ T x
  z : ∀ p ∈ l, ∀ i, i < k → vec p.1 i = 0
theorem GS.perm {rs : List (List Int)} {w n k : Nat} {T : Ve → Prop} {l l' : List P2} (h : GS rs w n k T l) (e : ∀ p, p ∈ l' ↔ p ∈ l) : GS rs w n k T l' where
  len := fun p hp => h.len p ((e p).mp hp)
  mx := fun p hp => h.mx p ((e p).mp hp)
  sp := fun x => by
    rw [← h.sp x]
    have q : ∀ y, y ∈ l'.map (fun p => vec p.1) ↔ y ∈ l.map (fun p => vec p.1) := fun y => by
      simp only [List.mem_map]
      constructor
      · rintro ⟨p, h1, h2⟩
        exact ⟨p, (e p).mp h1, h2⟩
      · rintro ⟨p, h1, h2⟩
        exact ⟨p, (e p).mpr h1, h2⟩
    exact ⟨Sp.mono fun r hr => (q r).mp hr, Sp.mono fun r hr => (q r).mpr hr⟩
  z := fun p hp => h.z p ((e p).mp hp)
/-- the members of l' are f, a keeping rest, and the others less so many times f -/
theorem GS.step {rs : List (List Int)} {w n k : Nat} {T : Ve → Prop} {l l' rest oth : List P2} {f : P2} {m : P2 → Int} (h : GS rs w n k T l) (e : ∀ p, p ∈ l ↔ p = f ∨ p ∈ rest ∨ p ∈ oth)
    (e' : ∀ p, p ∈ l' ↔ p = f ∨ p ∈ rest ∨ ∃ q ∈ oth, p = less q f (m q)) : GS rs w n k T l' := by
  have hf : f ∈ l := (e f).mpr (.inl rfl)
  have lf := h.len f hf
  have ln : ∀ q ∈ oth, q.1.length = f.1.length ∧ q.2.length = f.2.length := fun q hq => by
    have := h.len q ((e q).mpr (.inr (.inr hq)))
    omega
  refine ⟨fun p hp => ?_, fun p hp i => ?_, fun x => ?_, fun p hp i hi => ?_⟩
  · rcases (e' p).mp hp with rfl | hp | ⟨q, hq, rfl⟩
    · exact lf
    · exact h.len p ((e p).mpr (.inr (.inl hp)))
    · have l1 := ln q hq
      have l2 := h.len q ((e q).mpr (.inr (.inr hq)))
      exact ⟨(len_lsl l1.1).trans l2.1, (len_lsl l1.2).trans l2.2⟩
  · rcases (e' p).mp hp with rfl | hp | ⟨q, hq, rfl⟩
    · exact h.mx _ hf i
    · exact h.mx p ((e p).mpr (.inr (.inl hp))) i
    · have l1 := ln q hq
      show vec (lsl q.1 f.1 (m q)) i = dot (lsl q.2 f.2 (m q)) rs i
      rw [vec_lsl l1.1, dot_lsl l1.2, h.mx q ((e q).mpr (.inr (.inr hq))), h.mx f hf]
  · rw [← h.sp x]
    constructor
    · refine Sp.le fun r hr => ?_
      obtain ⟨p, hp, rfl⟩ := List.mem_map.mp hr
      have mem : ∀ p ∈ l, Sl (l.map fun p => vec p.1) (vec p.1) := fun p hp => .of (List.mem_map.mpr ⟨p, hp, rfl⟩)
      rcases (e' p).mp hp with rfl | hp | ⟨q, hq, rfl⟩
      · exact mem _ hf
      · exact mem p ((e p).mpr (.inr (.inl hp)))
      · exact ((mem q ((e q).mpr (.inr (.inr hq)))).subm (m q) (mem f hf)).cong fun i => (vec_lsl (ln q hq).1 i).symm
    · refine Sp.le fun r hr => ?_
      obtain ⟨p, hp, rfl⟩ := List.mem_map.mp hr
      have mem : ∀ p ∈ l', Sl (l'.map fun p => vec p.1) (vec p.1) := fun p hp => .of (List.mem_map.mpr ⟨p, hp, rfl⟩)
      have mf := mem f ((e' f).mpr (.inl rfl))
      rcases (e p).mp hp with rfl | hp | hp
      · exact mf
      · exact mem p ((e' p).mpr (.inr (.inl hp)))
      · exact ((mem _ ((e' _).mpr (.inr (.inr ⟨p, hp, rfl⟩)))).subm (-(m p)) mf).cong fun i => by
          show vec (lsl p.1 f.1 (m p)) i - -(m p) * vec f.1 i = vec p.1 i
          rw [vec_lsl (ln p hp).1, Int.neg_mul]
          omega
  · rcases (e' p).mp hp with rfl | hp | ⟨q, hq, rfl⟩
    · exact h.z _ hf i hi
    · exact h.z p ((e p).mpr (.inr (.inl hp))) i hi
    · show vec (lsl q.1 f.1 (m q)) i = 0
      rw [vec_lsl (ln q hq).1, h.z q ((e q).mpr (.inr (.inr hq))) i hi, h.z f hf i hi]
      simp
/-! ### how great the numbers grow -/
abbrev Ent (p : P2) (e : Int) : Prop := e ∈ p.1 ∨ e ∈ p.2
theorem ent_less {p f : P2} {m e : Int} (h : Ent (less p f m) e) : ∃ x y, Ent p x ∧ Ent f y ∧ e = x - m * y := by
  rcases h with h | h
  · obtain ⟨x, hx, y, hy, e⟩ := mem_lsl h
    exact ⟨x, y, .inl hx, .inl hy, e⟩
  · obtain ⟨x, hx, y, hy, e⟩ := mem_lsl h
    exact ⟨x, y, .inr hx, .inr hy, e⟩
theorem abs_sub_mul (x m y : Int) : (x - m * y).natAbs ≤ x.natAbs + m.natAbs * y.natAbs := by
  rw [← Int.natAbs_mul]
  omega
/-- all numbers are at most M; or: same signs s, values at most P, f one of the values -/
def Phase (M : Nat) (k : Nat) (some : List P2) : Prop :=
  (∀ p ∈ some, ∀ e, Ent p e → e.natAbs ≤ M) ∨
  ∃ (s : Int) (P f : Nat), (s = 1 ∨ s = -1) ∧ (∀ p ∈ some, ∃ v : Nat, 0 < v ∧ v ≤ P ∧ vt p k = s * v) ∧ (∃ p ∈ some, vt p k = s * f) ∧ ∀ p ∈ some, ∀ e, Ent p e → e.natAbs ^ 2 * P ^ 2 * f ≤ 9 * M ^ 5
theorem sq_le {a b : Nat} (h : a ≤ b) : a ^ 2 ≤ b ^ 2 := Nat.pow_le_pow_left h 2
theorem exists_min {α : Type} (f : α → Nat) : ∀ (l : List α), l ≠ [] → ∃ a ∈ l, ∀ b ∈ l, f a ≤ f b
  | [], h => absurd rfl h
  | [a], _ => ⟨a, List.mem_cons_self .., fun b hb => by rw [List.mem_singleton.mp hb]; exact Nat.le_refl _⟩
  | a :: b :: t, _ => by
    obtain ⟨c, hc, h⟩ := exists_min f (b :: t) (by simp)
    by_cases q : f a ≤ f c
    · refine ⟨a, List.mem_cons_self .., fun d hd => ?_⟩
      rcases List.mem_cons.mp hd with rfl | hd
      · exact Nat.le_refl _
      · exact Nat.le_trans q (h d hd)
    · refine ⟨c, List.mem_cons_of_mem _ hc, fun d hd => ?_⟩
      rcases List.mem_cons.mp hd with rfl | hd
      · omega
      · exact h d hd
/-- (1 + q)^2 f r is at most (q f + r)^2 -/
theorem key_ineq {q f r : Nat} (hq : 1 ≤ q) (hr : r ≤ f) : (1 + q) ^ 2 * (f * r) ≤ (q * f + r) ^ 2 := by
  obtain ⟨d, rfl⟩ := Nat.exists_eq_add_of_le hr
  obtain ⟨c, rfl⟩ := Nat.exists_eq_add_of_le hq
  -- (1+q)^2 (r+d) r + d (q^2 (r+d) - r) = (q (r+d) + r)^2
  have e : (((1 + c) * (r + d) + r) ^ 2 : Int) = (1 + (1 + c)) ^ 2 * ((r + d) * r) + d * ((1 + c) ^ 2 * (r + d) - r) := by
    generalize (c : Int) = c
    generalize (r : Int) = r
    generalize (d : Int) = d
    simp only [Int.pow_succ, Int.pow_zero, Int.mul_add, Int.add_mul, Int.mul_sub, Int.sub_mul, Int.one_mul, Int.mul_one]
    have h1 : c * r = r * c := Int.mul_comm ..
    have h2 : d * r = r * d := Int.mul_comm ..
    have h3 : c * d = d * c := Int.mul_comm ..
    simp only [Int.mul_assoc, Int.mul_comm, Int.mul_left_comm]
    omega
  have nn : (0 : Int) ≤ (d : Int) * ((1 + (c : Int)) ^ 2 * ((r : Int) + d) - r) := by
    refine Int.mul_nonneg (Int.natCast_nonneg _) ?_
    have h1 : (1 : Int) ≤ (1 + (c : Int)) ^ 2 := by
      have : (1 : Int) ≤ 1 + c := by omega
      have := Int.mul_le_mul this this (by omega) (by omega)
      simpa [Int.pow_succ] using this
    have h2 : (1 : Int) * ((r : Int) + d) ≤ (1 + (c : Int)) ^ 2 * ((r : Int) + d) := Int.mul_le_mul_of_nonneg_right h1 (by omega)
    omega
  have fin : (((1 + (1 + c)) ^ 2 * ((r + d) * r) : Nat) : Int) ≤ (((1 + c) * (r + d) + r) ^ 2 : Nat) := by
    push_cast
    omega
  exact Int.ofNat_le.mp fin
theorem vt_less {q f : P2} {m : Int} (h : q.1.length = f.1.length) (k : Nat) : vt (less q f m) k = vt q k - m * vt f k := vec_lsl h k
theorem vt_ent {p : P2} {k : Nat} (h : vt p k ≠ 0) : Ent p (vt p k) := by
  refine .inl (vec_mem ?_)
  rcases Nat.lt_or_ge k p.1.length with q | q
  · exact q
  · exact absurd (vec_out q) h
theorem fdiv_s {s : Int} {v f : Nat} (hs : s = 1 ∨ s = -1) (hf : 0 < f) : (s * v).fdiv (s * f) = ((v / f : Nat) : Int) := by
  rcases hs with rfl | rfl
  · simp only [Int.one_mul]
    rw [Int.fdiv_eq_ediv_of_nonneg _ (by omega)]
    rfl
  · rw [Int.neg_mul, Int.one_mul, Int.neg_mul, Int.one_mul, Int.neg_fdiv_neg, Int.fdiv_eq_ediv_of_nonneg _ (by omega)]
    rfl
theorem abs_s {s : Int} {v : Nat} (hs : s = 1 ∨ s = -1) : (s * v).natAbs = v := by
  rcases hs with rfl | rfl <;> omega
theorem Phase.step {M k : Nat} {some oth some' : List P2} {f : P2} (hM : 1 ≤ M) (h : Phase M k some) (hf : f ∈ some) (hmin : ∀ p ∈ some, (vt f k).natAbs ≤ (vt p k).natAbs) (hnz : ∀ p ∈ some, vt p k ≠ 0) (ho : ∀ q ∈ oth, q ∈ some) (hl : ∀ q ∈ oth, q.1.length = f.1.length)
    (hs' : ∀ p, p ∈ some' ↔ p = f ∨ ∃ q ∈ oth, p = less q f ((vt q k).fdiv (vt f k)) ∧ vt p k ≠ 0) :
    Phase M k some' ∧ ∀ q ∈ oth, vt (less q f ((vt q k).fdiv (vt f k))) k = 0 → ∀ e, Ent (less q f ((vt q k).fdiv (vt f k))) e → e.natAbs ^ 2 ≤ 36 * M ^ 5 := by
  have f0 : vt f k ≠ 0 := hnz f hf
  have res : ∀ q ∈ oth, vt (less q f ((vt q k).fdiv (vt f k))) k = (vt q k).fmod (vt f k) := fun q hq => by rw [vt_less (hl q hq), fdiv_fmod]
  rcases h with h | ⟨s, P, g, hs, hv, ⟨p0, hp0, hg⟩, hb⟩
  · generalize hF : (vt f k).natAbs = F
    have F1 : 1 ≤ F := by omega
    have FM : F ≤ M := by
      rw [← hF]
      exact h f hf _ (vt_ent f0)
    obtain ⟨s, hs, hsf⟩ : ∃ s : Int, (s = 1 ∨ s = -1) ∧ vt f k = s * F := by
      rcases Int.lt_or_gt_of_ne f0 with q | q
      · exact ⟨-1, .inr rfl, by omega⟩
      · exact ⟨1, .inl rfl, by omega⟩
    have vM : ∀ q ∈ oth, (vt q k).natAbs ≤ M := fun q hq => h q (ho q hq) _ (vt_ent (hnz q (ho q hq)))
    constructor
    · refine .inr ⟨s, F, F, hs, fun p hp => ?_, ⟨f, (hs' f).mpr (.inl rfl), hsf⟩, fun p hp e he => ?_⟩
      · rcases (hs' p).mp hp with rfl | ⟨q, hq, rfl, h2⟩
        · exact ⟨F, F1, Nat.le_refl _, hsf⟩
        · rw [res q hq] at h2 ⊢
          have sg := fmod_sgn (v := vt q k) f0
          refine ⟨((vt q k).fmod (vt f k)).natAbs, by omega, ?_, ?_⟩
          · rcases Int.lt_or_gt_of_ne f0 with q | q
            · have := sg.2 q
              omega
            · have := sg.1 q
              omega
          · rcases hs with rfl | rfl
            · have := sg.1 (by omega)
              omega
            · have := sg.2 (by omega)
              omega
      · have key : e.natAbs * F ≤ 3 * M ^ 2 := by
          rcases (hs' p).mp hp with rfl | ⟨q, hq, rfl, h2⟩
          · have h1 : e.natAbs * F ≤ M * M := Nat.mul_le_mul (h _ hf e he) FM
            have : M ^ 2 = M * M := Nat.pow_two M
            omega
          · obtain ⟨x, y, hx, hy, rfl⟩ := ent_less he
            have b1 := h q (ho q hq) x hx
            have b2 := h f hf y hy
            have b3 := fdiv_abs (v := vt q k) f0
            rw [hF] at b3
            have b4 := abs_sub_mul x ((vt q k).fdiv (vt f k)) y
            have b5 := vM q hq
            generalize ((vt q k).fdiv (vt f k)).natAbs = m at b3 b4
            have c1 : (x - (vt q k).fdiv (vt f k) * y).natAbs * F ≤ (x.natAbs + m * y.natAbs) * F := Nat.mul_le_mul_right _ b4
            have c2 : x.natAbs * F ≤ M * M := Nat.mul_le_mul b1 FM
            have c3 : (m * F) * y.natAbs ≤ (M + M) * M := Nat.mul_le_mul (by omega) b2
            have c4 : (x.natAbs + m * y.natAbs) * F = x.natAbs * F + (m * F) * y.natAbs := by grind
            have c5 : (M + M) * M = 2 * (M * M) := by grind
            have c6 : M ^ 2 = M * M := Nat.pow_two M
            omega
        calc e.natAbs ^ 2 * F ^ 2 * F = (e.natAbs * F) ^ 2 * F := by grind
          _ ≤ (3 * M ^ 2) ^ 2 * M := Nat.mul_le_mul (sq_le key) FM
          _ = 9 * M ^ 5 := by grind
    · intro q hq h0 e he
      obtain ⟨x, y, hx, hy, rfl⟩ := ent_less he
      have b1 := h q (ho q hq) x hx
      have b2 := h f hf y hy
      have b4 := abs_sub_mul x ((vt q k).fdiv (vt f k)) y
      have b5 := vM q hq
      rw [vt_less (hl q hq)] at h0
      have e1 : vt q k = (vt q k).fdiv (vt f k) * vt f k := by omega
      have e2 : (vt q k).natAbs = ((vt q k).fdiv (vt f k)).natAbs * (vt f k).natAbs := by rw [← Int.natAbs_mul, ← e1]
      generalize ((vt q k).fdiv (vt f k)).natAbs = m at b4 e2
      rw [hF] at e2
      have b6 : m * 1 ≤ m * F := Nat.mul_le_mul_left _ F1
      have b7 : m * y.natAbs ≤ M * M := Nat.mul_le_mul (by omega) b2
      have b8 : M * 1 ≤ M * M := Nat.mul_le_mul_left _ hM
      have b9 : (x - (vt q k).fdiv (vt f k) * y).natAbs ≤ 2 * (M * M) := by omega
      refine Nat.le_trans (sq_le b9) ?_
      calc (2 * (M * M)) ^ 2 = 4 * M ^ 4 * 1 := by grind
        _ ≤ 4 * M ^ 4 * (9 * M) := Nat.mul_le_mul_left _ (by omega)
        _ = 36 * M ^ 5 := by grind
  · obtain ⟨F, F1, FP, hF⟩ := hv f hf
    have Fg : F ≤ g := by
      have := hmin p0 hp0
      rw [hF, hg, abs_s hs, abs_s hs] at this
      exact this
    have E : ∀ p ∈ some, ∀ x, Ent p x → ∀ q ∈ some, ∀ y, Ent q y → ∃ z : Nat, x.natAbs ≤ z ∧ y.natAbs ≤ z ∧ z ^ 2 * P ^ 2 * g ≤ 9 * M ^ 5 := fun p hp x hx q hq y hy => by
      rcases Nat.le_total x.natAbs y.natAbs with c | c
      · exact ⟨y.natAbs, c, Nat.le_refl _, hb q hq y hy⟩
      · exact ⟨x.natAbs, Nat.le_refl _, c, hb p hp x hx⟩
    have rd : ∀ q ∈ oth, ∃ v : Nat, vt q k = s * v ∧ F ≤ v ∧ v ≤ P ∧ (vt q k).fdiv (vt f k) = ((v / F : Nat) : Int) ∧ vt (less q f ((vt q k).fdiv (vt f k))) k = s * (v % F : Nat) := fun q hq => by
      obtain ⟨v, v1, v2, v3⟩ := hv q (ho q hq)
      have := hmin q (ho q hq)
      rw [hF, v3, abs_s hs, abs_s hs] at this
      have e : (vt q k).fdiv (vt f k) = ((v / F : Nat) : Int) := by rw [v3, hF, fdiv_s hs F1]
      refine ⟨v, v3, this, v2, e, ?_⟩
      rw [vt_less (hl q hq), e, v3, hF]
      have d : ((F * (v / F) + v % F : Nat) : Int) = (v : Int) := congrArg Int.ofNat (Nat.div_add_mod v F)
      rw [Int.natCast_add, Int.natCast_mul] at d
      rw [← d]
      have c1 : ((v / F : Nat) : Int) * (s * (F : Int)) = s * ((F : Int) * ((v / F : Nat) : Int)) := by grind
      rw [d, c1, ← d, Int.mul_add]
      have : ((F * (v / F) + v % F : Nat) : Int) = (F : Int) * ((v / F : Nat) : Int) + ((v % F : Nat) : Int) := by rw [Int.natCast_add, Int.natCast_mul]
      omega
    have bd : ∀ q ∈ oth, ∀ v : Nat, (vt q k).fdiv (vt f k) = ((v / F : Nat) : Int) → ∀ e, Ent (less q f ((vt q k).fdiv (vt f k))) e → ∃ z : Nat, e.natAbs ≤ (1 + v / F) * z ∧ z ^ 2 * P ^ 2 * g ≤ 9 * M ^ 5 := fun q hq v hd e he => by
      obtain ⟨x, y, hx, hy, rfl⟩ := ent_less he
      obtain ⟨z, z1, z2, z3⟩ := E q (ho q hq) x hx f hf y hy
      refine ⟨z, ?_, z3⟩
      have b4 := abs_sub_mul x ((vt q k).fdiv (vt f k)) y
      rw [hd] at b4 ⊢
      have b5 : (v / F) * y.natAbs ≤ (v / F) * z := Nat.mul_le_mul_left _ z2
      rw [Nat.add_mul, Nat.one_mul]
      simp only [Int.natAbs_natCast] at b4
      omega
    constructor
    · obtain ⟨p1, hp1, hm1⟩ := exists_min (fun p => (vt p k).natAbs) some' (fun z => by
        have := (hs' f).mpr (.inl rfl)
        rw [z] at this
        cases this)
      have sg : ∀ p ∈ some', ∃ v : Nat, 0 < v ∧ v ≤ F ∧ vt p k = s * v := fun p hp => by
        rcases (hs' p).mp hp with rfl | ⟨q, hq, rfl, h2⟩
        · exact ⟨F, F1, Nat.le_refl _, hF⟩
        · obtain ⟨v, _, _, _, _, r4⟩ := rd q hq
          rw [r4] at h2 ⊢
          refine ⟨v % F, ?_, Nat.le_of_lt (Nat.mod_lt _ F1), rfl⟩
          rcases Nat.eq_zero_or_pos (v % F) with c | c
          · rw [c] at h2
            simp at h2
          · exact c
      obtain ⟨g', g1, g2, g3⟩ := sg p1 hp1
      have gm : ∀ p ∈ some', ∀ v : Nat, vt p k = s * v → g' ≤ v := fun p hp v e => by
        have := hm1 p hp
        rw [g3, e, abs_s hs, abs_s hs] at this
        exact this
      refine .inr ⟨s, F, g', hs, sg, ⟨p1, hp1, g3⟩, fun p hp e he => ?_⟩
      rcases (hs' p).mp hp with rfl | ⟨q, hq, rfl, h2⟩
      · exact Nat.le_trans (Nat.mul_le_mul (Nat.mul_le_mul_left _ (sq_le FP)) (Nat.le_trans g2 Fg)) (hb _ hf e he)
      · obtain ⟨v, r1, r2, r3, r4, r5⟩ := rd q hq
        obtain ⟨z, z1, z2⟩ := bd q hq v r4 e he
        have r6 := gm _ hp _ r5
        have q1 : 1 ≤ v / F := Nat.div_pos r2 F1
        have ki := key_ineq (q := v / F) (f := F) (r := v % F) q1 (Nat.le_of_lt (Nat.mod_lt _ F1))
        have dv : v / F * F + v % F = v := by rw [Nat.mul_comm]; exact Nat.div_add_mod v F
        rw [dv] at ki
        calc e.natAbs ^ 2 * F ^ 2 * g' ≤ ((1 + v / F) * z) ^ 2 * F ^ 2 * (v % F) := Nat.mul_le_mul (Nat.mul_le_mul_right _ (sq_le z1)) r6
          _ = z ^ 2 * ((1 + v / F) ^ 2 * (F * (v % F))) * F := by grind
          _ ≤ z ^ 2 * P ^ 2 * g := Nat.mul_le_mul (Nat.mul_le_mul_left _ (Nat.le_trans ki (sq_le r3))) Fg
          _ ≤ 9 * M ^ 5 := z2
    · intro q hq h0 e he
      obtain ⟨v, r1, r2, r3, r4, r5⟩ := rd q hq
      obtain ⟨z, z1, z2⟩ := bd q hq v r4 e he
      rw [r5] at h0
      have m0 : v % F = 0 := by
        have := congrArg Int.natAbs h0
        rw [abs_s hs] at this
        simpa using this
      have q1 : 1 ≤ v / F := Nat.div_pos r2 F1
      have dv : v / F * F = v := by
        have := Nat.div_add_mod v F
        rw [Nat.mul_comm] at this
        omega
      have c1 : v / F * 1 ≤ v / F * F := Nat.mul_le_mul_left _ F1
      have c2 : 1 + v / F ≤ 2 * P := by omega
      have c3 : e.natAbs ≤ 2 * P * z := Nat.le_trans z1 (Nat.mul_le_mul_right _ c2)
      calc e.natAbs ^ 2 ≤ (2 * P * z) ^ 2 := sq_le c3
        _ = 4 * (z ^ 2 * P ^ 2 * 1) := by grind
        _ ≤ 4 * (z ^ 2 * P ^ 2 * g) := Nat.mul_le_mul_left _ (Nat.mul_le_mul_left _ (by omega))
        _ ≤ 4 * (9 * M ^ 5) := Nat.mul_le_mul_left _ z2
        _ = 36 * M ^ 5 := by omega
def Bd (b : Nat) (l : List P2) : Prop := ∀ p ∈ l, ∀ e, Ent p e → e.natAbs < 2 ^ b
abbrev up (b : Nat) : Nat := (5 * b + 7) / 2
theorem bd_sq {b e : Nat} (h : e ^ 2 ≤ 36 * (2 ^ b) ^ 5) : e < 2 ^ up b := by
  have h1 : 36 * (2 ^ b) ^ 5 < 2 ^ (5 * b + 6) := by
    rw [← Nat.pow_mul, Nat.pow_add, Nat.mul_comm b 5, Nat.mul_comm (2 ^ (5 * b))]
    exact Nat.mul_lt_mul_of_pos_right (by decide) (Nat.pow_pos (by decide))
  have h2 : 2 ^ (5 * b + 6) ≤ (2 ^ up b) ^ 2 := by
    rw [← Nat.pow_mul]
    exact Nat.pow_le_pow_right (by decide) (by unfold up; omega)
  rcases Nat.lt_or_ge e (2 ^ up b) with q | q
  · exact q
  · have := sq_le q
    omega
theorem Phase.sq {M k : Nat} {some : List P2} (hM : 1 ≤ M) (h : Phase M k some) : ∀ p ∈ some, ∀ e, Ent p e → e.natAbs ^ 2 ≤ 36 * M ^ 5 := by
  intro p hp e he
  rcases h with h | ⟨s, P, g, hs, hv, ⟨p0, hp0, hg⟩, hb⟩
  · have := sq_le (h p hp e he)
    have h3 : M ^ 2 * 1 ≤ M ^ 2 * (36 * M ^ 3) := Nat.mul_le_mul_left _ (by
      have := Nat.pow_pos (n := 3) hM
      omega)
    have h4 : M ^ 2 * (36 * M ^ 3) = 36 * M ^ 5 := by grind
    omega
  · have := hb p hp e he
    obtain ⟨v, v1, v2, _⟩ := hv p hp
    obtain ⟨v', v1', _, e2⟩ := hv p0 hp0
    have g1 : 1 ≤ g := by
      rcases hs with rfl | rfl <;> omega
    have p1 : 1 ≤ P ^ 2 * g := Nat.mul_pos (Nat.pow_pos (by omega)) g1
    have : e.natAbs ^ 2 * 1 ≤ e.natAbs ^ 2 * (P ^ 2 * g) := Nat.mul_le_mul_left _ p1
    have c : e.natAbs ^ 2 * (P ^ 2 * g) = e.natAbs ^ 2 * P ^ 2 * g := by grind
    omega
/-- under way: some with a number at k, rest with 0 there -/
structure GI (rs : List (List Int)) (w n k b : Nat) (T : Ve → Prop) (some rest : List P2) : Prop where
  gs : GS rs w n k T (some ++ rest)
  nz : ∀ p ∈ some, vt p k ≠ 0
  r0 : ∀ p ∈ rest, vt p k = 0
  ph : Phase (2 ^ b) k some
  br : ∀ p ∈ rest, ∀ e, Ent p e → e.natAbs ^ 2 ≤ 36 * (2 ^ b) ^ 5
theorem GI.bd {rs : List (List Int)} {w n k b : Nat} {T : Ve → Prop} {some rest : List P2} (h : GI rs w n k b T some rest) : Bd (up b) (some ++ rest) := fun p hp e he => by
  rcases List.mem_append.mp hp with hp | hp
  · exact bd_sq (h.ph.sq (Nat.pow_pos (by decide)) p hp e he)
  · exact bd_sq (h.br p hp e he)
theorem GI.start {rs : List (List Int)} {w n k b : Nat} {T : Ve → Prop} {l : List P2} (h : GS rs w n k T l) (hb : Bd b l) : GI rs w n k b T (l.filter fun p => decide (vt p k ≠ 0)) (l.filter fun p => decide (vt p k = 0)) where
  gs := h.perm fun p => by
    simp only [List.mem_append, List.mem_filter, decide_eq_true_eq]
    constructor
    · rintro (h | h) <;> exact h.1
    · intro hp
      by_cases q : vt p k = 0
      · exact .inr ⟨hp, q⟩
      · exact .inl ⟨hp, q⟩
  nz := fun p hp => by simpa using (List.mem_filter.mp hp).2
  r0 := fun p hp => by simpa using (List.mem_filter.mp hp).2
  ph := .inl fun p hp e he => Nat.le_of_lt (hb p (List.mem_filter.mp hp).1 e he)
  br := fun p hp e he => by
    have h1 : Phase (2 ^ b) k l := .inl fun p hp e he => Nat.le_of_lt (hb p hp e he)
    exact h1.sq (Nat.pow_pos (by decide)) p (List.mem_filter.mp hp).1 e he
abbrev lss (k : Nat) (f : P2) (q : P2) : P2 := less q f ((vt q k).fdiv (vt f k))
theorem GI.step {rs : List (List Int)} {w n k b : Nat} {T : Ve → Prop} {some rest oth : List P2} {f : P2} (h : GI rs w n k b T some rest) (hf : f ∈ some) (hmin : ∀ p ∈ some, (vt f k).natAbs ≤ (vt p k).natAbs) (ho : ∀ p, p ∈ some ↔ p = f ∨ p ∈ oth) :
    GI rs w n k b T (f :: (oth.map (lss k f)).filter fun p => decide (vt p k ≠ 0)) (rest ++ (oth.map (lss k f)).filter fun p => decide (vt p k = 0)) := by
  have hl : ∀ q ∈ oth, q.1.length = f.1.length := fun q hq => by
    have h1 := h.gs.len q (List.mem_append_left _ ((ho q).mpr (.inr hq)))
    have h2 := h.gs.len f (List.mem_append_left _ hf)
    omega
  have st := Phase.step (some' := f :: (oth.map (lss k f)).filter fun p => decide (vt p k ≠ 0)) (Nat.pow_pos (by decide)) h.ph hf hmin h.nz (fun q hq => (ho q).mpr (.inr hq)) hl fun p => by
    simp only [List.mem_cons, List.mem_filter, List.mem_map, decide_eq_true_eq]
    constructor
    · rintro (h | ⟨⟨q, h1, h2⟩, h3⟩)
      · exact .inl h
      · exact .inr ⟨q, h1, h2.symm, h3⟩
    · rintro (h | ⟨q, h1, h2, h3⟩)
      · exact .inl h
      · exact .inr ⟨⟨q, h1, h2.symm⟩, h3⟩
  refine ⟨h.gs.step (f := f) (rest := rest) (oth := oth) (m := fun q => (vt q k).fdiv (vt f k)) (fun p => ?_) (fun p => ?_), fun p hp => ?_, fun p hp => ?_, st.1, fun p hp e he => ?_⟩
  · rw [List.mem_append, ho]
    constructor
    · rintro ((h | h) | h)
      · exact .inl h
      · exact .inr (.inr h)
      · exact .inr (.inl h)
    · rintro (h | h | h)
      · exact .inl (.inl h)
      · exact .inr h
      · exact .inl (.inr h)
  · simp only [List.mem_append, List.mem_cons, List.mem_filter, List.mem_map, decide_eq_true_eq]
    constructor
    · rintro ((h | ⟨⟨q, h1, h2⟩, h3⟩) | (h | ⟨⟨q, h1, h2⟩, h3⟩))
      · exact .inl h
      · exact .inr (.inr ⟨q, h1, h2.symm⟩)
      · exact .inr (.inl h)
      · exact .inr (.inr ⟨q, h1, h2.symm⟩)
    · rintro (h | h | ⟨q, h1, h2⟩)
      · exact .inl (.inl h)
      · exact .inr (.inl h)
      · by_cases c : vt p k = 0
        · exact .inr (.inr ⟨⟨q, h1, h2.symm⟩, c⟩)
        · exact .inl (.inr ⟨⟨q, h1, h2.symm⟩, c⟩)
  · rcases List.mem_cons.mp hp with rfl | hp
    · exact h.nz _ hf
    · simpa using (List.mem_filter.mp hp).2
  · rcases List.mem_append.mp hp with hp | hp
    · exact h.r0 p hp
    · simpa using (List.mem_filter.mp hp).2
  · rcases List.mem_append.mp hp with hp | hp
    · exact h.br p hp e he
    · obtain ⟨h1, h2⟩ := List.mem_filter.mp hp
      obtain ⟨q, hq, rfl⟩ := List.mem_map.mp h1
      exact st.2 q hq (by simpa using h2) e he
/-- the measure -/
def msr (k : Nat) (l : List P2) : Nat := (l.map fun p => (vt p k).natAbs).sum
theorem msr_filter (k : Nat) (P : P2 → Bool) : ∀ l : List P2, msr k (l.filter P) ≤ msr k l
  | [] => Nat.le_refl _
  | p :: l => by
    have := msr_filter k P l
    by_cases q : P p = true
    · rw [List.filter_cons_of_pos q]
      show (vt p k).natAbs + msr k (l.filter P) ≤ (vt p k).natAbs + msr k l
      omega
    · rw [List.filter_cons_of_neg q]
      show msr k (l.filter P) ≤ (vt p k).natAbs + msr k l
      omega
theorem msr_less {k : Nat} {f : P2} (f0 : vt f k ≠ 0) : ∀ {oth : List P2}, oth ≠ [] → (∀ q ∈ oth, q.1.length = f.1.length ∧ (vt f k).natAbs ≤ (vt q k).natAbs) → msr k (oth.map (lss k f)) < msr k oth
  | [], h, _ => absurd rfl h
  | q :: t, _, h => by
    have hq := h q (List.mem_cons_self ..)
    have h1 : (vt (lss k f q) k).natAbs < (vt q k).natAbs := by
      rw [vt_less hq.1, fdiv_fmod]
      have := fmod_sgn (v := vt q k) f0
      omega
    show (vt (lss k f q) k).natAbs + msr k (t.map (lss k f)) < (vt q k).natAbs + msr k t
    cases t with
    | nil => exact Nat.add_lt_add_right h1 _
    | cons q2 t =>
      have := msr_less f0 (oth := q2 :: t) (by simp) fun p hp => h p (List.mem_cons_of_mem _ hp)
      omega
/-- a stair, made small at the foot of a row put behind it -/
theorem Stair.snoc {k : Nat} {f : Ve} (hf : Ft f k) : ∀ {l : List Ve}, Stair l → (∀ r ∈ l, ∃ j, j < k ∧ Ft r j) → ∀ (g : Ve → Ve), (∀ r ∈ l, ∃ c : Int, ∀ i, g r i = r i - c * f i) → (∀ r ∈ l, 0 ≤ g r k ∧ g r k < f k) → Stair (l.map g ++ [f]) := by
  intro l hl
  induction hl with
  | nil =>
    intro _ g _ _
    exact .cons hf (fun r hr => by cases hr) (fun r hr => by cases hr) .nil
  | @cons a t j hj hz hsm ht ih =>
    intro hlt g hg hk
    have f0 : ∀ i, i < k → f i = 0 := hf.1
    obtain ⟨j', hj'1, hj'2⟩ := hlt a (List.mem_cons_self ..)
    obtain rfl := hj.uniq hj'2
    have same : ∀ r ∈ a :: t, ∀ i, i < k → g r i = r i := fun r hr i hi => by
      obtain ⟨c, hc⟩ := hg r hr
      rw [hc, f0 i hi]
      simp
    have ih2 := ih (fun r hr => hlt r (List.mem_cons_of_mem _ hr)) g (fun r hr => hg r (List.mem_cons_of_mem _ hr)) (fun r hr => hk r (List.mem_cons_of_mem _ hr))
    show Stair (g a :: (t.map g ++ [f]))
    have ha := same a (List.mem_cons_self ..)
    refine .cons (k := j) ⟨fun i hi => ?_, ?_⟩ (fun r hr i hi => ?_) (fun r hr q hq => ?_) ih2
    · rw [ha i (by omega)]
      exact hj.1 i hi
    · rw [ha j hj'1]
      exact hj.2
    · rcases List.mem_append.mp hr with hr | hr
      · obtain ⟨r', h1, rfl⟩ := List.mem_map.mp hr
        rw [same r' (List.mem_cons_of_mem _ h1) i (by omega)]
        exact hz r' h1 i hi
      · rw [List.mem_singleton.mp hr]
        exact f0 i (by omega)
    · rcases List.mem_append.mp hr with hr' | hr'
      · obtain ⟨r', h1, rfl⟩ := List.mem_map.mp hr'
        obtain ⟨q', h2, h3⟩ := hlt r' (List.mem_cons_of_mem _ h1)
        have sm := same r' (List.mem_cons_of_mem _ h1)
        have hq' : Ft (g r') q' := ⟨fun i hi => by rw [sm i (by omega)]; exact h3.1 i hi, by rw [sm q' h2]; exact h3.2⟩
        obtain rfl := hq.uniq hq'
        rw [ha q h2, sm q h2]
        exact hsm r' h1 q h3
      · rw [List.mem_singleton.mp hr'] at hq ⊢
        obtain rfl := hq.uniq hf
        exact hk a (List.mem_cons_self ..)
/-- the rows done, the pairs left, ahead of column k -/
structure DI (rs : List (List Int)) (w n k b c : Nat) (T : Ve → Prop) (done left : List P2) : Prop where
  len : ∀ p ∈ done ++ left, p.1.length = w ∧ p.2.length = n
  mx : ∀ p ∈ done ++ left, ∀ i, vec p.1 i = dot p.2 rs i
  sp : ∀ x, Sl ((done ++ left).map fun p => vec p.1) x ↔ T x
  zl : ∀ p ∈ left, ∀ i, i < k → vec p.1 i = 0
  bl : Bd b left
  bd : Bd c done
  st : Stair (done.map fun p => vec p.1)
  ft : ∀ p ∈ done, ∃ j, j < k ∧ Ft (vec p.1) j
theorem DI.gs {rs : List (List Int)} {w n k b c : Nat} {T : Ve → Prop} {done left : List P2} (h : DI rs w n k b c T done left) : GS rs w n k (Sl (left.map fun p => vec p.1)) left where
  len := fun p hp => h.len p (List.mem_append_right _ hp)
  mx := fun p hp => h.mx p (List.mem_append_right _ hp)
  sp := fun x => Iff.rfl
  z := h.zl
theorem sl_app {a b b' : List Ve} (h : ∀ x, Sl b x ↔ Sl b' x) (x : Ve) : Sl (a ++ b) x ↔ Sl (a ++ b') x := by
  have key : ∀ b b' : List Ve, (∀ x, Sl b x ↔ Sl b' x) → ∀ x, Sl (a ++ b) x → Sl (a ++ b') x := fun b b' h x => Sp.le fun r hr => by
    rcases List.mem_append.mp hr with hr | hr
    · exact .of (List.mem_append_left _ hr)
    · exact Sp.mono (fun r hr => List.mem_append_right _ hr) ((h r).mp (.of hr))
  exact ⟨key b b' h x, key b' b (fun x => (h x).symm) x⟩
theorem DI.none {rs : List (List Int)} {w n k b c : Nat} {T : Ve → Prop} {done left rest : List P2} (h : DI rs w n k b c T done left) (g : GI rs w n k b (Sl (left.map fun p => vec p.1)) [] rest) : DI rs w n (k + 1) (up b) c T done rest where
  len := fun p hp => by
    rcases List.mem_append.mp hp with hp | hp
    · exact h.len p (List.mem_append_left _ hp)
    · exact g.gs.len p hp
  mx := fun p hp => by
    rcases List.mem_append.mp hp with hp | hp
    · exact h.mx p (List.mem_append_left _ hp)
    · exact g.gs.mx p hp
  sp := fun x => by
    rw [← h.sp x, List.map_append, List.map_append]
    exact sl_app (fun x => g.gs.sp x) x
  zl := fun p hp i hi => by
    rcases Nat.lt_or_ge i k with q | q
    · exact g.gs.z p hp i q
    · have : i = k := by omega
      rw [this]
      exact g.r0 p hp
  bl := g.bd
  bd := h.bd
  st := h.st
  ft := fun p hp => by
    obtain ⟨j, h1, h2⟩ := h.ft p hp
    exact ⟨j, by omega, h2⟩
/-- with a row for column k: f's number there is above 0 -/
theorem DI.some {rs : List (List Int)} {w n k b c : Nat} {T : Ve → Prop} {done left rest : List P2} {f0 f : P2} (h : DI rs w n k b c T done left) (g : GI rs w n k b (Sl (left.map fun p => vec p.1)) [f0] rest)
    (hf : f = f0 ∧ 0 < vt f0 k ∨ f = less f0 f0 2 ∧ vt f0 k < 0) : DI rs w n (k + 1) (up b) (c + up b + 1) T (done.map (lss k f) ++ [f]) rest := by
  have lf0 := g.gs.len f0 (List.mem_append_left _ (List.mem_singleton_self _))
  have mf0 := g.gs.mx f0 (List.mem_append_left _ (List.mem_singleton_self _))
  have zf0 := g.gs.z f0 (List.mem_append_left _ (List.mem_singleton_self _))
  have bf0 := g.bd f0 (List.mem_append_left _ (List.mem_singleton_self _))
  have key : (f.1.length = w ∧ f.2.length = n) ∧ (∀ i, vec f.1 i = dot f.2 rs i) ∧ (∀ i, i < k → vec f.1 i = 0) ∧ (∀ e, Ent f e → e.natAbs < 2 ^ up b) ∧ 0 < vt f k ∧ ∃ s : Int, (s = 1 ∨ s = -1) ∧ ∀ i, vec f.1 i = s * vec f0.1 i := by
    rcases hf with ⟨rfl, hp⟩ | ⟨rfl, hp⟩
    · exact ⟨lf0, mf0, zf0, bf0, hp, 1, .inl rfl, fun i => by omega⟩
    · have v : ∀ i, vec (less f0 f0 2).1 i = -1 * vec f0.1 i := fun i => by
        show vec (lsl f0.1 f0.1 2) i = _
        rw [vec_lsl rfl]
        omega
      refine ⟨⟨(len_lsl rfl).trans lf0.1, (len_lsl rfl).trans lf0.2⟩, fun i => ?_, fun i hi => by rw [v, zf0 i hi]; rfl, fun e he => ?_, by show 0 < vec (less f0 f0 2).1 k; rw [v]; have : vec f0.1 k < 0 := hp; omega, -1, .inr rfl, v⟩
      · show _ = dot (lsl f0.2 f0.2 2) rs i
        rw [v, dot_lsl rfl, mf0]
        omega
      · have neg : ∀ (l : List Int) (e : Int), e ∈ lsl l l 2 → ∃ x ∈ l, e = -x := by
          intro l
          induction l with
          | nil => intro e he; simp [lsl] at he
          | cons a l ih =>
            intro e he
            rcases List.mem_cons.mp (show e ∈ (a - 2 * a) :: lsl l l 2 from he) with rfl | he
            · exact ⟨a, List.mem_cons_self .., by omega⟩
            · obtain ⟨x, hx, e2⟩ := ih e he
              exact ⟨x, List.mem_cons_of_mem _ hx, e2⟩
        rcases he with he | he
        · obtain ⟨x, hx, rfl⟩ := neg _ _ he
          have := bf0 x (.inl hx)
          omega
        · obtain ⟨x, hx, rfl⟩ := neg _ _ he
          have := bf0 x (.inr hx)
          omega
  obtain ⟨lf, mf, zf, bf, pf, s, hs, vf⟩ := key
  have hft : Ft (vec f.1) k := ⟨zf, pf⟩
  have ld : ∀ p ∈ done, p.1.length = f.1.length ∧ p.2.length = f.2.length := fun p hp => by
    have := h.len p (List.mem_append_left _ hp)
    omega
  have vl : ∀ p ∈ done, ∀ i, vec (lss k f p).1 i = vec p.1 i - (vt p k).fdiv (vt f k) * vec f.1 i := fun p hp i => vec_lsl (ld p hp).1 i
  -- the span of f with rest is that of left
  have spf : ∀ x, Sl ((f :: rest).map fun p => vec p.1) x ↔ Sl (left.map fun p => vec p.1) x := fun x => by
    rw [← g.gs.sp x]
    constructor
    · refine Sp.le fun r hr => ?_
      rcases List.mem_cons.mp hr with rfl | hr
      · have : Sl (([f0] ++ rest).map fun p => vec p.1) (vec f0.1) := .of (List.mem_cons_self ..)
        exact (this.smul s).cong fun i => (vf i).symm
      · exact .of (List.mem_cons_of_mem _ hr)
    · refine Sp.le fun r hr => ?_
      rcases List.mem_cons.mp hr with rfl | hr
      · have : Sl ((f :: rest).map fun p => vec p.1) (vec f.1) := .of (List.mem_cons_self ..)
        exact (this.smul s).cong fun i => by
          show s * vec f.1 i = vec f0.1 i
          rw [vf]
          rcases hs with rfl | rfl <;> omega
      · exact .of (List.mem_cons_of_mem _ hr)
  refine ⟨fun p hp => ?_, fun p hp i => ?_, fun x => ?_, fun p hp i hi => ?_, fun p hp => g.bd p (List.mem_append_right _ hp), fun p hp e he => ?_, ?_, fun p hp => ?_⟩
  · rcases List.mem_append.mp hp with hp | hp
    · rcases List.mem_append.mp hp with hp | hp
      · obtain ⟨q, hq, rfl⟩ := List.mem_map.mp hp
        have := h.len q (List.mem_append_left _ hq)
        exact ⟨(len_lsl (ld q hq).1).trans this.1, (len_lsl (ld q hq).2).trans this.2⟩
      · rw [List.mem_singleton.mp hp]
        exact lf
    · exact g.gs.len p (List.mem_append_right _ hp)
  · rcases List.mem_append.mp hp with hp | hp
    · rcases List.mem_append.mp hp with hp | hp
      · obtain ⟨q, hq, rfl⟩ := List.mem_map.mp hp
        rw [vl q hq]
        show _ = dot (lsl q.2 f.2 _) rs i
        rw [dot_lsl (ld q hq).2, h.mx q (List.mem_append_left _ hq), mf]
      · rw [List.mem_singleton.mp hp]
        exact mf i
    · exact g.gs.mx p (List.mem_append_right _ hp) i
  · rw [← h.sp x]
    have e1 : Sl ((done ++ left).map fun p => vec p.1) x ↔ Sl ((done ++ (f :: rest)).map fun p => vec p.1) x := by
      rw [List.map_append, List.map_append]
      exact sl_app (fun x => (spf x).symm) x
    rw [e1]
    constructor
    · refine Sp.le fun r hr => ?_
      obtain ⟨p, hp, rfl⟩ := List.mem_map.mp hr
      have mem : ∀ p ∈ done ++ (f :: rest), Sl ((done ++ (f :: rest)).map fun p => vec p.1) (vec p.1) := fun p hp => .of (List.mem_map.mpr ⟨p, hp, rfl⟩)
      have memf := mem f (List.mem_append_right _ (List.mem_cons_self ..))
      rcases List.mem_append.mp hp with hp | hp
      · rcases List.mem_append.mp hp with hp | hp
        · obtain ⟨q, hq, rfl⟩ := List.mem_map.mp hp
          exact ((mem q (List.mem_append_left _ hq)).subm _ memf).cong fun i => (vl q hq i).symm
        · rw [List.mem_singleton.mp hp]
          exact memf
      · exact mem p (List.mem_append_right _ (List.mem_cons_of_mem _ hp))
    · refine Sp.le fun r hr => ?_
      obtain ⟨p, hp, rfl⟩ := List.mem_map.mp hr
      have mem : ∀ p ∈ done.map (lss k f) ++ [f] ++ rest, Sl ((done.map (lss k f) ++ [f] ++ rest).map fun p => vec p.1) (vec p.1) := fun p hp => .of (List.mem_map.mpr ⟨p, hp, rfl⟩)
      have memf := mem f (List.mem_append_left _ (List.mem_append_right _ (List.mem_singleton_self _)))
      rcases List.mem_append.mp hp with hp | hp
      · exact ((mem (lss k f p) (List.mem_append_left _ (List.mem_append_left _ (List.mem_map.mpr ⟨p, hp, rfl⟩)))).subm (-((vt p k).fdiv (vt f k))) memf).cong fun i => by
          show vec (lss k f p).1 i - -((vt p k).fdiv (vt f k)) * vec f.1 i = vec p.1 i
          rw [vl p hp, Int.neg_mul]
          omega
      · rcases List.mem_cons.mp hp with rfl | hp
        · exact memf
        · exact mem p (List.mem_append_right _ hp)
  · rcases Nat.lt_or_ge i k with q | q
    · exact g.gs.z p (List.mem_append_right _ hp) i q
    · have : i = k := by omega
      rw [this]
      exact g.r0 p hp
  · have pw : 2 ^ (c + up b + 1) = 2 * (2 ^ c * 2 ^ up b) := by
      rw [← Nat.pow_add, Nat.pow_succ]
      omega
    have c1 : 1 ≤ 2 ^ c := Nat.pow_pos (by decide)
    have c2 : 1 ≤ 2 ^ up b := Nat.pow_pos (by decide)
    rcases List.mem_append.mp hp with hp | hp
    · obtain ⟨q, hq, rfl⟩ := List.mem_map.mp hp
      obtain ⟨x, y, hx, hy, rfl⟩ := ent_less he
      have b1 := h.bd q hq x hx
      have b2 := bf y hy
      have b3 := abs_sub_mul x ((vt q k).fdiv (vt f k)) y
      have b4 : ((vt q k).fdiv (vt f k)).natAbs ≤ 2 ^ c := by
        have := fdiv_abs1 (v := vt q k) (f := vt f k) (by omega)
        have b5 : (vt q k).natAbs < 2 ^ c := by
          by_cases z : vt q k = 0
          · rw [z]
            exact c1
          · exact h.bd q hq _ (vt_ent z)
        omega
      have b6 : ((vt q k).fdiv (vt f k)).natAbs * y.natAbs ≤ 2 ^ c * (2 ^ up b - 1) := Nat.mul_le_mul b4 (by omega)
      have b7 : 2 ^ c * (2 ^ up b - 1) + 2 ^ c = 2 ^ c * 2 ^ up b := by
        rw [Nat.mul_sub, Nat.mul_one]
        have : 2 ^ c * 1 ≤ 2 ^ c * 2 ^ up b := Nat.mul_le_mul_left _ c2
        omega
      have b8 : 1 * 1 ≤ 2 ^ c * 2 ^ up b := Nat.mul_le_mul c1 c2
      omega
    · rw [List.mem_singleton.mp hp] at he
      have := bf e he
      have : 1 * 2 ^ up b ≤ 2 ^ c * 2 ^ up b := Nat.mul_le_mul_right _ c1
      omega
  · rw [List.map_append, List.map_map]
    have hg := Stair.snoc hft h.st (fun r hr => by
      obtain ⟨p, hp, rfl⟩ := List.mem_map.mp hr
      exact h.ft p hp) (fun r i => r i - (r k).fdiv (vt f k) * vec f.1 i) (fun r hr => ⟨(r k).fdiv (vt f k), fun i => rfl⟩) (fun r hr => by
      show 0 ≤ r k - (r k).fdiv (vt f k) * vt f k ∧ r k - (r k).fdiv (vt f k) * vt f k < vt f k
      rw [fdiv_fmod]
      exact (fmod_sgn (by omega)).1 pf)
    rw [List.map_map] at hg
    have e : (done.map ((fun p : P2 => vec p.1) ∘ lss k f)) = done.map ((fun (r : Ve) i => r i - (r k).fdiv (vt f k) * vec f.1 i) ∘ fun p => vec p.1) := List.map_congr_left fun p hp => funext fun i => vl p hp i
    rw [e]
    exact hg
  · rcases List.mem_append.mp hp with hp | hp
    · obtain ⟨q, hq, rfl⟩ := List.mem_map.mp hp
      obtain ⟨j, hj, hj2⟩ := h.ft q hq
      have sm : ∀ i, i < k → vec (lss k f q).1 i = vec q.1 i := fun i hi => by
        rw [vl q hq, zf i hi]
        simp
      exact ⟨j, by omega, fun i hi => by rw [sm i (by omega)]; exact hj2.1 i hi, by rw [sm j hj]; exact hj2.2⟩
    · rw [List.mem_singleton.mp hp]
      exact ⟨k, by omega, hft⟩
def bb (b : Nat) : Nat → Nat
  | 0 => b
  | k + 1 => up (bb b k)
def cc (b : Nat) : Nat → Nat
  | 0 => 0
  | k + 1 => cc b k + up (bb b k) + 1
theorem Bd.mono {b c : Nat} {l : List P2} (h : Bd b l) (e : b ≤ c) : Bd c l := fun p hp x hx => Nat.lt_of_lt_of_le (h p hp x hx) (Nat.pow_le_pow_right (by decide) e)
theorem DI.start {rs : List (List Int)} {w b : Nat} (hw : ∀ r ∈ rs, r.length = w) (hb : ∀ r ∈ rs, ∀ e ∈ r, e.natAbs < 2 ^ b) (b1 : 1 ≤ b) : DI rs w rs.length 0 b 0 (Sl (rs.map vec)) [] ((List.range rs.length).map fun i => (rs.getD i [], unit rs.length i)) where
  len := fun p hp => by
    obtain ⟨i, hi, rfl⟩ := List.mem_map.mp hp
    have hi := List.mem_range.mp hi
    refine ⟨hw _ ?_, unit_len ..⟩
    show rs.getD i [] ∈ rs
    rw [List.getD_eq_getElem?_getD, List.getElem?_eq_getElem hi]
    exact List.getElem_mem hi
  mx := fun p hp i => by
    obtain ⟨a, ha, rfl⟩ := List.mem_map.mp hp
    exact (dot_unit rs a (List.mem_range.mp ha) i).symm
  sp := fun x => by
    have e : (([] ++ (List.range rs.length).map fun i => (rs.getD i [], unit rs.length i)).map fun p : P2 => vec p.1) = rs.map vec := by
      rw [List.nil_append, List.map_map]
      apply List.ext_getElem
      · simp
      · intro i h1 h2
        simp at h1
        simp [h1]
    rw [e]
  zl := fun p hp i hi => by omega
  bl := fun p hp e he => by
    obtain ⟨i, hi, rfl⟩ := List.mem_map.mp hp
    have hi := List.mem_range.mp hi
    rcases he with he | he
    · refine hb (rs.getD i []) ?_ e he
      rw [List.getD_eq_getElem?_getD, List.getElem?_eq_getElem hi]
      exact List.getElem_mem hi
    · have : 2 ^ 1 ≤ 2 ^ b := Nat.pow_le_pow_right (by decide) b1
      obtain ⟨j, hj, rfl⟩ := List.mem_map.mp he
      split <;> simp <;> omega
  bd := fun p hp => by cases hp
  st := .nil
  ft := fun p hp => by cases hp
/-- at the end: the stair -/
theorem DI.fin {rs : List (List Int)} {w n b c : Nat} {T : Ve → Prop} {done left : List P2} (h : DI rs w n w b c T done left) : ∀ x, Sl (done.map fun p => vec p.1) x ↔ T x := fun x => by
  rw [← h.sp x, List.map_append]
  constructor
  · exact Sp.mono fun r hr => List.mem_append_left _ hr
  · refine Sp.le fun r hr => ?_
    rcases List.mem_append.mp hr with hr | hr
    · exact .of hr
    · obtain ⟨p, hp, rfl⟩ := List.mem_map.mp hr
      exact Sp.zero.cong fun i => by
        rcases Nat.lt_or_ge i w with q | q
        · exact (h.zl p hp i q).symm
        · exact (vec_out (by rw [(h.len p (List.mem_append_right _ hp)).1]; exact q)).symm
end St

namespace Pu
open PySem L2
variable [TabT]
@[simp] theorem po_callBn {X : Exn → En → Prop} {kk : RV → En → Prop} (i : Nat) (f : List Sl → Re RV) (ms : M (List D)) (r : En) : Wp X (cCallBn i f ms r) kk = (match getC i r with
  | none => False
  | some _ => Wp (fun _ _ => False) (ms r) fun es r1 => (match r1[i]? with
    | some (.o (.l ds)) => Wp (fun _ _ => False) (f (.v (.list ds) :: es.map .v)) fun rv _ => noLR rv = true ∧ kk rv r1
    | _ => False)) := by
  simp only [wp_eq]
  unfold cCallBn
  cases getC i r with
  | none => rfl
  | some c0 =>
    show Po X (match ms r with
      | .ok es r1 => (match r1[i]? with
        | some (.o (.l ds)) => (match f (.v (.list ds) :: es.map .v) with
          | .ok rv _ => cI (noLR rv = true) (.ok rv r1) .no
          | _ => .no)
        | _ => .no)
      | _ => .no) kk = _
    cases ms r with
    | no => rfl
    | ex e r1 => rfl
    | ok es r1 =>
      show Po X (match r1[i]? with
        | some (.o (.l ds)) => (match f (.v (.list ds) :: es.map .v) with
          | .ok rv _ => cI (noLR rv = true) (.ok rv r1) .no
          | _ => .no)
        | _ => .no) kk = (match r1[i]? with
        | some (.o (.l ds)) => Po (fun _ _ => False) (f (.v (.list ds) :: es.map .v)) fun rv _ => noLR rv = true ∧ kk rv r1
        | _ => False)
      split
      · rename_i ds h
        cases f (.v (.list ds) :: es.map .v) with
        | no => rfl
        | ex e z => rfl
        | ok rv z =>
          show Po X (cI (noLR rv = true) (.ok rv r1) .no) kk = _
          rw [qo_cI]
          rfl
      · rfl
theorem po_LC1x {γ : Type} {X : Exn → En → Prop} {kk : RV → En → Prop} {src : M (List D)} {i : Nat} {te : M D} {r : En} (f g : γ → D) (P : List γ → Prop) (hsrc : Wp X (src r) fun ds r' => ∃ xs, P xs ∧ ds = xs.map f ∧ r' = r) (ho : noOwn r [i] = true) (hl : ∀ xs, P xs → xs.length ≤ 16777216) (hb : ∀ xs, P xs → ∀ x ∈ xs, Wp (fun _ _ => False) (te (r.set i (.v (f x)))) fun y r3 => y = g x ∧ r3 = r.set i (.v (f x))) (hk : ∀ xs, P xs → kk (.o (.l (xs.map g))) r) : Wp X (oComp src [i] (gN i) yes te r) kk := by
  rw [po_comp]
  refine po_mono hsrc ?_
  rintro _ _ ⟨xs, hp, rfl, rfl⟩
  refine ⟨ho, ?_⟩
  have hi := (own_lt ho).1
  rename_i q
  refine po_compM (f := f) (g := g) (fun r => ∃ s, r = q.set i s) xs [] q ⟨q[i], by rw [List.set_getElem_self]⟩ (by simpa using hl xs hp) ?_ ?_
  · rintro x hx _ ⟨s, rfl⟩
    refine ⟨q.set i (.v (f x)), ?_, po_mono (hb xs hp x hx) ?_⟩
    · simp [hi]
    · rintro y r3 ⟨h1, h2⟩
      exact ⟨h1, _, h2⟩
  · rintro _ ⟨s, rfl⟩
    rw [List.nil_append]
    simp only [wipe_cons, wipe_nil, back_cons, back_nil]
    rw [set_back _ _ _ _ hi]
    exact hk xs hp
theorem po_LF1 {γ : Type} {X : Exn → En → Prop} {kk : RV → En → Prop} {src : M (List D)} {i : Nat} {tt : M Bool} {te : M D} {r : En} (f g : γ → D) (p : γ → Bool) (xs : List γ) (hsrc : Wp X (src r) fun ds r' => ds = xs.map f ∧ r' = r) (ho : noOwn r [i] = true) (hl : xs.length ≤ 16777216)
    (hb : ∀ x ∈ xs, Wp (fun _ _ => False) (tt (r.set i (.v (f x)))) fun b r2 => b = p x ∧ r2 = r.set i (.v (f x)) ∧ (p x = true → Wp (fun _ _ => False) (te r2) fun y r3 => y = g x ∧ r3 = r.set i (.v (f x)))) (hk : kk (.o (.l ((xs.filter p).map g))) r) : Wp X (oComp src [i] (gN i) tt te r) kk := by
  rw [po_comp]
  refine po_mono hsrc ?_
  rintro _ _ ⟨rfl, rfl⟩
  refine ⟨ho, ?_⟩
  have hi := (own_lt ho).1
  rename_i q
  refine po_compF (f := f) (g := g) (p := p) (fun r => ∃ s, r = q.set i s) xs [] q ⟨q[i], by rw [List.set_getElem_self]⟩ (by simpa using hl) ?_ ?_
  · rintro x hx _ ⟨s, rfl⟩
    refine ⟨q.set i (.v (f x)), ?_, po_mono (hb x hx) ?_⟩
    · simp [hi]
    · rintro b r2 ⟨h1, h2, h3⟩
      refine ⟨h1, fun _ => ⟨_, h2⟩, fun hp => po_mono (h3 hp) ?_⟩
      rintro y r3 ⟨h4, h5⟩
      exact ⟨h4, _, h5⟩
  · rintro _ ⟨s, rfl⟩
    rw [List.nil_append]
    simp only [wipe_cons, wipe_nil, back_cons, back_nil]
    rw [set_back _ _ _ _ hi]
    exact hk
/-! ### rows and pairs as data -/
@[simp] theorem intD_tt : intD (.bool true) = some (.int 1) := rfl
@[simp] theorem intD_ff : intD (.bool false) = some (.int 0) := rfl
@[simp] theorem at10 (x : D) : atI [x] 0 = some x := rfl
@[simp] theorem at20 (x y : D) : atI [x, y] 0 = some x := rfl
@[simp] theorem at21 (x y : D) : atI [x, y] 1 = some y := rfl

def rD (r : List Int) : D := .tuple (r.map .int)
def pD (p : St.P2) : D := .tuple [rD p.1, rD p.2]
@[simp] theorem isnt_nn : isntD .none .none = some (.bool false) := rfl
@[simp] theorem isnt_pD (p : St.P2) : isntD (pD p) .none = some (.bool true) := rfl
@[simp] theorem isnt_t (ds : List D) : isntD (.tuple ds) .none = some (.bool true) := rfl
theorem eqv_pD (p q : St.P2) : PyData.eqv (pD p) (pD q) = decide (p = q) := by
  show (PyData.eqvAll (p.1.map .int) (q.1.map .int) && (PyData.eqvAll (p.2.map .int) (q.2.map .int) && true)) = _
  rw [eqv_ints, eqv_ints, Bool.and_true]
  obtain ⟨a, b⟩ := p
  obtain ⟨c, d⟩ := q
  by_cases h1 : a = c
  · by_cases h2 : b = d
    · simp [h1, h2]
    · simp [h1, h2]
  · simp [h1]
theorem place_pD {ps : List St.P2} {f : St.P2} (h : f ∈ ps) : ∃ j, SeqAt.dataPlace (ps.map pD) (pD f) = some j ∧ j < ps.length ∧ (∀ p, p ∈ ps ↔ p = f ∨ p ∈ ps.eraseIdx j) ∧ ∀ h : j < ps.length, ps[j] = f := by
  unfold SeqAt.dataPlace
  rw [List.findIdx?_map]
  have e : ((fun y => PyData.eqv y (pD f)) ∘ pD) = fun p => decide (p = f) := funext fun p => eqv_pD p f
  rw [e]
  cases hj : ps.findIdx? (fun p => decide (p = f)) with
  | none =>
    have := List.findIdx?_eq_none_iff.mp hj f h
    simp at this
  | some j =>
    obtain ⟨hlt, hp, _⟩ := List.findIdx?_eq_some_iff_getElem.mp hj
    have hp : ps[j] = f := by simpa using hp
    refine ⟨j, rfl, hlt, fun p => ?_, fun _ => hp⟩
    have e2 : ps = ps.take j ++ f :: ps.drop (j + 1) := by
      rw [← hp, List.getElem_cons_drop, List.take_append_drop]
    rw [List.eraseIdx_eq_take_drop_succ]
    conv => lhs; rw [e2]
    simp only [List.mem_append, List.mem_cons]
    constructor
    · rintro (h | h | h)
      · exact .inr (.inl h)
      · exact .inl h
      · exact .inr (.inr h)
    · rintro (h | h | h)
      · exact .inr (.inl h)
      · exact .inl h
      · exact .inr (.inr h)
theorem rD_lay (r : List Int) : (rD r).canLay0 = true := lay_ints r
theorem rD_depth (r : List Int) : (rD r).depth ≤ 2 := by
  have := depthAll_map PyData.int 1 r fun x _ => by simp [PyData.depth]
  unfold rD
  simp only [PyData.depth]
  omega
theorem pD_lay (p : St.P2) : (pD p).canLay0 = true := by
  show ((rD p.1).canLay0 && ((rD p.2).canLay0 && true)) = true
  rw [rD_lay, rD_lay]
  rfl
theorem pD_depth (p : St.P2) : (pD p).depth ≤ 3 := by
  have h1 := rD_depth p.1
  have h2 := rD_depth p.2
  unfold pD
  simp only [PyData.depth, PyData.depthAll]
  omega
theorem layAll_map {α : Type} (f : α → D) (h : ∀ a, (f a).canLay0 = true) : ∀ l : List α, PyData.canLayAll0 (l.map f) = true
  | [] => rfl
  | a :: l => by
    show ((f a).canLay0 && PyData.canLayAll0 (l.map f)) = true
    rw [h a, layAll_map f h l]
    rfl
theorem shaped_pD (p : St.P2) : SeqAt.shaped (pD p) = true := Bool.and_eq_true_iff.mpr ⟨pD_lay p, decide_eq_true (Nat.le_trans (pD_depth p) (by decide))⟩
theorem shaped_pDs (ps : List St.P2) : SeqAt.shaped (.list (ps.map pD)) = true := Bool.and_eq_true_iff.mpr ⟨layAll_map pD pD_lay ps, decide_eq_true (by
  have := depthAll_map pD 3 ps fun x _ => pD_depth x
  simp only [PyData.depth]
  omega)⟩
theorem noL_ints : ∀ r : List Int, noLAll (r.map .int) = true
  | [] => rfl
  | i :: r => noL_ints r
theorem noL_pD (p : St.P2) : noL (pD p) = true := by
  show (noLAll (p.1.map .int) && (noLAll (p.2.map .int) && true)) = true
  rw [noL_ints, noL_ints]
  rfl
end Pu

namespace Pu
open PySem L2
variable [TabT]
@[simp] theorem oDictT1_ap (mk mv : M D) (r : En) : oDictT1 mk mv r = (mk r).bind fun kd r => (mv r).bind fun d r => M.opt ((tkeyD kd).map fun y => .o (.t [(y, d)])) r := rfl
@[simp] theorem eInS_ap (i : Nat) (mk : M D) (r : En) : eInS i mk r = (mk r).bind fun kd r => (match getC i r with
  | some (.t kvs) => (match tkeyD kd with
    | some y => .ok (.bool (vK kvs y).isSome) r
    | none => .no)
  | some (.d kvs) => (match keyD kd with
    | some y => .ok (.bool (vK kvs y).isSome) r
    | none => .no)
  | _ => .no) := rfl
@[simp] theorem eNinS_ap (i : Nat) (mk : M D) (r : En) : eNinS i mk r = (mk r).bind fun kd r => (match getC i r with
  | some (.t kvs) => (match tkeyD kd with
    | some y => .ok (.bool (!(vK kvs y).isSome)) r
    | none => .no)
  | some (.d kvs) => (match keyD kd with
    | some y => .ok (.bool (!(vK kvs y).isSome)) r
    | none => .no)
  | _ => .no) := rfl
end Pu

namespace St
/-! ### full stairs: a row for each column -/
theorem Stair.zero_le {a : Ve} {t : List Ve} {k : Nat} (hk : Ft a k) (hz : ∀ r ∈ t, ∀ i, i ≤ k → r i = 0) : ∀ r ∈ a :: t, ∀ i, i < k → r i = 0 := fun r hr i hi => by
  rcases List.mem_cons.mp hr with rfl | hr
  · exact hk.1 i hi
  · exact hz r hr i (by omega)
/-- a vector of the span has its first number at a foot, and is divided by it there -/
theorem Stair.first {l : List Ve} (h : Stair l) : ∀ {x : Ve} {k : Nat}, Sl l x → (∀ i, i < k → x i = 0) → x k ≠ 0 → ∃ r ∈ l, Ft r k ∧ r k ∣ x k := by
  induction h with
  | nil =>
    intro x k hx _ hk
    exact absurd (sl_nil.mp hx k) hk
  | @cons a t j hj hz hs ht ih =>
    intro x k hx h0 hk
    rcases Nat.lt_trichotomy j k with q | q | q
    · have : Sl t x := (Stair.rest hj hz).mpr ⟨hx, h0 j q⟩
      obtain ⟨r, hr, h1, h2⟩ := ih this h0 hk
      exact ⟨r, List.mem_cons_of_mem _ hr, h1, h2⟩
    · subst q
      exact ⟨a, List.mem_cons_self .., hj, ((Stair.red hj hz).mp hx).1⟩
    · exact absurd (Sp.at0 (fun r hr => Stair.zero_le hj hz r hr k q) hx) hk
/-- two vectors of the span alike up to a foot and small behind -/
theorem Stair.alike {l : List Ve} (h : Stair l) {x y : Ve} (hx : Sl l x) (hy : Sl l y) (hs : ∀ r ∈ l, ∀ k, Ft r k → x k = y k ∨ (0 ≤ x k ∧ x k < r k ∧ 0 ≤ y k ∧ y k < r k)) : ∀ i, x i = y i := fun i => by
  have h1 := h.small ((hx.subm 1 hy)) (fun r hr k hk => by
    have := hs r hr k hk
    have := hk.2
    constructor <;> omega) i
  have h2 : x i - 1 * y i = 0 := h1
  omega
theorem full_aux {w : Nat} : ∀ {l : List Ve} {c : Nat}, Stair l → c ≤ w → (∀ r ∈ l, ∀ i, i < c → r i = 0) → (∀ r ∈ l, ∀ k, Ft r k → k < w) → (∀ k, c ≤ k → k < w → ∃ r ∈ l, Ft r k) → l.length = w - c ∧ ∀ (i : Nat) (h : i < l.length), Ft l[i] (c + i)
  | [], c, _, hcw, _, _, hc => by
    rcases Nat.lt_or_ge c w with q | q
    · obtain ⟨r, hr, _⟩ := hc c (Nat.le_refl _) q
      cases hr
    · exact ⟨by simp; omega, fun i h => by simp at h⟩
  | a :: t, c, h, hcw, h0, hw, hc => by
    cases h with
    | @cons _ _ j hj hz hs ht =>
    have hjw := hw a (List.mem_cons_self ..) j hj
    have hcj : c ≤ j := by
      rcases Nat.lt_or_ge j c with q | q
      · have := h0 a (List.mem_cons_self ..) j q
        have := hj.2
        omega
      · exact q
    have ejc : j = c := by
      obtain ⟨r, hr, hr2⟩ := hc c (Nat.le_refl _) (by omega)
      rcases List.mem_cons.mp hr with rfl | hr
      · exact hj.uniq hr2
      · rcases Nat.lt_or_ge j c with q | q
        · omega
        · have := hz r hr c q
          have := hr2.2
          omega
    subst ejc
    obtain ⟨l1, l2⟩ := full_aux (c := j + 1) ht (by omega) (fun r hr i hi => hz r hr i (by omega)) (fun r hr => hw r (List.mem_cons_of_mem _ hr)) (fun k hk hkw => by
      obtain ⟨r, hr, hr2⟩ := hc k (by omega) hkw
      rcases List.mem_cons.mp hr with rfl | hr
      · have := hj.uniq hr2
        omega
      · exact ⟨r, hr, hr2⟩)
    refine ⟨by simp [l1]; omega, fun i hi => ?_⟩
    cases i with
    | zero => exact hj
    | succ i =>
      have := l2 i (by simpa using hi)
      have e : j + (i + 1) = j + 1 + i := by omega
      rw [e]
      exact this
/-- the row of a round -/
def rnd (h : List Nat) (k : Nat) : List Int := (List.range h.length).map fun i => if i = k then ((h.getD k 0 : Nat) : Int) else 0
theorem rnd_len (h : List Nat) (k : Nat) : (rnd h k).length = h.length := by simp [rnd]
theorem vec_rnd (h : List Nat) (k i : Nat) : vec (rnd h k) i = if i = k ∧ k < h.length then ((h.getD k 0 : Nat) : Int) else 0 := by
  rcases Nat.lt_or_ge i h.length with q | q
  · rw [vec_get (by rw [rnd_len]; exact q)]
    simp [rnd]
    by_cases e : i = k
    · subst e
      simp [q]
    · simp [e]
  · rw [vec_out (by rw [rnd_len]; exact q), if_neg (by omega)]
def rnds (h : List Nat) : List (List Int) := (List.range h.length).map (rnd h)
/-- S is the full stair of the house h -/
structure Full (h : List Nat) (S : List (List Int)) : Prop where
  len : ∀ r ∈ S, r.length = h.length
  st : Stair (S.map vec)
  rd : ∀ k, k < h.length → Sl (S.map vec) (vec (rnd h k))
theorem Full.feet {h : List Nat} {S : List (List Int)} (F : Full h S) (hp : ∀ n ∈ h, 1 ≤ n) : S.length = h.length ∧ ∀ k, k < h.length → Ft (vec (S.getD k [])) k := by
  have cov : ∀ k, k < h.length → ∃ r ∈ S.map vec, Ft r k := fun k hk => by
    have hk1 : 1 ≤ h.getD k 0 := hp _ (by
      rw [List.getD_eq_getElem?_getD, List.getElem?_eq_getElem hk]
      exact List.getElem_mem hk)
    obtain ⟨r, hr, h1, _⟩ := F.st.first (F.rd k hk) (k := k) (fun i hi => by rw [vec_rnd, if_neg (by omega)]) (by rw [vec_rnd, if_pos ⟨rfl, hk⟩]; omega)
    exact ⟨r, hr, h1⟩
  have ltw : ∀ r ∈ S.map vec, ∀ k, Ft r k → k < h.length := fun r hr k hk => by
    obtain ⟨q, hq, rfl⟩ := List.mem_map.mp hr
    rcases Nat.lt_or_ge k h.length with c | c
    · exact c
    · have := hk.2
      rw [vec_out (by rw [F.len q hq]; exact c)] at this
      omega
  obtain ⟨l1, l2⟩ := full_aux (c := 0) F.st (Nat.zero_le _) (fun r hr i hi => by omega) ltw (fun k _ hk => cov k hk)
  have l1' : S.length = h.length := by simpa using l1
  refine ⟨l1', fun k hk => ?_⟩
  have := l2 k (by simpa using (show k < S.length by omega))
  rw [List.getElem_map] at this
  rw [List.getD_eq_getElem?_getD, List.getElem?_eq_getElem (by omega)]
  simpa using this
/-- the foot at k -/
def foot (S : List (List Int)) (k : Nat) : Int := vec (S.getD k []) k
theorem mem_getD {S : List (List Int)} {k : Nat} (h : k < S.length) : S.getD k [] ∈ S := by
  rw [List.getD_eq_getElem?_getD, List.getElem?_eq_getElem h]
  exact List.getElem_mem h
theorem Full.sl {h : List Nat} {S : List (List Int)} (F : Full h S) (hp : ∀ n ∈ h, 1 ≤ n) {k : Nat} (hk : k < h.length) : Sl (S.map vec) (vec (S.getD k [])) := .of (List.mem_map.mpr ⟨_, mem_getD (by have := (F.feet hp).1; omega), rfl⟩)
theorem Full.fdvd {h : List Nat} {S : List (List Int)} (F : Full h S) (hp : ∀ n ∈ h, 1 ≤ n) {k : Nat} (hk : k < h.length) {x : Ve} (hx : Sl (S.map vec) x) (h0 : ∀ i, i < k → x i = 0) : foot S k ∣ x k := by
  by_cases z : x k = 0
  · rw [z]
    exact Int.dvd_zero _
  · obtain ⟨r, hr, h1, h2⟩ := F.st.first hx h0 z
    obtain ⟨q, hq, rfl⟩ := List.mem_map.mp hr
    obtain ⟨i, hi, e⟩ := List.mem_iff_getElem.mp hq
    obtain ⟨l1, l2⟩ := F.feet hp
    have e2 : S.getD i [] = q := by rw [List.getD_eq_getElem?_getD, List.getElem?_eq_getElem hi]; exact e
    have := l2 i (by omega)
    rw [e2] at this
    obtain rfl := this.uniq h1
    unfold foot
    rw [e2]
    exact h2
theorem Full.fpos {h : List Nat} {S : List (List Int)} (F : Full h S) (hp : ∀ n ∈ h, 1 ≤ n) {k : Nat} (hk : k < h.length) : 0 < foot S k := ((F.feet hp).2 k hk).2
theorem Full.fle {h : List Nat} {S : List (List Int)} (F : Full h S) (hp : ∀ n ∈ h, 1 ≤ n) {k : Nat} (hk : k < h.length) : foot S k ∣ ((h.getD k 0 : Nat) : Int) ∧ foot S k ≤ ((h.getD k 0 : Nat) : Int) := by
  have h1 := F.fdvd hp hk (F.rd k hk) (fun i hi => by rw [vec_rnd, if_neg (by omega)])
  rw [vec_rnd, if_pos ⟨rfl, hk⟩] at h1
  refine ⟨h1, Int.le_of_dvd ?_ h1⟩
  have : 1 ≤ h.getD k 0 := hp _ (by
    rw [List.getD_eq_getElem?_getD, List.getElem?_eq_getElem hk]
    exact List.getElem_mem hk)
  omega
/-- a row above a foot -/
theorem Full.above {h : List Nat} {S : List (List Int)} (F : Full h S) (hp : ∀ n ∈ h, 1 ≤ n) {j k : Nat} (hjk : j < k) (hk : k < h.length) : 0 ≤ vec (S.getD j []) k ∧ vec (S.getD j []) k < foot S k := by
  obtain ⟨l1, l2⟩ := F.feet hp
  have key : ∀ {l : List Ve}, Stair l → ∀ (i m : Nat) (hi : i < m) (hm : m < l.length) (q : Nat), Ft l[m] q → 0 ≤ l[i] q ∧ l[i] q < l[m] q := by
    intro l hl
    induction hl with
    | nil => intro i m hi hm; simp at hm
    | @cons a t c hc hz hs ht ih =>
      intro i m hi hm q hq
      cases m with
      | zero => omega
      | succ m =>
        cases i with
        | zero => exact hs _ (List.getElem_mem _) q hq
        | succ i => exact ih i m (by omega) (by simpa using hm) q hq
  have e : ∀ i, (hi : i < S.length) → S.getD i [] = S[i] := fun i hi => by rw [List.getD_eq_getElem?_getD, List.getElem?_eq_getElem hi]; rfl
  have hk2 := l2 k hk
  have := key F.st j k hjk (by simpa using (show k < S.length by omega)) k (by rw [e k (by omega)] at hk2; simpa using hk2)
  unfold foot
  rw [e j (by omega), e k (by omega)]
  simpa using this
/-- what is alike a row is the row -/
theorem Full.row {h : List Nat} {S : List (List Int)} (F : Full h S) (hp : ∀ n ∈ h, 1 ≤ n) {k : Nat} (hk : k < h.length) {x : Ve} (hx : Sl (S.map vec) x) (h0 : ∀ i, i < k → x i = 0) (hk2 : x k = foot S k) (hb : ∀ j, k < j → j < h.length → 0 ≤ x j ∧ x j < foot S j) : ∀ i, x i = vec (S.getD k []) i := by
  obtain ⟨l1, l2⟩ := F.feet hp
  refine F.st.alike hx (F.sl hp hk) fun r hr q hq => ?_
  obtain ⟨p, hpp, rfl⟩ := List.mem_map.mp hr
  obtain ⟨i, hi, e⟩ := List.mem_iff_getElem.mp hpp
  have e2 : S.getD i [] = p := by rw [List.getD_eq_getElem?_getD, List.getElem?_eq_getElem hi]; exact e
  have hf := l2 i (by omega)
  rw [e2] at hf
  obtain rfl := hf.uniq hq
  rcases Nat.lt_trichotomy i k with c | c | c
  · left
    rw [h0 i c, (l2 k hk).1 i c]
  · left
    subst c
    exact hk2
  · right
    have h1 := hb i c (by omega)
    have h2 := F.above hp c (by omega)
    have h3 : foot S i = vec p i := by unfold foot; rw [e2]
    rw [h3] at h1 h2
    exact ⟨h1.1, h1.2, h2.1, h2.2⟩
end St

namespace St
/-! ### things of a house, counted; what some things come to -/
theorem nodup_le : ∀ (N : Nat) (l : List Nat), l.Nodup → (∀ x ∈ l, x < N) → l.length ≤ N
  | 0, l, _, h => by
    cases l with
    | nil => simp
    | cons a t => exact absurd (h a (List.mem_cons_self ..)) (by omega)
  | N + 1, l, hn, h => by
    by_cases hm : N ∈ l
    · have h1 := nodup_le N (l.erase N) (hn.erase N) (fun x hx => by
        have h2 := h x (List.mem_of_mem_erase hx)
        have h3 : x ≠ N := fun e => by
          subst e
          exact (List.Nodup.not_mem_erase hn) hx
        omega)
      rw [List.length_erase_of_mem hm] at h1
      have := List.length_pos_of_mem hm
      omega
    · have h1 := nodup_le N l hn (fun x hx => by
        have h2 := h x hx
        have h3 : x ≠ N := fun e => hm (e ▸ hx)
        omega)
      omega
def prd (h : List Nat) : Nat := h.foldl (· * ·) 1
theorem foldl_mul (h : List Nat) : ∀ c : Nat, h.foldl (· * ·) c = c * h.foldl (· * ·) 1 := by
  induction h with
  | nil => intro c; simp
  | cons a t ih =>
    intro c
    rw [List.foldl_cons, ih, List.foldl_cons, ih (1 * a), Nat.one_mul, Nat.mul_assoc]
theorem prd_cons (n : Nat) (h : List Nat) : prd (n :: h) = n * prd h := by
  show (n :: h).foldl (· * ·) 1 = _
  rw [List.foldl_cons, foldl_mul, Nat.one_mul]
  rfl
theorem prd_pos : ∀ (h : List Nat), (∀ n ∈ h, 1 ≤ n) → 1 ≤ prd h
  | [], _ => by simp [prd]
  | n :: h, hh => by
    rw [prd_cons]
    exact Nat.mul_pos (hh n (List.mem_cons_self ..)) (prd_pos h fun m hm => hh m (List.mem_cons_of_mem _ hm))
theorem dvd_prd : ∀ (h : List Nat) (k : Nat), k < h.length → h.getD k 0 ∣ prd h
  | [], k, hk => by simp at hk
  | n :: h, 0, _ => ⟨prd h, prd_cons n h⟩
  | n :: h, k + 1, hk => by
    rw [prd_cons]
    exact Nat.dvd_trans (dvd_prd h k (by simpa using hk)) ⟨n, Nat.mul_comm ..⟩
/-- a thing of a house -/
def Th (h : List Nat) (a : List Int) : Prop := a.length = h.length ∧ ∀ k, k < h.length → 0 ≤ vec a k ∧ vec a k < ((h.getD k 0 : Nat) : Int)
theorem Th.cons {n : Nat} {h : List Nat} {x : Int} {a : List Int} : Th (n :: h) (x :: a) ↔ (0 ≤ x ∧ x < n) ∧ Th h a := by
  constructor
  · rintro ⟨h1, h2⟩
    refine ⟨h2 0 (by simp), by simpa using h1, fun k hk => h2 (k + 1) (by simpa using hk)⟩
  · rintro ⟨h1, h2, h3⟩
    refine ⟨by simp [h2], fun k hk => ?_⟩
    cases k with
    | zero => exact h1
    | succ k => exact h3 k (by simpa using hk)
def enc : List Nat → List Int → Nat
  | n :: h, x :: a => x.toNat + n * enc h a
  | _, _ => 0
theorem enc_lt : ∀ {h : List Nat} {a : List Int}, Th h a → enc h a < prd h
  | [], [], _ => by simp [enc, prd]
  | [], _ :: _, h => by have := h.1; simp at this
  | _ :: _, [], h => by have := h.1; simp at this
  | n :: h, x :: a, ht => by
    obtain ⟨h1, h2⟩ := Th.cons.mp ht
    have h3 := enc_lt h2
    rw [prd_cons]
    show x.toNat + n * enc h a < n * prd h
    have h4 : n * (enc h a + 1) ≤ n * prd h := Nat.mul_le_mul_left _ h3
    rw [Nat.mul_add, Nat.mul_one] at h4
    omega
theorem enc_inj : ∀ {h : List Nat} {a b : List Int}, Th h a → Th h b → enc h a = enc h b → a = b
  | [], [], [], _, _, _ => rfl
  | [], _ :: _, _, h, _, _ => by have := h.1; simp at this
  | [], _, _ :: _, _, h, _ => by have := h.1; simp at this
  | _ :: _, [], _, h, _, _ => by have := h.1; simp at this
  | _ :: _, _, [], _, h, _ => by have := h.1; simp at this
  | n :: h, x :: a, y :: b, ha, hb, he => by
    obtain ⟨h1, h2⟩ := Th.cons.mp ha
    obtain ⟨g1, g2⟩ := Th.cons.mp hb
    have he : x.toNat + n * enc h a = y.toNat + n * enc h b := he
    have hx : x.toNat < n := by omega
    have hy : y.toNat < n := by omega
    have hn : 0 < n := by omega
    have e1 : x.toNat = y.toNat := by
      have := congrArg (· % n) he
      simp only [Nat.add_mul_mod_self_left, Nat.mod_eq_of_lt hx, Nat.mod_eq_of_lt hy] at this
      exact this
    have e2 : enc h a = enc h b := by
      rw [e1] at he
      have := Nat.add_left_cancel he
      exact Nat.eq_of_mul_eq_mul_left hn this
    rw [enc_inj h2 g2 e2, show x = y by omega]
theorem things_le {h : List Nat} {L : List (List Int)} (hn : L.Nodup) (ht : ∀ a ∈ L, Th h a) : L.length ≤ prd h := by
  have h1 := nodup_le (prd h) (L.map (enc h)) (by
    show List.Pairwise (· ≠ ·) (L.map (enc h))
    rw [List.pairwise_map]
    exact List.Pairwise.imp_of_mem (fun ha hb hne e => hne (enc_inj (ht _ ha) (ht _ hb) e)) hn) (fun x hx => by
    obtain ⟨a, ha, rfl⟩ := List.mem_map.mp hx
    exact enc_lt (ht a ha))
  simpa using h1
/-- what is left by the rounds -/
def nrm (h : List Nat) (x : Ve) : List Int := (List.range h.length).map fun k => x k % ((h.getD k 0 : Nat) : Int)
theorem nrm_len (h : List Nat) (x : Ve) : (nrm h x).length = h.length := by simp [nrm]
theorem vec_nrm {h : List Nat} {x : Ve} {k : Nat} (hk : k < h.length) : vec (nrm h x) k = x k % ((h.getD k 0 : Nat) : Int) := by
  rw [vec_get (by rw [nrm_len]; exact hk)]
  simp [nrm]
theorem nrm_ext {h : List Nat} {x y : Ve} (e : ∀ k, k < h.length → x k % ((h.getD k 0 : Nat) : Int) = y k % ((h.getD k 0 : Nat) : Int)) : nrm h x = nrm h y := by
  unfold nrm
  exact List.map_congr_left fun k hk => e k (List.mem_range.mp hk)
theorem getD_pos {h : List Nat} (hp : ∀ n ∈ h, 1 ≤ n) {k : Nat} (hk : k < h.length) : 1 ≤ h.getD k 0 := hp _ (by
  rw [List.getD_eq_getElem?_getD, List.getElem?_eq_getElem hk]
  exact List.getElem_mem hk)
theorem nrm_th {h : List Nat} (hp : ∀ n ∈ h, 1 ≤ n) (x : Ve) : Th h (nrm h x) := ⟨nrm_len h x, fun k hk => by
  rw [vec_nrm hk]
  have := getD_pos hp hk
  exact ⟨Int.emod_nonneg _ (by omega), Int.emod_lt_of_pos _ (by omega)⟩⟩
theorem nrm_self {h : List Nat} {a : List Int} (ht : Th h a) : nrm h (vec a) = a := by
  refine vec_ext ((nrm_len ..).trans ht.1.symm) fun i => ?_
  rcases Nat.lt_or_ge i h.length with c | c
  · rw [vec_nrm c]
    have := ht.2 i c
    exact Int.emod_eq_of_lt this.1 this.2
  · rw [vec_out (by rw [nrm_len]; exact c), vec_out (by rw [ht.1]; exact c)]
/-- the lattice of some things of a house -/
abbrev Lam (h : List Nat) (G : List (List Int)) : Ve → Prop := Sl ((G ++ rnds h).map vec)
theorem lam_rnd {h : List Nat} {G : List (List Int)} {k : Nat} (hk : k < h.length) : Lam h G (vec (rnd h k)) := .of (List.mem_map.mpr ⟨_, List.mem_append_right _ (List.mem_map.mpr ⟨k, List.mem_range.mpr hk, rfl⟩), rfl⟩)
/-- alike by the rounds: both in the lattice or none -/
theorem lam_mod {h : List Nat} {T : Ve → Prop} (hadd : ∀ x y c, T x → T y → T (fun i => x i + c * y i)) (hc : ∀ x y, T x → (∀ i, x i = y i) → T y) (hr : ∀ k, k < h.length → T (vec (rnd h k))) {x y : Ve} (hx : T x) (e : ∀ k, k < h.length → x k % ((h.getD k 0 : Nat) : Int) = y k % ((h.getD k 0 : Nat) : Int)) (ho : ∀ k, h.length ≤ k → x k = y k) : T y := by
  have key : ∀ n, n ≤ h.length → T (fun i => if i < n then y i else x i) := by
    intro n
    induction n with
    | zero => intro _; exact hc x _ hx fun i => by simp
    | succ n ih =>
      intro hn
      have h1 := ih (by omega)
      have h2 := hadd _ _ (y n / ((h.getD n 0 : Nat) : Int) - x n / ((h.getD n 0 : Nat) : Int)) h1 (hr n (by omega))
      refine hc _ _ h2 fun i => ?_
      show (if i < n then y i else x i) + _ * vec (rnd h n) i = if i < n + 1 then y i else x i
      rw [vec_rnd]
      rcases Nat.lt_trichotomy i n with c | c | c
      · rw [if_pos c, if_neg (by omega), if_pos (by omega)]
        simp
      · subst c
        rw [if_neg (by omega), if_pos ⟨rfl, by omega⟩, if_pos (by omega)]
        have e1 := e i (by omega)
        have d1 := Int.mul_ediv_add_emod (x i) ((h.getD i 0 : Nat) : Int)
        have d2 := Int.mul_ediv_add_emod (y i) ((h.getD i 0 : Nat) : Int)
        rw [Int.sub_mul, Int.mul_comm (y i / _), Int.mul_comm (x i / _)]
        omega
      · rw [if_neg (by omega), if_neg (by omega), if_neg (by omega)]
        simp
  refine hc _ _ (key h.length (Nat.le_refl _)) fun i => ?_
  split
  · rfl
  · exact ho i (by omega)
theorem sl_mod {h : List Nat} {l : List Ve} (hr : ∀ k, k < h.length → Sl l (vec (rnd h k))) {x y : Ve} (hx : Sl l x) (e : ∀ k, k < h.length → x k % ((h.getD k 0 : Nat) : Int) = y k % ((h.getD k 0 : Nat) : Int)) (ho : ∀ k, h.length ≤ k → x k = y k) : Sl l y :=
  lam_mod (T := Sl l) (fun x y c hx hy => hx.add (hy.smul c)) (fun x y hx e => hx.cong e) hr hx e ho
/-- a set of things with nought, shut by adding: all of the lattice -/
theorem closed_all {h : List Nat} (hp : ∀ n ∈ h, 1 ≤ n) {G : List (List Int)} {L : List (List Int)} (h0 : nrm h (fun _ => 0) ∈ L) (hc : ∀ a ∈ L, ∀ g ∈ G, nrm h (fun i => vec a i + vec g i) ∈ L) (hL : ∀ a ∈ L, Th h a) {x : Ve} (hx : Lam h G x) : nrm h x ∈ L := by
  have hN : ∀ k, k < h.length → (((h.getD k 0 : Nat) : Int)) ∣ ((prd h : Nat) : Int) := fun k hk => Int.natCast_dvd_natCast.mpr (dvd_prd h k hk)
  have addg : ∀ g ∈ G, ∀ (n : Nat) (x : Ve), nrm h x ∈ L → nrm h (fun i => x i + (n : Int) * vec g i) ∈ L := by
    intro g hg n
    induction n with
    | zero =>
      intro x hx
      have : (fun i => x i + ((0 : Nat) : Int) * vec g i) = x := funext fun i => by simp
      rw [this]
      exact hx
    | succ n ih =>
      intro x hx
      have h1 := hc _ (ih x hx) g hg
      have e : nrm h (fun i => vec (nrm h (fun i => x i + (n : Int) * vec g i)) i + vec g i) = nrm h (fun i => x i + ((n + 1 : Nat) : Int) * vec g i) := nrm_ext fun k hk => by
        rw [vec_nrm hk, Int.emod_add_emod]
        congr 1
        rw [Int.natCast_add, Int.add_mul]
        omega
      rw [e] at h1
      exact h1
  have addz : ∀ g ∈ G, ∀ (c : Int) (x : Ve), nrm h x ∈ L → nrm h (fun i => x i + c * vec g i) ∈ L := fun g hg c x hx => by
    have hpp := prd_pos h hp
    have hcn : 0 ≤ c + c.natAbs * (prd h : Int) := by
      have : (c.natAbs : Int) * 1 ≤ c.natAbs * (prd h : Int) := Int.mul_le_mul_of_nonneg_left (by omega) (by omega)
      omega
    have h1 := addg g hg (c + c.natAbs * (prd h : Int)).toNat x hx
    have e : nrm h (fun i => x i + (((c + c.natAbs * (prd h : Int)).toNat : Nat) : Int) * vec g i) = nrm h (fun i => x i + c * vec g i) := nrm_ext fun k hk => by
      rw [Int.toNat_of_nonneg hcn]
      obtain ⟨d, hd⟩ := hN k hk
      have : x k + (c + c.natAbs * (prd h : Int)) * vec g k = x k + c * vec g k + ((h.getD k 0 : Nat) : Int) * (d * c.natAbs * vec g k) := by
        rw [hd]
        grind
      rw [this, Int.add_mul_emod_self_left]
    rw [e] at h1
    exact h1
  induction hx with
  | zero => exact h0
  | @step x r c hr _ ih =>
    obtain ⟨g, hg, rfl⟩ := List.mem_map.mp hr
    rcases List.mem_append.mp hg with hg | hg
    · exact addz g hg c x ih
    · obtain ⟨k, hk, rfl⟩ := List.mem_map.mp hg
      have hk := List.mem_range.mp hk
      have e : nrm h (fun i => x i + c * vec (rnd h k) i) = nrm h x := nrm_ext fun j hj => by
        rw [vec_rnd]
        by_cases q : j = k
        · subst q
          rw [if_pos ⟨rfl, hk⟩, Int.mul_comm, Int.add_mul_emod_self_left]
        · rw [if_neg (by omega)]
          simp
      rw [e]
      exact ih
end St

namespace St
/-! ### things of order twelve -/
theorem nodup_sub {α : Type} [DecidableEq α] : ∀ (L M : List α), L.Nodup → (∀ a ∈ L, a ∈ M) → L.length ≤ M.length
  | [], M, _, _ => Nat.zero_le _
  | a :: L, M, hn, hs => by
    have ha := hs a (List.mem_cons_self ..)
    have hn2 := List.nodup_cons.mp hn
    have h1 := nodup_sub L (M.erase a) hn2.2 (fun b hb => by
      have hne : b ≠ a := fun e => hn2.1 (e ▸ hb)
      exact (List.mem_erase_of_ne hne).mpr (hs b (List.mem_cons_of_mem _ hb)))
    rw [List.length_erase_of_mem ha] at h1
    have := List.length_pos_of_mem ha
    rw [List.length_cons]
    omega
/-- twelve times it is nothing -/
def Tw (h : List Nat) (a : List Int) : Prop := ∀ k, k < h.length → ((h.getD k 0 : Nat) : Int) ∣ 12 * vec a k
theorem lam_two {h : List Nat} {g1 g2 : List Int} {x : Ve} (hx : Lam h [g1, g2] x) : ∃ c1 c2 : Int, ∀ k, k < h.length → ((h.getD k 0 : Nat) : Int) ∣ x k - (c1 * vec g1 k + c2 * vec g2 k) := by
  induction hx with
  | zero => exact ⟨0, 0, fun k _ => by simp⟩
  | @step x r c hr _ ih =>
    obtain ⟨c1, c2, ih⟩ := ih
    obtain ⟨g, hg, rfl⟩ := List.mem_map.mp hr
    rcases List.mem_append.mp hg with hg | hg
    · rcases List.mem_cons.mp hg with rfl | hg
      · refine ⟨c1 + c, c2, fun k hk => ?_⟩
        obtain ⟨z, hz⟩ := ih k hk
        exact ⟨z, by rw [← hz]; grind⟩
      · rw [List.mem_singleton.mp hg]
        refine ⟨c1, c2 + c, fun k hk => ?_⟩
        obtain ⟨z, hz⟩ := ih k hk
        exact ⟨z, by rw [← hz]; grind⟩
    · obtain ⟨j, hj, rfl⟩ := List.mem_map.mp hg
      refine ⟨c1, c2, fun k hk => ?_⟩
      obtain ⟨z, hz⟩ := ih k hk
      show _ ∣ x k + c * vec (rnd h j) k - (c1 * vec g1 k + c2 * vec g2 k)
      rw [vec_rnd]
      split
      · rename_i q
        rw [← q.1]
        exact ⟨z + c, by grind⟩
      · exact ⟨z, by rw [← hz]; grind⟩
theorem tw_mem {h : List Nat} {g1 g2 a : List Int} (t1 : Tw h g1) (t2 : Tw h g2) (ha : Th h a) (hl : Lam h [g1, g2] (vec a)) : ∃ i j : Nat, i < 12 ∧ j < 12 ∧ a = nrm h (fun k => (i : Int) * vec g1 k + (j : Int) * vec g2 k) := by
  obtain ⟨c1, c2, hc⟩ := lam_two hl
  refine ⟨(c1 % 12).toNat, (c2 % 12).toNat, by omega, by omega, ?_⟩
  rw [← nrm_self ha]
  refine nrm_ext fun k hk => ?_
  have e1 : (((c1 % 12).toNat : Nat) : Int) = c1 % 12 := by omega
  have e2 : (((c2 % 12).toNat : Nat) : Int) = c2 % 12 := by omega
  rw [e1, e2]
  obtain ⟨z, hz⟩ := hc k hk
  obtain ⟨u, hu⟩ := t1 k hk
  obtain ⟨v, hv⟩ := t2 k hk
  have d1 : c1 = 12 * (c1 / 12) + c1 % 12 := (Int.mul_ediv_add_emod c1 12).symm
  have d2 : c2 = 12 * (c2 / 12) + c2 % 12 := (Int.mul_ediv_add_emod c2 12).symm
  generalize c1 / 12 = q1 at *
  generalize c2 / 12 = q2 at *
  generalize c1 % 12 = m1 at *
  generalize c2 % 12 = m2 at *
  have e : vec a k = (m1 * vec g1 k + m2 * vec g2 k) + ((h.getD k 0 : Nat) : Int) * (z + q1 * u + q2 * v) := by
    have : vec a k = (c1 * vec g1 k + c2 * vec g2 k) + ((h.getD k 0 : Nat) : Int) * z := by omega
    rw [this, d1, d2]
    grind
  rw [e, Int.add_mul_emod_self_left]
theorem tw_le {h : List Nat} {g1 g2 : List Int} (t1 : Tw h g1) (t2 : Tw h g2) {L : List (List Int)} (hn : L.Nodup) (hL : ∀ a ∈ L, Th h a ∧ Lam h [g1, g2] (vec a)) : L.length ≤ 144 := by
  have := nodup_sub L ((List.range 144).map fun n => nrm h (fun k => ((n / 12 : Nat) : Int) * vec g1 k + ((n % 12 : Nat) : Int) * vec g2 k)) hn fun a ha => by
    obtain ⟨i, j, hi, hj, e⟩ := tw_mem t1 t2 (hL a ha).1 (hL a ha).2
    refine List.mem_map.mpr ⟨12 * i + j, List.mem_range.mpr (by omega), ?_⟩
    have h1 : (12 * i + j) / 12 = i := by omega
    have h2 : (12 * i + j) % 12 = j := by omega
    rw [h1, h2, e]
  simpa using this
end St

namespace St
/-! ### each full lattice has its stair -/
theorem Stair.reduce {l : List Ve} (h : Stair l) : ∀ x : Ve, ∃ y : Ve, Sl l (fun i => x i - y i) ∧ (∀ r ∈ l, ∀ k, Ft r k → 0 ≤ y k ∧ y k < r k) := by
  induction h with
  | nil => exact fun x => ⟨x, Sp.zero.cong fun i => by simp, fun r hr => by cases hr⟩
  | @cons a t k hk hz hs ht ih =>
    intro x
    obtain ⟨y, hy1, hy2⟩ := ih (fun i => x i - (x k).fdiv (a k) * a i)
    have hyk : y k = x k - (x k).fdiv (a k) * a k := by
      have := Sp.at0 (i := k) (fun r hr => hz r hr k (Nat.le_refl _)) hy1
      have e : (x k - (x k).fdiv (a k) * a k) - y k = 0 := this
      omega
    refine ⟨y, ?_, fun r hr j hj => ?_⟩
    · refine sl_cons.mpr ⟨(x k).fdiv (a k), hy1.cong fun i => ?_⟩
      show (x i - _ * a i) - y i = (x i - y i) - _ * a i
      omega
    · rcases List.mem_cons.mp hr with rfl | hr
      · obtain rfl := hj.uniq hk
        have e := fdiv_fmod (x j) (r j)
        have s := (fmod_sgn (v := x j) (f := r j) (by have := hk.2; omega)).1 hk.2
        omega
      · exact hy2 r hr j hj
structure Latt (w : Nat) (Λ : Ve → Prop) : Prop where
  add : ∀ x y c, Λ x → Λ y → Λ (fun i => x i + c * y i)
  cong : ∀ x y, Λ x → (∀ i, x i = y i) → Λ y
  out : ∀ x, Λ x → ∀ i, w ≤ i → x i = 0
theorem Latt.sl {w : Nat} {Λ : Ve → Prop} (L : Latt w Λ) {l : List Ve} (h : ∀ r ∈ l, Λ r) (h0 : Λ fun _ => 0) {x : Ve} (hx : Sl l x) : Λ x := by
  induction hx with
  | zero => exact h0
  | step k hr _ ih => exact L.add _ _ _ ih (h _ hr)
theorem stair_from {w : Nat} {Λ : Ve → Prop} (L : Latt w Λ) (h0 : Λ fun _ => 0) (hf : ∀ k, k < w → ∃ x, Λ x ∧ (∀ i, i < k → x i = 0) ∧ 0 < x k) : ∀ n k, k + n = w → ∃ l : List Ve, Stair l ∧ (∀ r ∈ l, Λ r) ∧ (∀ r ∈ l, ∀ i, i < k → r i = 0) ∧ ∀ x, Λ x → (∀ i, i < k → x i = 0) → Sl l x
  | 0, k, hk => ⟨[], .nil, (fun r hr => by cases hr), (fun r hr => by cases hr), fun x hx hz => sl_nil.mpr fun i => by
    rcases Nat.lt_or_ge i k with c | c
    · exact hz i c
    · exact L.out x hx i (by omega)⟩
  | n + 1, k, hk => by
    obtain ⟨t, ht, hΛ, hz, hsp⟩ := stair_from L h0 hf n (k + 1) (by omega)
    have key : ∀ (m : Nat), (∃ x, Λ x ∧ (∀ i, i < k → x i = 0) ∧ 0 < x k ∧ x k ≤ m) → ∃ x, Λ x ∧ (∀ i, i < k → x i = 0) ∧ 0 < x k ∧ ∀ y, Λ y → (∀ i, i < k → y i = 0) → 0 < y k → x k ≤ y k := by
      intro m
      induction m with
      | zero => rintro ⟨x, _, _, h1, h2⟩; omega
      | succ m ih =>
        rintro ⟨x, h1, h2, h3, h4⟩
        by_cases c : ∃ y, Λ y ∧ (∀ i, i < k → y i = 0) ∧ 0 < y k ∧ y k ≤ m
        · exact ih c
        · refine ⟨x, h1, h2, h3, fun y g1 g2 g3 => ?_⟩
          rcases Int.lt_or_le (y k) (x k) with q | q
          · exact absurd ⟨y, g1, g2, g3, by omega⟩ c
          · exact q
    obtain ⟨x0, a1, a2, a3⟩ := hf k (by omega)
    obtain ⟨x, h1, h2, h3, h4⟩ := key (x0 k).toNat ⟨x0, a1, a2, a3, by omega⟩
    obtain ⟨a, ha1, ha2⟩ := ht.reduce x
    have hd : Λ (fun i => x i - a i) := L.sl hΛ h0 ha1
    have haΛ : Λ a := L.cong _ _ (L.add _ _ (-1) h1 hd) fun i => by show x i + -1 * (x i - a i) = a i; omega
    have hdz : ∀ i, i < k + 1 → x i - a i = 0 := fun i hi => Sp.at0 (i := i) (fun r hr => hz r hr i hi) ha1
    have hak : a k = x k := by have := hdz k (by omega); omega
    have haz : ∀ i, i < k → a i = 0 := fun i hi => by have := hdz i (by omega); have := h2 i hi; omega
    have hft : Ft a k := ⟨haz, by omega⟩
    have hzt : ∀ r ∈ t, ∀ i, i ≤ k → r i = 0 := fun r hr i hi => hz r hr i (by omega)
    refine ⟨a :: t, .cons hft hzt ha2 ht, fun r hr => ?_, fun r hr i hi => ?_, fun y g1 g2 => ?_⟩
    · rcases List.mem_cons.mp hr with rfl | hr
      · exact haΛ
      · exact hΛ r hr
    · rcases List.mem_cons.mp hr with rfl | hr
      · exact haz i hi
      · exact hz r hr i (by omega)
    · refine sl_cons.mpr ⟨(y k).fdiv (a k), ?_⟩
      have e := fdiv_fmod (y k) (a k)
      have s := (fmod_sgn (v := y k) (f := a k) (by omega)).1 hft.2
      have hrem : Λ (fun i => y i - (y k).fdiv (a k) * a i) := L.cong _ _ (L.add _ _ (-((y k).fdiv (a k))) g1 haΛ) fun i => by
        show y i + -((y k).fdiv (a k)) * a i = _
        rw [Int.neg_mul]
        rfl
      refine hsp _ hrem fun i hi => ?_
      rcases Nat.lt_or_ge i k with c | c
      · show y i - _ * a i = 0
        rw [g2 i c, haz i c]
        simp
      · have : i = k := by omega
        subst this
        show y i - (y i).fdiv (a i) * a i = 0
        rcases Int.lt_or_le 0 (y i - (y i).fdiv (a i) * a i) with q | q
        · have := h4 _ hrem (fun j hj => by
            show y j - _ * a j = 0
            rw [g2 j hj, haz j hj]
            simp) q
          have : x i ≤ y i - (y i).fdiv (a i) * a i := this
          omega
        · omega
theorem full_ex {h : List Nat} (hp : ∀ n ∈ h, 1 ≤ n) {Λ : Ve → Prop} (L : Latt h.length Λ) (h0 : Λ fun _ => 0) (hr : ∀ k, k < h.length → Λ (vec (rnd h k))) : ∃ S, Full h S ∧ ∀ x, Sl (S.map vec) x ↔ Λ x := by
  obtain ⟨l, h1, h2, _, h4⟩ := stair_from L h0 (fun k hk => ⟨_, hr k hk, fun i hi => by rw [vec_rnd, if_neg (by omega)], by
    rw [vec_rnd, if_pos ⟨rfl, hk⟩]
    have := getD_pos hp hk
    omega⟩) h.length 0 (by omega)
  have ev : ∀ r ∈ l, vec ((List.range h.length).map r) = r := fun r hr => funext fun i => by
    rcases Nat.lt_or_ge i h.length with c | c
    · rw [vec_get (by simp; exact c)]
      simp
    · rw [vec_out (by simp; exact c), L.out r (h2 r hr) i c]
  have em : (l.map fun r => (List.range h.length).map r).map vec = l := by
    rw [List.map_map]
    conv => rhs; rw [← List.map_id l]
    exact List.map_congr_left fun r hr => ev r hr
  refine ⟨l.map fun r => (List.range h.length).map r, ⟨fun r hr => ?_, by rw [em]; exact h1, fun k hk => ?_⟩, fun x => ?_⟩
  · obtain ⟨q, _, rfl⟩ := List.mem_map.mp hr
    simp
  · rw [em]
    exact h4 _ (hr k hk) fun i hi => by omega
  · rw [em]
    exact ⟨L.sl h2 h0, fun hx => h4 x hx fun i hi => by omega⟩
theorem lam_latt {h : List Nat} {A : List (List Int)} (hA : ∀ a ∈ A, a.length = h.length) : Latt h.length (Lam h A) where
  add := fun x y c hx hy => hx.add (hy.smul c)
  cong := fun x y hx e => hx.cong e
  out := fun x hx i hi => Sp.at0 (fun r hr => by
    obtain ⟨a, ha, rfl⟩ := List.mem_map.mp hr
    refine vec_out ?_
    rcases List.mem_append.mp ha with ha | ha
    · rw [hA a ha]
      exact hi
    · obtain ⟨k, _, rfl⟩ := List.mem_map.mp ha
      rw [rnd_len]
      exact hi) hx
/-- the stair of some things -/
theorem lam_ex {h : List Nat} (hp : ∀ n ∈ h, 1 ≤ n) {A : List (List Int)} (hA : ∀ a ∈ A, a.length = h.length) : ∃ S, Full h S ∧ ∀ x, Sl (S.map vec) x ↔ Lam h A x := full_ex hp (lam_latt hA) .zero fun k hk => lam_rnd hk
end St

namespace St
/-- rows of divisors with numbers above feet in one row -/
structure Dg (h : List Nat) (f : Nat → Nat) (i : Nat) (n : Nat → Int) (S : List (List Int)) : Prop where
  ln : S.length = h.length
  len : ∀ r ∈ S, r.length = h.length
  il : i < h.length
  f1 : ∀ k, k < h.length → 1 ≤ f k ∧ f k ∣ h.getD k 0
  v : ∀ k j, k < h.length → j < h.length → vec (S.getD k []) j = if j = k then (f k : Int) else if k = i ∧ i < j then n j else 0
  n0 : ∀ j, i < j → j < h.length → 0 ≤ n j
theorem Dg.mem {h : List Nat} {f : Nat → Nat} {i : Nat} {n : Nat → Int} {S : List (List Int)} (d : Dg h f i n S) {r : List Int} (hr : r ∈ S) : ∃ k, k < h.length ∧ r = S.getD k [] := by
  obtain ⟨k, hk, e⟩ := List.mem_iff_getElem.mp hr
  exact ⟨k, by rw [← d.ln]; exact hk, by rw [← e, List.getD_eq_getElem?_getD, List.getElem?_eq_getElem hk]; rfl⟩
theorem Dg.vo {h : List Nat} {f : Nat → Nat} {i : Nat} {n : Nat → Int} {S : List (List Int)} (d : Dg h f i n S) {k j : Nat} (hk : k < h.length) (hj : h.length ≤ j) : vec (S.getD k []) j = 0 :=
  vec_out (by rw [d.len _ (mem_getD (by rw [d.ln]; exact hk))]; exact hj)
theorem Dg.sl {h : List Nat} {f : Nat → Nat} {i : Nat} {n : Nat → Int} {S : List (List Int)} (d : Dg h f i n S) {k : Nat} (hk : k < h.length) : Sl (S.map vec) (vec (S.getD k [])) := .of (List.mem_map.mpr ⟨_, mem_getD (by rw [d.ln]; exact hk), rfl⟩)
theorem Dg.tail {h : List Nat} {f : Nat → Nat} {i : Nat} {n : Nat → Int} {S : List (List Int)} (d : Dg h f i n S) : ∀ (m : Nat) (x : Ve), m ≤ h.length → i + m + 1 ≤ h.length → (∀ j, j < h.length - m → x j = 0) → (∀ j, h.length ≤ j → x j = 0) → (∀ j, i < j → j < h.length → ((f j : Nat) : Int) ∣ x j) → Sl (S.map vec) x := by
  intro m
  induction m with
  | zero =>
    intro x _ _ h0 h1 _
    refine Sp.cong .zero fun j => ?_
    rcases Nat.lt_or_ge j h.length with q | q
    · exact (h0 j (by omega)).symm
    · exact (h1 j q).symm
  | succ m ih =>
    intro x hm hi h0 h1 hd
    have hk : h.length - (m + 1) < h.length := by omega
    obtain ⟨c, hc⟩ := hd (h.length - (m + 1)) (by omega) hk
    have key := ih (fun j => x j - c * vec (S.getD (h.length - (m + 1)) []) j) (by omega) (by omega) (fun j hj => by
      show x j - c * vec (S.getD (h.length - (m + 1)) []) j = 0
      rcases Nat.lt_or_ge j (h.length - (m + 1)) with q | q
      · rw [h0 j q, d.v _ _ hk (by omega), if_neg (by omega), if_neg (by omega)]
        simp
      · have e : j = h.length - (m + 1) := by omega
        rw [e, d.v _ _ hk hk, if_pos rfl, hc, Int.mul_comm]
        omega) (fun j hj => by
      show x j - c * vec (S.getD (h.length - (m + 1)) []) j = 0
      rw [h1 j hj, d.vo hk hj]
      simp) (fun j hj1 hj2 => by
      show ((f j : Nat) : Int) ∣ x j - c * vec (S.getD (h.length - (m + 1)) []) j
      rw [d.v _ _ hk hj2]
      refine Int.dvd_sub (hd j hj1 hj2) (Int.dvd_trans ?_ (Int.dvd_mul_left _ _))
      split
      · next e => rw [e]; exact Int.dvd_refl _
      · rw [if_neg (by omega)]; exact Int.dvd_zero _)
    exact (key.add ((d.sl hk).smul c)).cong fun j => by
      show x j - c * vec (S.getD (h.length - (m + 1)) []) j + c * vec (S.getD (h.length - (m + 1)) []) j = x j
      omega
theorem Dg.ft {h : List Nat} {f : Nat → Nat} {i : Nat} {n : Nat → Int} {S : List (List Int)} (d : Dg h f i n S) {k : Nat} (hk : k < h.length) : Ft (vec (S.getD k [])) k := by
  refine ⟨fun j hj => ?_, ?_⟩
  · rw [d.v _ _ hk (by omega), if_neg (by omega), if_neg (by omega)]
  · rw [d.v _ _ hk hk, if_pos rfl]
    have := (d.f1 k hk).1
    omega
theorem stair_of_feet {S : List (List Int)} (w : Nat) (hw : S.length = w) (hf : ∀ k, k < w → Ft (vec (S.getD k [])) k) (ha : ∀ j k, j < k → k < w → 0 ≤ vec (S.getD j []) k ∧ vec (S.getD j []) k < vec (S.getD k []) k) : Stair (S.map vec) := by
  have gen : ∀ (m c : Nat), c + m = w → Stair ((S.drop c).map vec) := by
    intro m
    induction m with
    | zero =>
      intro c hc
      rw [List.drop_eq_nil_of_le (by omega)]
      exact .nil
    | succ m ih =>
      intro c hc
      have hcl : c < S.length := by omega
      have e : S.drop c = S.getD c [] :: S.drop (c + 1) := by
        rw [List.drop_eq_getElem_cons hcl, List.getD_eq_getElem?_getD, List.getElem?_eq_getElem hcl]
        rfl
      have mem : ∀ q ∈ (S.drop (c + 1)).map vec, ∃ k, c < k ∧ k < w ∧ q = vec (S.getD k []) := fun q hq => by
        obtain ⟨r, hr, rfl⟩ := List.mem_map.mp hq
        obtain ⟨k, hk, e⟩ := List.mem_iff_getElem.mp hr
        rw [List.getElem_drop] at e
        rw [List.length_drop] at hk
        refine ⟨c + 1 + k, by omega, by omega, ?_⟩
        rw [← e, List.getD_eq_getElem?_getD, List.getElem?_eq_getElem (by omega)]
        rfl
      rw [e, List.map_cons]
      refine .cons (hf c (by omega)) (fun q hq j hj => ?_) (fun q hq j hj => ?_) (ih (c + 1) (by omega))
      · obtain ⟨k, h1, h2, rfl⟩ := mem q hq
        exact (hf k h2).1 j (by omega)
      · obtain ⟨k, h1, h2, rfl⟩ := mem q hq
        obtain rfl := hj.uniq (hf k h2)
        exact ha c _ h1 h2
  simpa using gen w 0 (by omega)
theorem Dg.full {h : List Nat} {f : Nat → Nat} {i : Nat} {n : Nat → Int} {S : List (List Int)} (d : Dg h f i n S) (hp : ∀ n ∈ h, 1 ≤ n) : Full h S ↔ ∀ j, i < j → j < h.length → n j < f j ∧ ((f j : Nat) : Int) ∣ ((h.getD i 0 / f i : Nat) : Int) * n j := by
  have fi := d.f1 i d.il
  obtain ⟨q, hq⟩ := fi.2
  have eq : h.getD i 0 / f i = q := by rw [hq]; exact Nat.mul_div_cancel_left _ (by omega)
  rw [eq]
  constructor
  · intro F j hj1 hj2
    refine ⟨?_, ?_⟩
    · have := (F.above hp hj1 hj2).2
      unfold foot at this
      rw [d.v _ _ d.il hj2, d.v _ _ hj2 hj2, if_pos rfl, if_neg (by omega), if_pos ⟨rfl, hj1⟩] at this
      exact this
    · have key : ∀ x, Sl (S.map vec) x → (((f j : Nat) : Int) * ((f i : Nat) : Int)) ∣ ((f i : Nat) : Int) * x j - x i * n j := by
        intro x hx
        induction hx with
        | zero => simp
        | @step y r c hr hy ih =>
          obtain ⟨r', hr', rfl⟩ := List.mem_map.mp hr
          obtain ⟨k, hk, rfl⟩ := d.mem hr'
          have e : ((f i : Nat) : Int) * (y j + c * vec (S.getD k []) j) - (y i + c * vec (S.getD k []) i) * n j = (((f i : Nat) : Int) * y j - y i * n j) + c * (((f i : Nat) : Int) * vec (S.getD k []) j - vec (S.getD k []) i * n j) := by grind
          show _ ∣ ((f i : Nat) : Int) * (y j + c * vec (S.getD k []) j) - (y i + c * vec (S.getD k []) i) * n j
          rw [e]
          refine Int.dvd_add ih (Int.dvd_trans ?_ (Int.dvd_mul_left _ _))
          rw [d.v _ _ hk hj2, d.v _ _ hk d.il]
          by_cases c1 : k = i
          · subst c1
            rw [if_neg (by omega), if_pos ⟨rfl, hj1⟩, if_pos rfl]
            simp
          · have e1 : (if i = k then ((f k : Nat) : Int) else if k = i ∧ i < i then n i else 0) = 0 := by
              rw [if_neg (fun e => c1 e.symm), if_neg (fun e => c1 e.1)]
            rw [e1, Int.zero_mul]
            by_cases c2 : j = k
            · subst c2
              rw [if_pos rfl, Int.mul_comm]
              simp
            · rw [if_neg c2, if_neg (fun e => c1 e.1)]
              simp
      have := key _ (F.rd i d.il)
      rw [vec_rnd, vec_rnd, if_neg (by omega), if_pos ⟨rfl, d.il⟩, hq] at this
      obtain ⟨t, ht⟩ := this
      refine ⟨-t, ?_⟩
      have f0 : ((f i : Nat) : Int) ≠ 0 := by omega
      refine Int.eq_of_mul_eq_mul_left f0 ?_
      push_cast at ht
      grind
  · intro H
    have hv : ∀ x : Ve, ∀ k, k < h.length → x k = 0 → True := fun _ _ _ _ => trivial
    refine ⟨d.len, stair_of_feet h.length d.ln (fun k hk => d.ft hk) (fun j k hjk hk => ?_), fun k hk => ?_⟩
    · rw [d.v _ _ (by omega) hk, d.v _ _ hk hk, if_pos rfl, if_neg (by omega)]
      split
      · next e =>
        exact ⟨d.n0 k e.2 hk, (H k e.2 hk).1⟩
      · have := (d.f1 k hk).1
        omega
    · obtain ⟨p, hp2⟩ := (d.f1 k hk).2
      by_cases c1 : k = i
      · subst c1
        have e2 : p = q := by
          have : f k * p = f k * q := by rw [← hp2, ← hq]
          exact Nat.eq_of_mul_eq_mul_left (by omega) this
        subst e2
        have key := d.tail (h.length - (k + 1)) (fun j => vec (rnd h k) j - (p : Int) * vec (S.getD k []) j) (by omega) (by omega) (fun j hj => by
          show vec (rnd h k) j - (p : Int) * vec (S.getD k []) j = 0
          rw [vec_rnd, d.v _ _ hk (by omega)]
          by_cases c2 : j = k
          · subst c2
            rw [if_pos ⟨rfl, hk⟩, if_pos rfl, hp2]
            push_cast
            grind
          · rw [if_neg (fun e => c2 e.1), if_neg c2, if_neg (by omega)]
            simp) (fun j hj => by
          show vec (rnd h k) j - (p : Int) * vec (S.getD k []) j = 0
          rw [vec_rnd, if_neg (by omega), d.vo hk hj]
          simp) (fun j hj1 hj2 => by
          show ((f j : Nat) : Int) ∣ vec (rnd h k) j - (p : Int) * vec (S.getD k []) j
          rw [vec_rnd, if_neg (by omega), d.v _ _ hk hj2, if_neg (by omega), if_pos ⟨rfl, hj1⟩, Int.zero_sub]
          exact Int.dvd_neg.mpr (H j hj1 hj2).2)
        exact (key.add ((d.sl hk).smul (p : Int))).cong fun j => by
          show vec (rnd h k) j - (p : Int) * vec (S.getD k []) j + (p : Int) * vec (S.getD k []) j = vec (rnd h k) j
          omega
      · refine ((d.sl hk).smul (p : Int)).cong fun j => ?_
        show (p : Int) * vec (S.getD k []) j = vec (rnd h k) j
        rcases Nat.lt_or_ge j h.length with g | g
        · rw [vec_rnd, d.v _ _ hk g]
          by_cases c2 : j = k
          · subst c2
            rw [if_pos rfl, if_pos ⟨rfl, hk⟩, hp2]
            push_cast
            grind
          · have e1 : (if j = k then ((f k : Nat) : Int) else if k = i ∧ i < j then n j else 0) = 0 := by
              rw [if_neg c2, if_neg (fun e => c1 e.1)]
            rw [e1, if_neg (fun e => c2 e.1)]
            simp
        · rw [vec_rnd, if_neg (by omega), d.vo hk g]
          simp
end St

namespace St
/-! ### all things of a part, put together row by row -/
def quo (h : List Nat) (S : List (List Int)) (k : Nat) : Nat := h.getD k 0 / (foot S k).toNat
def add' (h : List Nat) (a : List Int) (m : Nat) (r : List Int) : List Int := nrm h fun i => vec a i + (m : Int) * vec r i
def acc (h : List Nat) (S : List (List Int)) : Nat → List (List Int)
  | 0 => [nrm h fun _ => 0]
  | k + 1 => (List.range (quo h S k)).flatMap fun m => (acc h S k).map fun a => add' h a m (S.getD k [])
theorem Full.quo_eq {h : List Nat} {S : List (List Int)} (F : Full h S) (hp : ∀ n ∈ h, 1 ≤ n) {k : Nat} (hk : k < h.length) : foot S k = ((foot S k).toNat : Int) ∧ 1 ≤ (foot S k).toNat ∧ h.getD k 0 = quo h S k * (foot S k).toNat ∧ 1 ≤ quo h S k := by
  have h1 := F.fpos hp hk
  have h2 := (F.fle hp hk).1
  have h3 := getD_pos hp hk
  have e : foot S k = ((foot S k).toNat : Int) := by omega
  rw [e] at h2
  have h4 : (foot S k).toNat ∣ h.getD k 0 := Int.natCast_dvd_natCast.mp h2
  have h5 : h.getD k 0 = quo h S k * (foot S k).toNat := by
    unfold quo
    rw [Nat.div_mul_cancel h4]
  refine ⟨e, by omega, h5, ?_⟩
  rcases Nat.eq_zero_or_pos (quo h S k) with z | z
  · rw [z] at h5
    omega
  · exact z
theorem acc_len {h : List Nat} {S : List (List Int)} (k : Nat) : (acc h S (k + 1)).length = quo h S k * (acc h S k).length := by
  show ((List.range (quo h S k)).flatMap fun m => (acc h S k).map fun a => add' h a m (S.getD k [])).length = _
  rw [List.length_flatMap]
  simp only [List.length_map]
  generalize (acc h S k).length = c
  generalize quo h S k = n
  induction n with
  | zero => simp
  | succ n ih =>
    rw [List.range_succ, List.map_append, List.sum_append, ih]
    simp
    rw [Nat.add_mul]
    omega
theorem nrm_sl {h : List Nat} {S : List (List Int)} (F : Full h S) (hp : ∀ n ∈ h, 1 ≤ n) {y : Ve} (hy : Sl (S.map vec) y) (ho : ∀ k, h.length ≤ k → y k = 0) : Sl (S.map vec) (vec (nrm h y)) :=
  sl_mod F.rd hy (fun k hk => by rw [vec_nrm hk, Int.emod_emod_of_dvd _ (Int.dvd_refl _)]) fun k hk => by rw [ho k hk, vec_out (by rw [nrm_len]; exact hk)]
theorem th_out {h : List Nat} {a : List Int} (t : Th h a) {k : Nat} (hk : h.length ≤ k) : vec a k = 0 := vec_out (by rw [t.1]; exact hk)
theorem Full.rout {h : List Nat} {S : List (List Int)} (F : Full h S) (hp : ∀ n ∈ h, 1 ≤ n) {k i : Nat} (hk : k < h.length) (hi : h.length ≤ i) : vec (S.getD k []) i = 0 := vec_out (by rw [F.len _ (mem_getD (by rw [(F.feet hp).1]; exact hk))]; exact hi)
theorem acc_in {h : List Nat} {S : List (List Int)} (F : Full h S) (hp : ∀ n ∈ h, 1 ≤ n) : ∀ k, k ≤ h.length → ∀ a ∈ acc h S k, Th h a ∧ Sl (S.map vec) (vec a)
  | 0, _, a, ha => by
    rw [show a = nrm h fun _ => 0 from List.mem_singleton.mp ha]
    exact ⟨nrm_th hp _, nrm_sl F hp .zero fun _ _ => rfl⟩
  | k + 1, hk, a, ha => by
    obtain ⟨m, hm, ha⟩ := List.mem_flatMap.mp ha
    obtain ⟨b, hb, rfl⟩ := List.mem_map.mp ha
    obtain ⟨t, s⟩ := acc_in F hp k (by omega) b hb
    exact ⟨nrm_th hp _, nrm_sl F hp (s.add ((F.sl hp (by omega)).smul m)) fun i hi => by rw [th_out t hi, F.rout hp (by omega) hi]; simp⟩
theorem Th.mod {h : List Nat} {a : List Int} (t : Th h a) {k : Nat} (hk : k < h.length) : vec a k % ((h.getD k 0 : Nat) : Int) = vec a k := Int.emod_eq_of_lt (t.2 k hk).1 (t.2 k hk).2
theorem add_low {h : List Nat} {S : List (List Int)} (F : Full h S) (hp : ∀ n ∈ h, 1 ≤ n) {a : List Int} (t : Th h a) {m k i : Nat} (hk : k < h.length) (hi : i < k) : vec (add' h a m (S.getD k [])) i = vec a i := by
  unfold add'
  rw [vec_nrm (by omega), ((F.feet hp).2 k hk).1 i hi, Int.mul_zero, Int.add_zero]
  exact t.mod (by omega)
theorem add_at {h : List Nat} {S : List (List Int)} (F : Full h S) (hp : ∀ n ∈ h, 1 ≤ n) {a : List Int} {m k : Nat} (hk : k < h.length) : vec (add' h a m (S.getD k [])) k = (vec a k + (m : Int) * ((foot S k).toNat : Int)) % ((quo h S k : Nat) * (foot S k).toNat : Int) := by
  obtain ⟨e, _, e2, _⟩ := F.quo_eq hp hk
  unfold add'
  rw [vec_nrm hk, e2, show vec (S.getD k []) k = foot S k from rfl, e]
  push_cast
  simp
theorem add_inj {h : List Nat} {S : List (List Int)} (F : Full h S) (hp : ∀ n ∈ h, 1 ≤ n) {k : Nat} (hk : k < h.length) (P : ∀ a ∈ acc h S k, ∀ b ∈ acc h S k, (∀ i, i < k → vec a i = vec b i) → a = b) {a b : List Int} (ha : a ∈ acc h S k) (hb : b ∈ acc h S k) {m n : Nat} (hm : m < quo h S k) (hn : n < quo h S k) (e : ∀ i, i < k + 1 → vec (add' h a m (S.getD k [])) i = vec (add' h b n (S.getD k [])) i) : a = b ∧ m = n := by
  have ta := (acc_in F hp k (by omega) a ha).1
  have tb := (acc_in F hp k (by omega) b hb).1
  have ab : a = b := P a ha b hb fun i hi => by
    have := e i (by omega)
    rw [add_low F hp ta hk hi, add_low F hp tb hk hi] at this
    exact this
  subst ab
  refine ⟨rfl, ?_⟩
  have h1 := e k (by omega)
  rw [add_at F hp hk, add_at F hp hk] at h1
  obtain ⟨_, f1, _, q1⟩ := F.quo_eq hp hk
  generalize (foot S k).toNat = f at *
  generalize quo h S k = q at *
  have h2 := (Int.emod_eq_emod_iff_emod_sub_eq_zero).mp h1
  have h3 := Int.dvd_of_emod_eq_zero h2
  have e3 : (vec a k + (m : Int) * (f : Int)) - (vec a k + (n : Int) * (f : Int)) = ((m : Int) - n) * f := by grind
  rw [e3] at h3
  have h4 : (q : Int) ∣ (m : Int) - n := Int.dvd_of_mul_dvd_mul_right (by omega) h3
  obtain ⟨c, hc⟩ := h4
  rcases Int.lt_trichotomy c 0 with z | z | z
  · have : (q : Int) * c ≤ (q : Int) * (-1) := Int.mul_le_mul_of_nonneg_left (by omega) (by omega)
    omega
  · rw [z] at hc
    omega
  · have : (q : Int) * 1 ≤ (q : Int) * c := Int.mul_le_mul_of_nonneg_left (by omega) (by omega)
    omega
theorem acc_sep {h : List Nat} {S : List (List Int)} (F : Full h S) (hp : ∀ n ∈ h, 1 ≤ n) : ∀ k, k ≤ h.length → ∀ a ∈ acc h S k, ∀ b ∈ acc h S k, (∀ i, i < k → vec a i = vec b i) → a = b
  | 0, _, a, ha, b, hb, _ => by
    rw [show a = nrm h fun _ => 0 from List.mem_singleton.mp ha, show b = nrm h fun _ => 0 from List.mem_singleton.mp hb]
  | k + 1, hk, a, ha, b, hb, e => by
    obtain ⟨m, hm, ha⟩ := List.mem_flatMap.mp ha
    obtain ⟨a', ha', rfl⟩ := List.mem_map.mp ha
    obtain ⟨n, hn, hb⟩ := List.mem_flatMap.mp hb
    obtain ⟨b', hb', rfl⟩ := List.mem_map.mp hb
    obtain ⟨h1, h2⟩ := add_inj F hp (by omega) (acc_sep F hp k (by omega)) ha' hb' (List.mem_range.mp hm) (List.mem_range.mp hn) e
    rw [h1, h2]
theorem nodup_map' {α β : Type} {f : α → β} : ∀ {l : List α}, (∀ a ∈ l, ∀ b ∈ l, f a = f b → a = b) → l.Nodup → (l.map f).Nodup
  | [], _, _ => List.nodup_nil
  | a :: l, h, n => by
    rw [List.map_cons, List.nodup_cons]
    rw [List.nodup_cons] at n
    refine ⟨fun z => ?_, nodup_map' (fun a ha b hb => h a (List.mem_cons_of_mem _ ha) b (List.mem_cons_of_mem _ hb)) n.2⟩
    obtain ⟨b, hb, e⟩ := List.mem_map.mp z
    rw [h b (List.mem_cons_of_mem _ hb) a (List.mem_cons_self ..) e] at hb
    exact n.1 hb
theorem acc_nd {h : List Nat} {S : List (List Int)} (F : Full h S) (hp : ∀ n ∈ h, 1 ≤ n) : ∀ k, k ≤ h.length → (acc h S k).Nodup
  | 0, _ => by simp [acc]
  | k + 1, hk => by
    show List.Pairwise (· ≠ ·) ((List.range (quo h S k)).flatMap fun m => (acc h S k).map fun a => add' h a m (S.getD k []))
    rw [List.pairwise_flatMap]
    constructor
    · intro m hm
      refine nodup_map' (fun a ha b hb e => ?_) (acc_nd F hp k (by omega))
      exact (add_inj F hp (by omega) (acc_sep F hp k (by omega)) ha hb (List.mem_range.mp hm) (List.mem_range.mp hm) fun i _ => by rw [e]).1
    · refine (List.nodup_range (n := quo h S k)).imp_of_mem ?_
      intro m n hm hn hne x hx y hy e
      obtain ⟨a, ha, rfl⟩ := List.mem_map.mp hx
      obtain ⟨b, hb, rfl⟩ := List.mem_map.mp hy
      exact hne (add_inj F hp (by omega) (acc_sep F hp k (by omega)) ha hb (List.mem_range.mp hm) (List.mem_range.mp hn) fun i _ => by rw [e]).2
/-- what is 0 by the rounds ahead of a place is 0 there, but for the rounds -/
theorem low_zero {h : List Nat} {S : List (List Int)} (F : Full h S) : ∀ k, k ≤ h.length → ∀ d : Ve, Sl (S.map vec) d → (∀ i, i < k → ((h.getD i 0 : Nat) : Int) ∣ d i) → ∃ d' : Ve, Sl (S.map vec) d' ∧ (∀ i, i < k → d' i = 0) ∧ ∀ i, k ≤ i → d' i = d i
  | 0, _, d, hd, _ => ⟨d, hd, fun i hi => by omega, fun _ _ => rfl⟩
  | k + 1, hk, d, hd, hz => by
    obtain ⟨d', h1, h2, h3⟩ := low_zero F k (by omega) d hd fun i hi => hz i (by omega)
    obtain ⟨c, hc⟩ := hz k (by omega)
    refine ⟨fun i => d' i - c * vec (rnd h k) i, Sp.subm c h1 (F.rd k (by omega)), fun i hi => ?_, fun i hi => ?_⟩
    · show d' i - c * vec (rnd h k) i = 0
      rw [vec_rnd]
      by_cases e : i = k
      · subst e
        rw [if_pos ⟨rfl, by omega⟩, h3 i (Nat.le_refl _), hc, Int.mul_comm]
        omega
      · rw [if_neg (fun z => e z.1), h2 i (by omega)]
        simp
    · show d' i - c * vec (rnd h k) i = d i
      rw [vec_rnd, if_neg (by omega), h3 i (by omega)]
      simp
theorem acc_all {h : List Nat} {S : List (List Int)} (F : Full h S) (hp : ∀ n ∈ h, 1 ≤ n) : ∀ k, k ≤ h.length → ∀ y : Ve, Sl (S.map vec) y → ∃ a ∈ acc h S k, ∀ i, i < k → ((h.getD i 0 : Nat) : Int) ∣ y i - vec a i
  | 0, _, y, hy => ⟨_, List.mem_singleton.mpr rfl, fun i hi => by omega⟩
  | k + 1, hk, y, hy => by
    obtain ⟨a, ha, hz⟩ := acc_all F hp k (by omega) y hy
    obtain ⟨t, s⟩ := acc_in F hp k (by omega) a ha
    obtain ⟨d, h1, h2, h3⟩ := low_zero F k (by omega) (fun i => y i - vec a i) ((Sp.subm 1 hy s).cong fun i => by show y i - 1 * vec a i = y i - vec a i; omega) hz
    obtain ⟨c, hc⟩ := F.fdvd hp (by omega) h1 h2
    obtain ⟨e, f1, e2, q1⟩ := F.quo_eq hp (k := k) (by omega)
    have hd := h3 k (Nat.le_refl _)
    have hm0 := Int.emod_nonneg c (show ((quo h S k : Nat) : Int) ≠ 0 by omega)
    have hm1 := Int.emod_lt_of_pos c (show (0 : Int) < ((quo h S k : Nat) : Int) by omega)
    obtain ⟨m, hm⟩ := Int.eq_ofNat_of_zero_le hm0
    rw [hm] at hm1
    refine ⟨add' h a m (S.getD k []), List.mem_flatMap.mpr ⟨m, List.mem_range.mpr (by omega), List.mem_map.mpr ⟨a, ha, rfl⟩⟩, fun i hi => ?_⟩
    by_cases ik : i = k
    · subst ik
      rw [add_at F hp (by omega), e2]
      have hc2 : d i = ((foot S i).toNat : Int) * c := by rw [← e]; exact hc
      clear e hc
      generalize (foot S i).toNat = f at *
      generalize quo h S i = q at *
      have hcm := Int.mul_ediv_add_emod c (q : Int)
      have h5 := Int.mul_ediv_add_emod (vec a i + (m : Int) * (f : Int)) ((q * f : Nat) : Int)
      refine ⟨c / (q : Int) + (vec a i + (m : Int) * (f : Int)) / ((q * f : Nat) : Int), ?_⟩
      rw [hm] at hcm
      have hd : d i = y i - vec a i := hd
      push_cast at h5 ⊢
      generalize (vec a i + (m : Int) * (f : Int)) / ((q : Int) * (f : Int)) = z at *
      generalize (vec a i + (m : Int) * (f : Int)) % ((q : Int) * (f : Int)) = z2 at *
      generalize c / (q : Int) = z3 at *
      grind
    · rw [add_low F hp t (by omega) (by omega)]
      exact hz i (by omega)
theorem acc_mem {h : List Nat} {S : List (List Int)} (F : Full h S) (hp : ∀ n ∈ h, 1 ≤ n) (x : List Int) : x ∈ acc h S h.length ↔ Th h x ∧ Sl (S.map vec) (vec x) := by
  constructor
  · exact acc_in F hp _ (Nat.le_refl _) x
  · rintro ⟨t, s⟩
    obtain ⟨a, ha, hz⟩ := acc_all F hp _ (Nat.le_refl _) (vec x) s
    have ta := (acc_in F hp _ (Nat.le_refl _) a ha).1
    have : x = a := vec_ext (by rw [t.1, ta.1]) fun i => by
      rcases Nat.lt_or_ge i h.length with q | q
      · have h1 := hz i q
        have h2 := t.2 i q
        have h3 := ta.2 i q
        have h4 := Int.emod_emod_of_dvd (vec x i) (Int.dvd_refl ((h.getD i 0 : Nat) : Int))
        have h5 : vec x i % ((h.getD i 0 : Nat) : Int) = vec a i % ((h.getD i 0 : Nat) : Int) := Int.emod_eq_emod_iff_emod_sub_eq_zero.mpr (Int.emod_eq_zero_of_dvd h1)
        rw [t.mod q, ta.mod q] at h5
        exact h5
      · rw [th_out t q, th_out ta q]
    rw [this]
    exact ha
theorem prd_drop {h : List Nat} {k : Nat} (hk : k < h.length) : prd (h.drop k) = h.getD k 0 * prd (h.drop (k + 1)) := by
  rw [List.drop_eq_getElem_cons hk, prd_cons, List.getD_eq_getElem?_getD, List.getElem?_eq_getElem hk]
  rfl
end St

namespace Pu
open PySem
/-! ### rows of whole numbers as they rise -/
theorem dataLe_Tr : PySem.W.dataLe false (fun a : List Int => PyData.tuple (a.map .int)) = fun p q => decide (p ≤ q) := by
  funext p q
  show (!PySem.W.dataLt (.tuple (q.map .int)) (.tuple (p.map .int))) = _
  rw [PySem.W.dataLt_tuple]
  show (!PySem.W.rowLt (q.map .int) (p.map .int)) = _
  rw [PySem.W.dataLt_ints]
  by_cases h : q < p
  · have h' : ¬ p ≤ q := fun r => List.not_lt.mpr r h
    simp [h, h']
  · have h' : p ≤ q := List.not_lt.mp h
    simp [h, h']
theorem sort_so (L : List (List Int)) : (L.mergeSort fun p q => decide (p ≤ q)).Pairwise (· ≤ ·) := by
  refine (List.pairwise_mergeSort (fun a b c h1 h2 => ?_) (fun a b => ?_) L).imp fun h => of_decide_eq_true h
  · have h1 := of_decide_eq_true h1
    have h2 := of_decide_eq_true h2
    exact decide_eq_true (List.le_trans h1 h2)
  · rcases List.le_total a b with h | h
    · simp [h]
    · simp [h]
theorem so_uniq {L M : List (List Int)} (hL : L.Pairwise (· ≤ ·)) (hM : M.Pairwise (· ≤ ·)) (nL : L.Nodup) (nM : M.Nodup) (e : ∀ x, x ∈ L ↔ x ∈ M) : L = M :=
  List.Perm.eq_of_pairwise (le := (· ≤ ·)) (fun a b _ _ h1 h2 => List.le_antisymm h1 h2) hL hM ((List.perm_ext_iff_of_nodup nL nM).mpr e)
theorem sort_uniq {L M : List (List Int)} (hM : M.Pairwise (· ≤ ·)) (nL : L.Nodup) (nM : M.Nodup) (e : ∀ x, x ∈ L ↔ x ∈ M) : (L.mergeSort fun p q => decide (p ≤ q)) = M :=
  so_uniq (sort_so L) hM ((List.mergeSort_perm L _).nodup_iff.mpr nL) nM fun x => (List.mergeSort_perm L _).mem_iff.trans (e x)
end Pu

namespace K45
open PySem PySem.Spec PyProof.Rows L2 Pu
abbrev ln : List Str := ["_law_told", "_law_great_right"]
instance : TabT := ⟨tabsN ln⟩
def topS (i : Nat) : Stmt := PySem.Challenge.pw_commonhouse_k45_sizes_and_things.main.body.getD i (.Pass ⟨0, 0, 0, 0⟩)
abbrev FnP (K : PySem.W.Frag) (x : Str) (st : Stmt) (f : Addr) (fd : FuncData) : Prop := FunD K x x (defArgs st) (defBody st) (defScope st) [] [] f fd
abbrev xn : List Str := ["TooGreat"]
abbrev xy : List Str := ["NoThing", "TooGreat", "Endless", "NoPaper", "NoFit", "NoTable", "NoText", "NoName", "NoRow"]
structure Bz (K : PySem.W.Frag) (w : World) (mg : Str → Option Value) : Prop where
  b_enumerate : mg "enumerate" = none
  b_tuple : mg "tuple" = none
  b_len : mg "len" = none
  b_abs : mg "abs" = none
  b_range : mg "range" = none
  b_sorted : mg "sorted" = none
  b_sum : mg "sum" = none
  b_isinstance : mg "isinstance" = none
  b_ValueError : mg "ValueError" = none
  b_min : mg "min" = none
  b_int : mg "int" = none
  b_repr : mg "repr" = none
  g_MOST_THINGS : ∃ t, mg "MOST_THINGS" = some (.int 400 t)
  x_TooGreat : RaiK K mg "TooGreat"
  xt : XTab K mg xn xy
section
variable {P : Program} {w : World} {K : PySem.W.Frag} {mg : Str → Option Value} {base : Heap}
abbrev s_by_rounds : Stmt := topS 13
abbrev N_by_rounds : List Str := ["house", "numbers", "at", "number"]
theorem sc_by_rounds : FnScope N_by_rounds ["house", "numbers"] (defScope s_by_rounds) := ⟨rfl, rfl, rfl, by decide +kernel, rfl, by decide +kernel, by decide +kernel⟩
noncomputable def b_by_rounds : M Fl := (sRet ((nry (one tupD) (aCons (frzM (oComp (iBy enOf (aCons (getS 1) aNil)) [2, 3] (gT (gCn (gN 2) (gCn (gN 3) gNl))) yes (bin modD (getS 3) (bin ixD (getS 0) (getS 2))))) aNil)).bind fun d => M.ret (.v d)))
noncomputable def m_by_rounds : List Sl → Re RV := fnOf 4 b_by_rounds
theorem ok_by_rounds {f : Addr} {fd : FuncData} (Fu : FnP K "by_rounds" s_by_rounds f fd) (B : Bz K w mg) (NS : SeerK P base) : FnG P w K mg base 1 f fd ["house", "numbers"] (spG K mg 2 m_by_rounds) :=
  mk_fn Fu sc_by_rounds fun cdv A outer s H E hr =>
  (ss_one (s_ret (o_val (e_callT tup_data B.b_tuple (a_cons (e_val (o_lc (own := [("at", 2), ("number", 3)]) (i_enum (a_cons (e_var 1) a_nil) B.b_enumerate) (blkOk_by (show blkC N_by_rounds (defScope s_by_rounds) _ [("at", 2), ("number", 3)] = true from by decide +kernel)) (fun _ _ _ _ _ => (g_tup (g_cons (g_name 2 sc_by_rounds.nd) (g_cons (g_name 3 sc_by_rounds.nd) g_nil)) (gCn_len (gCn_len gNl_len)))) (fun _ _ _ _ _ => ts_nil) (fun _ _ _ _ _ => (e_op mod_data (e_var 3) (e_ix ix_data (e_var 0) (e_var 2)))) sc_by_rounds.nd)) a_nil)))))
abbrev s_nought : Stmt := topS 14
abbrev N_nought : List Str := ["house", "one"]
theorem sc_nought : FnScope N_nought ["house"] (defScope s_nought) := ⟨rfl, rfl, rfl, by decide +kernel, rfl, by decide +kernel, by decide +kernel⟩
noncomputable def b_nought : M Fl := (sRet ((nry (one tupD) (aCons (frzM (oComp (iSeq (getS 0)) [1] (gN 1) yes (M.ret (.int 0)))) aNil)).bind fun d => M.ret (.v d)))
noncomputable def m_nought : List Sl → Re RV := fnOf 2 b_nought
theorem ok_nought {f : Addr} {fd : FuncData} (Fu : FnP K "nought" s_nought f fd) (B : Bz K w mg) (NS : SeerK P base) : FnG P w K mg base 1 f fd ["house"] (spG K mg 1 m_nought) :=
  mk_fn Fu sc_nought fun cdv A outer s H E hr =>
  (ss_one (s_ret (o_val (e_callT tup_data B.b_tuple (a_cons (e_val (o_lc (own := [("one", 1)]) (i_seq (e_var 0)) (blkOk_by (show blkC N_nought (defScope s_nought) _ [("one", 1)] = true from by decide +kernel)) (fun _ _ _ _ _ => (g_name 1 sc_nought.nd)) (fun _ _ _ _ _ => ts_nil) (fun _ _ _ _ _ => e_int) sc_nought.nd)) a_nil)))))
abbrev s_size : Stmt := topS 15
abbrev N_size : List Str := ["house", "found", "one"]
theorem sc_size : FnScope N_size ["house"] (defScope s_size) := ⟨rfl, rfl, rfl, by decide +kernel, rfl, by decide +kernel, by decide +kernel⟩
noncomputable def b_size : M Fl := (sSeq (sSet 1 (M.ret (.int 1)))
  (sSeq (sFor (iSeq (getS 0)) (gN 2)
  (sSet 1 (bin mulD (getS 1) (getS 2))))
  (sRet ((getS 1).bind fun d => M.ret (.v d)))))
noncomputable def m_size : List Sl → Re RV := fnOf 3 b_size
theorem ok_size {f : Addr} {fd : FuncData} (Fu : FnP K "size" s_size f fd) (B : Bz K w mg) (NS : SeerK P base) : FnG P w K mg base 1 f fd ["house"] (spG K mg 1 m_size) :=
  mk_fn Fu sc_size fun cdv A outer s H E hr =>
  (ss_cons (s_set (i := 1) e_int sc_size.nd)
  (ss_cons (s_for (i_seq (e_var 0)) (g_name 2 sc_size.nd)
  (ss_one (s_set (i := 1) (e_op mul_data (e_var 1) (e_var 2)) sc_size.nd)) (passes_of rfl))
  (ss_one (s_ret (o_val (e_var 1))))))
abbrev s__law_pen : Stmt := topS 20
abbrev N__law_pen : List Str := ["_law_script"]
theorem sc__law_pen : FnScope N__law_pen ["_law_script"] (defScope s__law_pen) := ⟨rfl, rfl, rfl, by decide +kernel, rfl, by decide +kernel, by decide +kernel⟩
noncomputable def b__law_pen : M Fl := (sRet (oLst (aCons (eSl (getS 0) pNone (pSome (M.ret (.int 63)))) (aCons (M.ret (.int 0)) (aCons (M.ret (.int 0)) aNil)))))
noncomputable def m__law_pen : List Sl → Re RV := fnOf 1 b__law_pen
theorem ok__law_pen {f : Addr} {fd : FuncData} (Fu : FnP K "_law_pen" s__law_pen f fd) (B : Bz K w mg) (NS : SeerK P base) : FnG P w K mg base 1 f fd ["_law_script"] (spG K mg 1 m__law_pen) :=
  mk_fn Fu sc__law_pen fun cdv A outer s H E hr =>
  (ss_one (s_ret (o_lst (a_cons (e_sl (e_var 0) p_none (p_some e_int)) (a_cons e_int (a_cons e_int a_nil))))))
abbrev s__law_draw : Stmt := topS 21
abbrev N__law_draw : List Str := ["_law_pen_here", "_law_many", "_law_digit", "_law_at", "_law_cell", "_law_number"]
theorem sc__law_draw : FnScope N__law_draw ["_law_pen_here", "_law_many"] (defScope s__law_draw) := ⟨rfl, rfl, rfl, by decide +kernel, rfl, by decide +kernel, by decide +kernel⟩
noncomputable def b__law_draw : M Fl := (sSeq (sIf (tBool (bin gtD (eIxS 0 (M.ret (.int 2))) (M.ret (.int 0))))
  (sSeq (sSet 2 (bin modD (eIxS 0 (M.ret (.int 2))) (getS 1)))
  (sSeq (sPut' 0 (M.ret (.int 2)) (bin fdivLD (eIxS 0 (M.ret (.int 2))) (getS 1)))
  (sRet ((getS 2).bind fun d => M.ret (.v d)))))
  sNil)
  (sSeq (sSet 3 (eIxS 0 (M.ret (.int 1))))
  (sSeq (sPut' 0 (M.ret (.int 1)) (bin addD (getS 3) (M.ret (.int 1))))
  (sSeq (sSet 4 (bin addD (bin mulD (M.ret (.int 32452843)) (getS 3)) (M.ret (.int 3))))
  (sSeq (sIf (tBool (bin gtD (nry (one lenD) (aCons (eIxS 0 (M.ret (.int 0))) aNil)) (M.ret (.int 0))))
  (sSeq (sSet 4 (bin ixD (eIxS 0 (M.ret (.int 0))) (bin modD (getS 3) (nry (one lenD) (aCons (eIxS 0 (M.ret (.int 0))) aNil)))))
  (sIf (tAndM (tBool (bin ltD (getS 3) (nry (one lenD) (aCons (eIxS 0 (M.ret (.int 0))) aNil)))) (tBool (bin geD (nry (one absD) (aCons (getS 4) aNil)) (bin powD (M.ret (.int 10)) (M.ret (.int 18))))))
  (sSeq (sPut' 0 (M.ret (.int 2)) (bin fdivLD (nry (one absD) (aCons (getS 4) aNil)) (getS 1)))
  (sRet ((bin modD (nry (one absD) (aCons (getS 4) aNil)) (getS 1)).bind fun d => M.ret (.v d))))
  sNil))
  sNil)
  (sSeq (sSet 5 (bin modD (bin mulD (bin addD (bin addD (bin modD (getS 4) (M.ret (.int 2147483629))) (bin mulD (M.ret (.int 80021)) (getS 3))) (M.ret (.int 67))) (M.ret (.int 40692))) (M.ret (.int 2147483647))))
  (sSeq (sSet 5 (bin modD (bin addD (bin addD (bin mulD (getS 5) (getS 5)) (bin mulD (M.ret (.int 69621)) (getS 5))) (getS 3)) (M.ret (.int 2147483587))))
  (sRet ((bin modD (bin fdivLD (bin modD (bin mulD (getS 5) (bin addD (bin modD (getS 5) (M.ret (.int 65521))) (M.ret (.int 5)))) (M.ret (.int 2147483579))) (M.ret (.int 64))) (getS 1)).bind fun d => M.ret (.v d))))))))))
noncomputable def m__law_draw : List Sl → Re RV := fnOf 6 b__law_draw
theorem ok__law_draw {f : Addr} {fd : FuncData} (Fu : FnP K "_law_draw" s__law_draw f fd) (B : Bz K w mg) (NS : SeerK P base) : FnG P w K mg base 1 f fd ["_law_pen_here", "_law_many"] (spG K mg 2 m__law_draw) :=
  mk_fn Fu sc__law_draw fun cdv A outer s H E hr =>
  (ss_cons (s_if (t_cmp gt_data (e_ixS 0 e_int hr.u1) e_int)
  (ss_cons (s_set (i := 2) (e_op mod_data (e_ixS 0 e_int hr.u1) (e_var 1)) sc__law_draw.nd)
  (ss_cons (s_put 0 e_int (e_op (fdivL_data hr NS) (e_ixS 0 e_int hr.u1) (e_var 1)) hr.u1)
  (ss_one (s_ret (o_val (e_var 2))))))
  ss_nil)
  (ss_cons (s_set (i := 3) (e_ixS 0 e_int hr.u1) sc__law_draw.nd)
  (ss_cons (s_put 0 e_int (e_op add_data (e_var 3) e_int) hr.u1)
  (ss_cons (s_set (i := 4) (e_op add_data (e_op mul_data e_int (e_var 3)) e_int) sc__law_draw.nd)
  (ss_cons (s_if (t_cmp gt_data (e_callB len_data B.b_len (a_cons (e_ixS 0 e_int hr.u1) a_nil)) e_int)
  (ss_cons (s_set (i := 4) (e_ix ix_data (e_ixS 0 e_int hr.u1) (e_op mod_data (e_var 3) (e_callB len_data B.b_len (a_cons (e_ixS 0 e_int hr.u1) a_nil)))) sc__law_draw.nd)
  (ss_one (s_if (PW.pt (w_and (t_cmp lt_data (e_var 3) (e_callB len_data B.b_len (a_cons (e_ixS 0 e_int hr.u1) a_nil))) (w_and1 (t_cmp ge_data (e_callB abs_data B.b_abs (a_cons (e_var 4) a_nil)) (e_op pow_data e_int e_int)))))
  (ss_cons (s_put 0 e_int (e_op (fdivL_data hr NS) (e_callB abs_data B.b_abs (a_cons (e_var 4) a_nil)) (e_var 1)) hr.u1)
  (ss_one (s_ret (o_val (e_op mod_data (e_callB abs_data B.b_abs (a_cons (e_var 4) a_nil)) (e_var 1))))))
  ss_nil)))
  ss_nil)
  (ss_cons (s_set (i := 5) (e_op mod_data (e_op mul_data (e_op add_data (e_op add_data (e_op mod_data (e_var 4) e_int) (e_op mul_data e_int (e_var 3))) e_int) e_int) e_int) sc__law_draw.nd)
  (ss_cons (s_set (i := 5) (e_op mod_data (e_op add_data (e_op add_data (e_op mul_data (e_var 5) (e_var 5)) (e_op mul_data e_int (e_var 5))) (e_var 3)) e_int) sc__law_draw.nd)
  (ss_one (s_ret (o_val (e_op mod_data (e_op (fdivL_data hr NS) (e_op mod_data (e_op mul_data (e_var 5) (e_op add_data (e_op mod_data (e_var 5) e_int) e_int)) e_int) e_int) (e_var 1))))))))))))
abbrev s__law_closure : Stmt := topS 24
abbrev N__law_closure : List Str := ["_law_house_here", "_law_some", "_law_line", "_law_there", "_law_at", "_law_one", "_law_more", "_law_k"]
theorem sc__law_closure : FnScope N__law_closure ["_law_house_here", "_law_some"] (defScope s__law_closure) := ⟨rfl, rfl, rfl, by decide +kernel, rfl, by decide +kernel, by decide +kernel⟩
noncomputable def b__law_closure : M Fl := (sSeq (sSetO 2 (oLst (aCons (nry (one tupD) (aCons (bin mulD (frzM (oLst (aCons (M.ret (.int 0)) aNil))) (nry (one lenD) (aCons (getS 0) aNil))) aNil)) aNil)))
  (sSeq (sSetO 3 (oDictT1 (eIxS 2 (M.ret (.int 0))) (M.ret (.bool true))))
  (sSeq (sSet 4 (M.ret (.int 0)))
  (sSeq (sWhile (tBool (bin ltD (getS 4) (eLenS 2)))
  (sSeq (sFor (iSeq (getS 1)) (gN 5)
  (sSeq (sSet 6 (nry (one tupD) (aCons (frzM (oComp (iBy rng1 (aCons (nry (one lenD) (aCons (getS 0) aNil)) aNil)) [7] (gN 7) yes (bin modD (bin addD (bin ixD (eIxS 2 (getS 4)) (getS 7)) (bin ixD (getS 5) (getS 7))) (bin ixD (getS 0) (getS 7))))) aNil)))
  (sIf (tBool (eNinS 3 (getS 6)))
  (sSeq (sPut' 3 (getS 6) (M.ret (.bool true)))
  (sAppend 2 (getS 6)))
  sNil)))
  (sSet 4 (bin addD (getS 4) (M.ret (.int 1))))))
  (frz 2 (sRet (nryO sortAL (aCons (getS 2) aNil))))))))
noncomputable def m__law_closure : List Sl → Re RV := fnOf 8 b__law_closure
theorem ok__law_closure {f : Addr} {fd : FuncData} (Fu : FnP K "_law_closure" s__law_closure f fd) (B : Bz K w mg) (NS : SeerK P base) : FnG P w K mg base 1 f fd ["_law_house_here", "_law_some"] (spG K mg 2 m__law_closure) :=
  mk_fn Fu sc__law_closure fun cdv A outer s H E hr =>
  (ss_cons (s_setO (i := 2) (o_lst (a_cons (e_callT tup_data B.b_tuple (a_cons (e_op mul_data (e_val (o_lst (a_cons e_int a_nil))) (e_callB len_data B.b_len (a_cons (e_var 0) a_nil))) a_nil)) a_nil)) sc__law_closure.nd)
  (ss_cons (s_setO (i := 3) (o_dictT1 (e_ixS 2 e_int hr.u1) e_bl hr.u1) sc__law_closure.nd)
  (ss_cons (s_set (i := 4) e_int sc__law_closure.nd)
  (ss_cons (s_while (t_cmp lt_data (e_var 4) (e_lenS 2 B.b_len))
  (ss_cons (s_for (i_seq (e_var 1)) (g_name 5 sc__law_closure.nd)
  (ss_cons (s_set (i := 6) (e_callT tup_data B.b_tuple (a_cons (e_val (o_lc (own := [("_law_k", 7)]) (i_rng1 (a_cons (e_callB len_data B.b_len (a_cons (e_var 0) a_nil)) a_nil) B.b_range) (blkOk_by (show blkC N__law_closure (defScope s__law_closure) _ [("_law_k", 7)] = true from by decide +kernel)) (fun _ _ _ _ _ => (g_name 7 sc__law_closure.nd)) (fun _ _ _ _ _ => ts_nil) (fun _ _ _ _ _ => (e_op mod_data (e_op add_data (e_ix ix_data (e_ixS 2 (e_var 4) hr.u1) (e_var 7)) (e_ix ix_data (e_var 5) (e_var 7))) (e_ix ix_data (e_var 0) (e_var 7)))) sc__law_closure.nd)) a_nil)) sc__law_closure.nd)
  (ss_one (s_if (t_ninS 3 (e_var 6) hr.u1)
  (ss_cons (s_put 3 (e_var 6) e_bl hr.u1)
  (ss_one (s_append 2 (e_var 6))))
  ss_nil))) (passes_of rfl))
  (ss_one (s_set (i := 4) (e_op add_data (e_var 4) e_int) sc__law_closure.nd))) (passes_of rfl))
  (ss_one (s_frz 2 (s_ret (o_callB (call_sortedA hr) B.b_sorted (a_cons (e_var 2) a_nil)))))))))
abbrev s__law_fits : Stmt := topS 25
abbrev N__law_fits : List Str := ["_law_a", "_law_k", "_law_feet", "_law_j"]
theorem sc__law_fits : FnScope N__law_fits ["_law_a", "_law_k", "_law_feet"] (defScope s__law_fits) := ⟨rfl, rfl, rfl, by decide +kernel, rfl, by decide +kernel, by decide +kernel⟩
noncomputable def b__law_fits : M Fl := (sSeq (sIf (tOrM (tBool (bin gtD (nry (one sumAD) (aCons (eSl (getS 0) pNone (pSome (getS 1))) aNil)) (M.ret (.int 0)))) (tBool (bin neD (bin ixD (getS 0) (getS 1)) (bin ixD (getS 2) (getS 1)))))
  (sRet ((M.ret (.bool false)).bind fun d => M.ret (.v d)))
  sNil)
  (sRet ((bin eqD (frzM (oComp (iBy rng2 (aCons (bin addD (getS 1) (M.ret (.int 1))) (aCons (nry (one lenD) (aCons (getS 0) aNil)) aNil))) [3] (gN 3) (tBool (bin geD (bin ixD (getS 0) (getS 3)) (bin ixD (getS 2) (getS 3)))) (getS 3))) (frzM (oLst aNil))).bind fun d => M.ret (.v d))))
noncomputable def m__law_fits : List Sl → Re RV := fnOf 4 b__law_fits
theorem ok__law_fits {f : Addr} {fd : FuncData} (Fu : FnP K "_law_fits" s__law_fits f fd) (B : Bz K w mg) (NS : SeerK P base) : FnG P w K mg base 1 f fd ["_law_a", "_law_k", "_law_feet"] (spG K mg 3 m__law_fits) :=
  mk_fn Fu sc__law_fits fun cdv A outer s H E hr =>
  (ss_cons (s_if (PW.pt (w_or (t_cmp gt_data (e_callB sumA_data B.b_sum (a_cons (e_sl (e_var 0) p_none (p_some (e_var 1))) a_nil)) e_int) (w_or1 (t_cmp (ne_data hr.units) (e_ix ix_data (e_var 0) (e_var 1)) (e_ix ix_data (e_var 2) (e_var 1))))))
  (ss_one (s_ret (o_val e_bl)))
  ss_nil)
  (ss_one (s_ret (o_val (e_cmp (eq_data hr.units) (e_val (o_lc (own := [("_law_j", 3)]) (i_rng2 (a_cons (e_op add_data (e_var 1) e_int) (a_cons (e_callB len_data B.b_len (a_cons (e_var 0) a_nil)) a_nil)) B.b_range) (blkOk_by (show blkC N__law_fits (defScope s__law_fits) _ [("_law_j", 3)] = true from by decide +kernel)) (fun _ _ _ _ _ => (g_name 3 sc__law_fits.nd)) (fun _ _ _ _ _ => (ts_one (t_cmp ge_data (e_ix ix_data (e_var 0) (e_var 3)) (e_ix ix_data (e_var 2) (e_var 3))))) (fun _ _ _ _ _ => (e_var 3)) sc__law_fits.nd)) (e_val (o_lst a_nil)))))))
abbrev s__law_word : Stmt := topS 29
abbrev N__law_word : List Str := ["_law_caught", "_law_marks"]
theorem sc__law_word : FnScope N__law_word ["_law_caught"] (defScope s__law_word) := ⟨rfl, rfl, rfl, by decide +kernel, rfl, by decide +kernel, by decide +kernel⟩
noncomputable def b__law_word : M Fl := (sSeq (sSet 1 (frzM (oLst (aCons (una (isED xn "NoThing") (getS 0)) (aCons (una (isED xn "TooGreat") (getS 0)) (aCons (una (isED xn "Endless") (getS 0)) aNil))))))
  (sSeq (sSet 1 (bin addD (getS 1) (frzM (oLst (aCons (una (isED xn "NoPaper") (getS 0)) (aCons (una (isED xn "NoFit") (getS 0)) (aCons (una (isED xn "NoTable") (getS 0)) aNil)))))))
  (sSeq (sSet 1 (bin addD (getS 1) (frzM (oLst (aCons (una (isED xn "NoText") (getS 0)) (aCons (una (isED xn "NoName") (getS 0)) (aCons (una (isED xn "NoRow") (getS 0)) aNil)))))))
  (sSeq (sIf (tOrM (tBool (bin neD (eCount (getS 1) (M.ret (.bool true))) (M.ret (.int 1)))) (tNotM (tTru (una (isEV xn) (getS 0)))))
  (sRet ((M.ret (.str "other")).bind fun d => M.ret (.v d)))
  sNil)
  (sRet ((bin ixD (bin addD (frzM (oLst (aCons (M.ret (.str "thing")) (aCons (M.ret (.str "great")) aNil)))) (bin mulD (frzM (oLst (aCons (M.ret (.str "other")) aNil))) (M.ret (.int 7)))) (eIndex (getS 1) (M.ret (.bool true)))).bind fun d => M.ret (.v d)))))))
noncomputable def m__law_word : List Sl → Re RV := fnOf 2 b__law_word
theorem ok__law_word {f : Addr} {fd : FuncData} (Fu : FnP K "_law_word" s__law_word f fd) (B : Bz K w mg) (NS : SeerK P base) : FnG P w K mg base 1 f fd ["_law_caught"] (spG K mg 1 m__law_word) :=
  mk_fn Fu sc__law_word fun cdv A outer s H E hr =>
  (ss_cons (s_set (i := 1) (e_val (o_lst (a_cons (e_isE (y := "NoThing") B.xt (e_var 0) B.b_isinstance) (a_cons (e_isE (y := "TooGreat") B.xt (e_var 0) B.b_isinstance) (a_cons (e_isE (y := "Endless") B.xt (e_var 0) B.b_isinstance) a_nil))))) sc__law_word.nd)
  (ss_cons (s_set (i := 1) (e_op add_data (e_var 1) (e_val (o_lst (a_cons (e_isE (y := "NoPaper") B.xt (e_var 0) B.b_isinstance) (a_cons (e_isE (y := "NoFit") B.xt (e_var 0) B.b_isinstance) (a_cons (e_isE (y := "NoTable") B.xt (e_var 0) B.b_isinstance) a_nil)))))) sc__law_word.nd)
  (ss_cons (s_set (i := 1) (e_op add_data (e_var 1) (e_val (o_lst (a_cons (e_isE (y := "NoText") B.xt (e_var 0) B.b_isinstance) (a_cons (e_isE (y := "NoName") B.xt (e_var 0) B.b_isinstance) (a_cons (e_isE (y := "NoRow") B.xt (e_var 0) B.b_isinstance) a_nil)))))) sc__law_word.nd)
  (ss_cons (s_if (PW.pt (w_or (t_cmp (ne_data hr.units) (e_count (e_var 1) e_bl hr) e_int) (w_or1 (t_not (t_tru (e_isEV B.xt (e_var 0) B.b_isinstance B.b_ValueError))))))
  (ss_one (s_ret (o_val e_str)))
  ss_nil)
  (ss_one (s_ret (o_val (e_ix ix_data (e_op add_data (e_val (o_lst (a_cons e_str (a_cons e_str a_nil)))) (e_op mul_data (e_val (o_lst (a_cons e_str a_nil))) e_int)) (e_index (e_var 1) e_bl hr)))))))))
abbrev s_part_size : Stmt := topS 17
abbrev N_part_size : List Str := ["house", "part", "found", "at", "row"]
theorem sc_part_size : FnScope N_part_size ["house", "part"] (defScope s_part_size) := ⟨rfl, rfl, rfl, by decide +kernel, rfl, by decide +kernel, by decide +kernel⟩
noncomputable def b_part_size : M Fl := (sSeq (sSet 2 (frzM (cCall m_size (aCons (getS 0) aNil))))
  (sSeq (sFor (iBy enOf (aCons (getS 1) aNil)) (gT (gCn (gN 3) (gCn (gN 4) gNl)))
  (sSet 2 (bin fdivLD (getS 2) (bin ixD (getS 4) (getS 3)))))
  (sRet ((getS 2).bind fun d => M.ret (.v d)))))
noncomputable def m_part_size : List Sl → Re RV := fnOf 5 b_part_size
theorem ok_part_size {f : Addr} {fd : FuncData} (Fu : FnP K "part_size" s_part_size f fd) (B : Bz K w mg) (NS : SeerK P base) (G_size : Fn P w K mg base 1 "size" 1 m_size) : FnG P w K mg base 2 f fd ["house", "part"] (spG K mg 2 m_part_size) :=
  mk_fn Fu sc_part_size fun cdv A outer s H E hr =>
  (ss_cons (s_set (i := 2) (e_val (o_call G_size (hr.mono (by decide : 1 ≤ 1)) (takes_of rfl rfl rfl rfl) (a_cons (e_var 0) a_nil) (hnm := (aCons_len aNil_len)))) sc_part_size.nd)
  (ss_cons (s_for (i_enum (a_cons (e_var 1) a_nil) B.b_enumerate) (g_tup (g_cons (g_name 3 sc_part_size.nd) (g_cons (g_name 4 sc_part_size.nd) g_nil)) (gCn_len (gCn_len gNl_len)))
  (ss_one (s_set (i := 2) (e_op (fdivL_data hr NS) (e_var 2) (e_ix ix_data (e_var 4) (e_var 3))) sc_part_size.nd)) (passes_of rfl))
  (ss_one (s_ret (o_val (e_var 2))))))
abbrev s__law_small : Stmt := topS 22
abbrev N__law_small : List Str := ["_law_pen_here", "_law_most", "_law_found", "_law_room", "_law_k", "_law_free", "_law_one"]
theorem sc__law_small : FnScope N__law_small ["_law_pen_here", "_law_most"] (defScope s__law_small) := ⟨rfl, rfl, rfl, by decide +kernel, rfl, by decide +kernel, by decide +kernel⟩
noncomputable def b__law_small : M Fl := (sSeq (sSetO 2 (oLst aNil))
  (sSeq (sSet 3 (getS 1))
  (sSeq (sFor (iBy rng1 (aCons (frzM (cCallI 0 m__law_draw (aCons (M.ret (.int 7)) aNil))) aNil)) (gN 4)
  (sSeq (sSet 5 (bin addD (M.ret (.int 1)) (frzM (cCallI 0 m__law_draw (aCons (getS 3) aNil)))))
  (sSeq (sSet 6 (nry (two minD) (aCons (getS 3) (aCons (bin ixD (eTup (aCons (M.ret (.int 2)) (aCons (M.ret (.int 4)) (aCons (M.ret (.int 3)) (aCons (M.ret (.int 1)) (aCons (getS 5) (aCons (getS 5) (aCons (M.ret (.int 2)) (aCons (M.ret (.int 6)) aNil))))))))) (frzM (cCallI 0 m__law_draw (aCons (M.ret (.int 8)) aNil)))) aNil))))
  (sSeq (sAppend 2 (getS 6))
  (sSet 3 (bin fdivLD (getS 3) (getS 6)))))))
  (sRet ((eTupS 2).bind fun d => M.ret (.v d))))))
noncomputable def m__law_small : List Sl → Re RV := fnOf 7 b__law_small
theorem ok__law_small {f : Addr} {fd : FuncData} (Fu : FnP K "_law_small" s__law_small f fd) (B : Bz K w mg) (NS : SeerK P base) (G__law_draw : Fn P w K mg base 1 "_law_draw" 2 m__law_draw) : FnG P w K mg base 2 f fd ["_law_pen_here", "_law_most"] (spG K mg 2 m__law_small) :=
  mk_fn Fu sc__law_small fun cdv A outer s H E hr =>
  (ss_cons (s_setO (i := 2) (o_lst a_nil) sc__law_small.nd)
  (ss_cons (s_set (i := 3) (e_var 1) sc__law_small.nd)
  (ss_cons (s_for (i_rng1 (a_cons (e_val (o_callI 0 G__law_draw (hr.mono (by decide : 1 ≤ 1)) (takes_of rfl rfl rfl rfl) (a_cons e_int a_nil) (fun r ds r' h => congrArg Nat.succ ((aCons_len aNil_len) r ds r' h)))) a_nil) B.b_range) (g_name 4 sc__law_small.nd)
  (ss_cons (s_set (i := 5) (e_op add_data e_int (e_val (o_callI 0 G__law_draw (hr.mono (by decide : 1 ≤ 1)) (takes_of rfl rfl rfl rfl) (a_cons (e_var 3) a_nil) (fun r ds r' h => congrArg Nat.succ ((aCons_len aNil_len) r ds r' h))))) sc__law_small.nd)
  (ss_cons (s_set (i := 6) (e_callB min_data B.b_min (a_cons (e_var 3) (a_cons (e_ix ix_data (e_tup (a_cons e_int (a_cons e_int (a_cons e_int (a_cons e_int (a_cons (e_var 5) (a_cons (e_var 5) (a_cons e_int (a_cons e_int a_nil))))))))) (e_val (o_callI 0 G__law_draw (hr.mono (by decide : 1 ≤ 1)) (takes_of rfl rfl rfl rfl) (a_cons e_int a_nil) (fun r ds r' h => congrArg Nat.succ ((aCons_len aNil_len) r ds r' h))))) a_nil))) sc__law_small.nd)
  (ss_cons (s_append 2 (e_var 6))
  (ss_one (s_set (i := 3) (e_op (fdivL_data hr NS) (e_var 3) (e_var 6)) sc__law_small.nd))))) (passes_of rfl))
  (ss_one (s_ret (o_val (e_tupS 2 B.b_tuple)))))))
abbrev s__law_thing : Stmt := topS 23
abbrev N__law_thing : List Str := ["_law_pen_here", "_law_house_here", "_law_found", "_law_one", "_law_number", "_law_some"]
theorem sc__law_thing : FnScope N__law_thing ["_law_pen_here", "_law_house_here"] (defScope s__law_thing) := ⟨rfl, rfl, rfl, by decide +kernel, rfl, by decide +kernel, by decide +kernel⟩
noncomputable def b__law_thing : M Fl := (sSeq (sSetO 2 (oLst aNil))
  (sSeq (sFor (iSeq (getS 1)) (gN 3)
  (sSeq (sSet 4 (frzM (cCallI 0 m__law_draw (aCons (getS 3) aNil))))
  (sSeq (sSet 5 (frzM (oLst (aCons (getS 4) (aCons (getS 4) (aCons (M.ret (.int 0)) (aCons (bin subD (getS 3) (M.ret (.int 1))) (aCons (bin fdivLD (getS 3) (M.ret (.int 2))) (aCons (bin fdivLD (getS 3) (M.ret (.int 3))) (aCons (getS 4) aNil))))))))))
  (sAppend 2 (bin ixD (getS 5) (frzM (cCallI 0 m__law_draw (aCons (M.ret (.int 7)) aNil))))))))
  (sRet ((eTupS 2).bind fun d => M.ret (.v d)))))
noncomputable def m__law_thing : List Sl → Re RV := fnOf 6 b__law_thing
theorem ok__law_thing {f : Addr} {fd : FuncData} (Fu : FnP K "_law_thing" s__law_thing f fd) (B : Bz K w mg) (NS : SeerK P base) (G__law_draw : Fn P w K mg base 1 "_law_draw" 2 m__law_draw) : FnG P w K mg base 2 f fd ["_law_pen_here", "_law_house_here"] (spG K mg 2 m__law_thing) :=
  mk_fn Fu sc__law_thing fun cdv A outer s H E hr =>
  (ss_cons (s_setO (i := 2) (o_lst a_nil) sc__law_thing.nd)
  (ss_cons (s_for (i_seq (e_var 1)) (g_name 3 sc__law_thing.nd)
  (ss_cons (s_set (i := 4) (e_val (o_callI 0 G__law_draw (hr.mono (by decide : 1 ≤ 1)) (takes_of rfl rfl rfl rfl) (a_cons (e_var 3) a_nil) (fun r ds r' h => congrArg Nat.succ ((aCons_len aNil_len) r ds r' h)))) sc__law_thing.nd)
  (ss_cons (s_set (i := 5) (e_val (o_lst (a_cons (e_var 4) (a_cons (e_var 4) (a_cons e_int (a_cons (e_op sub_data (e_var 3) e_int) (a_cons (e_op (fdivL_data hr NS) (e_var 3) e_int) (a_cons (e_op (fdivL_data hr NS) (e_var 3) e_int) (a_cons (e_var 4) a_nil))))))))) sc__law_thing.nd)
  (ss_one (s_append 2 (e_ix ix_data (e_var 5) (e_val (o_callI 0 G__law_draw (hr.mono (by decide : 1 ≤ 1)) (takes_of rfl rfl rfl rfl) (a_cons e_int a_nil) (fun r ds r' h => congrArg Nat.succ ((aCons_len aNil_len) r ds r' h))))))))) (passes_of rfl))
  (ss_one (s_ret (o_val (e_tupS 2 B.b_tuple))))))
abbrev s__law_rows : Stmt := topS 26
abbrev N__law_rows : List Str := ["_law_house_here", "_law_inside", "_law_wide", "_law_feet", "_law_k", "_law_some", "_law_rows_here", "_law_row", "_law_a"]
theorem sc__law_rows : FnScope N__law_rows ["_law_house_here", "_law_inside"] (defScope s__law_rows) := ⟨rfl, rfl, rfl, by decide +kernel, rfl, by decide +kernel, by decide +kernel⟩
noncomputable def b__law_rows : M Fl := (sSeq (sSet 2 (nry (one lenD) (aCons (getS 0) aNil)))
  (sSeq (sSetO 3 (oLst aNil))
  (sSeq (sFor (iBy rng1 (aCons (getS 2) aNil)) (gN 4)
  (sSeq (sSet 5 (frzM (oComp (iSeq (getS 1)) [8] (gN 8) (tAndM (tBool (bin gtD (bin ixD (getS 8) (getS 4)) (M.ret (.int 0)))) (tBool (bin eqD (nry (one sumAD) (aCons (eSl (getS 8) pNone (pSome (getS 4))) aNil)) (M.ret (.int 0))))) (bin ixD (getS 8) (getS 4)))))
  (sAppend 3 (nry (one minL) (aCons (bin addD (getS 5) (frzM (oLst (aCons (bin ixD (getS 0) (getS 4)) aNil)))) aNil)))))
  (sSeq (sSetO 6 (oLst aNil))
  (sSeq (sFor (iBy rng1 (aCons (getS 2) aNil)) (gN 4)
  (sSeq (sSet 7 (bin addD (bin addD (bin mulD (eTup (aCons (M.ret (.int 0)) aNil)) (getS 4)) (eTup (aCons (bin ixD (getS 0) (getS 4)) aNil))) (bin mulD (eTup (aCons (M.ret (.int 0)) aNil)) (bin subD (bin subD (getS 2) (getS 4)) (M.ret (.int 1))))))
  (sSeq (sFor (iSeq (getS 1)) (gN 8)
  (frz 3 (sIf (tTru (frzM (cCall m__law_fits (aCons (getS 8) (aCons (getS 4) (aCons (getS 3) aNil))))))
  (sSet 7 (getS 8))
  sNil)))
  (sAppend 6 (getS 7)))))
  (sRet ((eTupS 6).bind fun d => M.ret (.v d))))))))
noncomputable def m__law_rows : List Sl → Re RV := fnOf 9 b__law_rows
theorem ok__law_rows {f : Addr} {fd : FuncData} (Fu : FnP K "_law_rows" s__law_rows f fd) (B : Bz K w mg) (NS : SeerK P base) (G__law_fits : Fn P w K mg base 1 "_law_fits" 3 m__law_fits) : FnG P w K mg base 2 f fd ["_law_house_here", "_law_inside"] (spG K mg 2 m__law_rows) :=
  mk_fn Fu sc__law_rows fun cdv A outer s H E hr =>
  (ss_cons (s_set (i := 2) (e_callB len_data B.b_len (a_cons (e_var 0) a_nil)) sc__law_rows.nd)
  (ss_cons (s_setO (i := 3) (o_lst a_nil) sc__law_rows.nd)
  (ss_cons (s_for (i_rng1 (a_cons (e_var 2) a_nil) B.b_range) (g_name 4 sc__law_rows.nd)
  (ss_cons (s_setLcV (i := 5) (own := [("_law_a", 8)]) (i_seq (e_var 1)) (blkOk_by (show blkC N__law_rows (defScope s__law_rows) _ [("_law_a", 8)] = true from by decide +kernel)) (fun _ _ _ _ _ => (g_name 8 sc__law_rows.nd)) (fun _ _ _ _ _ => (ts_one (PW.pt (w_and (t_cmp gt_data (e_ix ix_data (e_var 8) (e_var 4)) e_int) (w_and1 (t_cmp (eq_data hr.units) (e_callB sumA_data B.b_sum (a_cons (e_sl (e_var 8) p_none (p_some (e_var 4))) a_nil)) e_int)))))) (fun _ _ _ _ _ => (e_ix ix_data (e_var 8) (e_var 4))) sc__law_rows.nd)
  (ss_one (s_append 3 (e_callB (minL_data hr.in65) B.b_min (a_cons (e_op add_data (e_var 5) (e_val (o_lst (a_cons (e_ix ix_data (e_var 0) (e_var 4)) a_nil)))) a_nil))))) (passes_of rfl))
  (ss_cons (s_setO (i := 6) (o_lst a_nil) sc__law_rows.nd)
  (ss_cons (s_for (i_rng1 (a_cons (e_var 2) a_nil) B.b_range) (g_name 4 sc__law_rows.nd)
  (ss_cons (s_set (i := 7) (e_op add_data (e_op add_data (e_op mul_data (e_tup (a_cons e_int a_nil)) (e_var 4)) (e_tup (a_cons (e_ix ix_data (e_var 0) (e_var 4)) a_nil))) (e_op mul_data (e_tup (a_cons e_int a_nil)) (e_op sub_data (e_op sub_data (e_var 2) (e_var 4)) e_int))) sc__law_rows.nd)
  (ss_cons (s_for (i_seq (e_var 1)) (g_name 8 sc__law_rows.nd)
  (ss_one (s_frz 3 (s_if (t_tru (e_val (o_call G__law_fits (hr.mono (by decide : 1 ≤ 1)) (takes_of rfl rfl rfl rfl) (a_cons (e_var 8) (a_cons (e_var 4) (a_cons (e_var 3) a_nil))) (hnm := (aCons_len (aCons_len (aCons_len aNil_len)))))))
  (ss_one (s_set (i := 7) (e_var 8) sc__law_rows.nd))
  ss_nil))) (passes_of rfl))
  (ss_one (s_append 6 (e_var 7))))) (passes_of rfl))
  (ss_one (s_ret (o_val (e_tupS 6 B.b_tuple)))))))))
abbrev s__law_round : Stmt := topS 27
abbrev N__law_round : List Str := ["_law_pen_here", "_law_way"]
theorem sc__law_round : FnScope N__law_round ["_law_pen_here"] (defScope s__law_round) := ⟨rfl, rfl, rfl, by decide +kernel, rfl, by decide +kernel, by decide +kernel⟩
noncomputable def b__law_round : M Fl := (sSeq (sSet 1 (frzM (cCallI 0 m__law_draw (aCons (M.ret (.int 8)) aNil))))
  (sSeq (sIf (tBool (bin eqD (getS 1) (M.ret (.int 0))))
  (sRet ((M.ret (.int 1)).bind fun d => M.ret (.v d)))
  sNil)
  (sSeq (sIf (tBool (bin eqD (getS 1) (M.ret (.int 1))))
  (sRet ((bin subD (bin powD (M.ret (.int 10)) (M.ret (.int 6))) (frzM (cCallI 0 m__law_draw (aCons (M.ret (.int 3)) aNil)))).bind fun d => M.ret (.v d)))
  sNil)
  (sSeq (sIf (tBool (bin eqD (getS 1) (M.ret (.int 2))))
  (sRet (binO addO (M.ret (.int 1)) (frzM (cCallI 0 m__law_draw (aCons (bin powD (M.ret (.int 10)) (M.ret (.int 6))) aNil)))))
  sNil)
  (sSeq (sIf (tBool (bin ltD (getS 1) (M.ret (.int 5))))
  (sRet ((bin ixD (eTup (aCons (M.ret (.int 524288)) (aCons (M.ret (.int 531441)) (aCons (M.ret (.int 390625)) (aCons (M.ret (.int 994009)) (aCons (M.ret (.int 999983)) (aCons (M.ret (.int 720720)) (aCons (M.ret (.int 4096)) (aCons (M.ret (.int 27)) (aCons (M.ret (.int 8)) (aCons (M.ret (.int 36)) aNil))))))))))) (frzM (cCallI 0 m__law_draw (aCons (M.ret (.int 10)) aNil)))).bind fun d => M.ret (.v d)))
  sNil)
  (sRet (binO addO (M.ret (.int 1)) (frzM (cCallI 0 m__law_draw (aCons (M.ret (.int 24)) aNil))))))))))
noncomputable def m__law_round : List Sl → Re RV := fnOf 2 b__law_round
theorem ok__law_round {f : Addr} {fd : FuncData} (Fu : FnP K "_law_round" s__law_round f fd) (B : Bz K w mg) (NS : SeerK P base) (G__law_draw : Fn P w K mg base 1 "_law_draw" 2 m__law_draw) : FnG P w K mg base 2 f fd ["_law_pen_here"] (spG K mg 1 m__law_round) :=
  mk_fn Fu sc__law_round fun cdv A outer s H E hr =>
  (ss_cons (s_set (i := 1) (e_val (o_callI 0 G__law_draw (hr.mono (by decide : 1 ≤ 1)) (takes_of rfl rfl rfl rfl) (a_cons e_int a_nil) (fun r ds r' h => congrArg Nat.succ ((aCons_len aNil_len) r ds r' h)))) sc__law_round.nd)
  (ss_cons (s_if (t_cmp (eq_data hr.units) (e_var 1) e_int)
  (ss_one (s_ret (o_val e_int)))
  ss_nil)
  (ss_cons (s_if (t_cmp (eq_data hr.units) (e_var 1) e_int)
  (ss_one (s_ret (o_val (e_op sub_data (e_op pow_data e_int e_int) (e_val (o_callI 0 G__law_draw (hr.mono (by decide : 1 ≤ 1)) (takes_of rfl rfl rfl rfl) (a_cons e_int a_nil) (fun r ds r' h => congrArg Nat.succ ((aCons_len aNil_len) r ds r' h))))))))
  ss_nil)
  (ss_cons (s_if (t_cmp (eq_data hr.units) (e_var 1) e_int)
  (ss_one (s_ret (o_add e_int (e_val (o_callI 0 G__law_draw (hr.mono (by decide : 1 ≤ 1)) (takes_of rfl rfl rfl rfl) (a_cons (e_op pow_data e_int e_int) a_nil) (fun r ds r' h => congrArg Nat.succ ((aCons_len aNil_len) r ds r' h)))))))
  ss_nil)
  (ss_cons (s_if (t_cmp lt_data (e_var 1) e_int)
  (ss_one (s_ret (o_val (e_ix ix_data (e_tup (a_cons e_int (a_cons e_int (a_cons e_int (a_cons e_int (a_cons e_int (a_cons e_int (a_cons e_int (a_cons e_int (a_cons e_int (a_cons e_int a_nil))))))))))) (e_val (o_callI 0 G__law_draw (hr.mono (by decide : 1 ≤ 1)) (takes_of rfl rfl rfl rfl) (a_cons e_int a_nil) (fun r ds r' h => congrArg Nat.succ ((aCons_len aNil_len) r ds r' h))))))))
  ss_nil)
  (ss_one (s_ret (o_add e_int (e_val (o_callI 0 G__law_draw (hr.mono (by decide : 1 ≤ 1)) (takes_of rfl rfl rfl rfl) (a_cons e_int a_nil) (fun r ds r' h => congrArg Nat.succ ((aCons_len aNil_len) r ds r' h))))))))))))
abbrev s__law_turning : Stmt := topS 34
abbrev N__law_turning : List Str := ["_law_pen_here", "_law_house_here", "_law_found", "_law_one", "_law_by", "_law_number"]
theorem sc__law_turning : FnScope N__law_turning ["_law_pen_here", "_law_house_here"] (defScope s__law_turning) := ⟨rfl, rfl, rfl, by decide +kernel, rfl, by decide +kernel, by decide +kernel⟩
noncomputable def b__law_turning : M Fl := (sSeq (sSetO 2 (oLst aNil))
  (sSeq (sFor (iSeq (getS 1)) (gN 3)
  (sSeq (sSet 4 (bin ixD (eTup (aCons (M.ret (.int 1)) (aCons (M.ret (.int 2)) (aCons (M.ret (.int 3)) (aCons (M.ret (.int 4)) (aCons (M.ret (.int 12)) (aCons (M.ret (.int 1)) aNil))))))) (frzM (cCallI 0 m__law_draw (aCons (M.ret (.int 6)) aNil)))))
  (sSeq (sSet 5 (frzM (cCallI 0 m__law_draw (aCons (getS 4) aNil))))
  (sAppend 2 (bin mulD (bin mulD (bin fdivLD (getS 3) (getS 4)) (getS 5)) (nry (one intD) (aCons (bin eqD (bin modD (getS 3) (getS 4)) (M.ret (.int 0))) aNil)))))))
  (sRet ((eTupS 2).bind fun d => M.ret (.v d)))))
noncomputable def m__law_turning : List Sl → Re RV := fnOf 6 b__law_turning
theorem ok__law_turning {f : Addr} {fd : FuncData} (Fu : FnP K "_law_turning" s__law_turning f fd) (B : Bz K w mg) (NS : SeerK P base) (G__law_draw : Fn P w K mg base 1 "_law_draw" 2 m__law_draw) : FnG P w K mg base 2 f fd ["_law_pen_here", "_law_house_here"] (spG K mg 2 m__law_turning) :=
  mk_fn Fu sc__law_turning fun cdv A outer s H E hr =>
  (ss_cons (s_setO (i := 2) (o_lst a_nil) sc__law_turning.nd)
  (ss_cons (s_for (i_seq (e_var 1)) (g_name 3 sc__law_turning.nd)
  (ss_cons (s_set (i := 4) (e_ix ix_data (e_tup (a_cons e_int (a_cons e_int (a_cons e_int (a_cons e_int (a_cons e_int (a_cons e_int a_nil))))))) (e_val (o_callI 0 G__law_draw (hr.mono (by decide : 1 ≤ 1)) (takes_of rfl rfl rfl rfl) (a_cons e_int a_nil) (fun r ds r' h => congrArg Nat.succ ((aCons_len aNil_len) r ds r' h))))) sc__law_turning.nd)
  (ss_cons (s_set (i := 5) (e_val (o_callI 0 G__law_draw (hr.mono (by decide : 1 ≤ 1)) (takes_of rfl rfl rfl rfl) (a_cons (e_var 4) a_nil) (fun r ds r' h => congrArg Nat.succ ((aCons_len aNil_len) r ds r' h)))) sc__law_turning.nd)
  (ss_one (s_append 2 (e_op mul_data (e_op mul_data (e_op (fdivL_data hr NS) (e_var 3) (e_var 4)) (e_var 5)) (e_callT int_data B.b_int (a_cons (e_cmp (eq_data hr.units) (e_op mod_data (e_var 3) (e_var 4)) e_int) a_nil))))))) (passes_of rfl))
  (ss_one (s_ret (o_val (e_tupS 2 B.b_tuple))))))
abbrev s_things_in : Stmt := topS 18
abbrev N_things_in : List Str := ["house", "part", "found", "at", "row", "more", "many", "step", "one", "a", "k"]
theorem sc_things_in : FnScope N_things_in ["house", "part"] (defScope s_things_in) := ⟨rfl, rfl, rfl, by decide +kernel, rfl, by decide +kernel, by decide +kernel⟩
noncomputable def b_things_in : M Fl := (sSeq (sIf (tBool (bin gtD (frzM (cCall m_part_size (aCons (getS 0) (aCons (getS 1) aNil)))) (M.ret (.int 400))))
  (sRaise "TooGreat")
  sNil)
  (sSeq (sSetO 2 (oLst (aCons (frzM (cCall m_nought (aCons (getS 0) aNil))) aNil)))
  (sSeq (sFor (iBy enOf (aCons (getS 1) aNil)) (gT (gCn (gN 3) (gCn (gN 4) gNl)))
  (sSeq (sSetO 5 (oLst aNil))
  (sSeq (sFor (iBy rng1 (aCons (bin fdivLD (bin ixD (getS 0) (getS 3)) (bin ixD (getS 4) (getS 3))) aNil)) (gN 6)
  (sSeq (sSet 7 (frzM (oComp (iSeq (getS 4)) [8] (gN 8) yes (bin mulD (getS 6) (getS 8)))))
  (frz 2 (sExtend 5 (oComp (iSeq (getS 2)) [9] (gN 9) yes (frzM (cCall m_by_rounds (aCons (getS 0) (aCons (frzM (oComp (iBy rng1 (aCons (nry (one lenD) (aCons (getS 9) aNil)) aNil)) [10] (gN 10) yes (bin addD (bin ixD (getS 9) (getS 10)) (bin ixD (getS 7) (getS 10))))) aNil)))))))))
  (sSetO 2 (takeS 5)))))
  (frz 2 (sRet (nryO sortAL (aCons (getS 2) aNil)))))))
noncomputable def m_things_in : List Sl → Re RV := fnOf 11 b_things_in
theorem ok_things_in {f : Addr} {fd : FuncData} (Fu : FnP K "things_in" s_things_in f fd) (B : Bz K w mg) (NS : SeerK P base) (G_part_size : Fn P w K mg base 2 "part_size" 2 m_part_size) (G_nought : Fn P w K mg base 1 "nought" 1 m_nought) (G_by_rounds : Fn P w K mg base 1 "by_rounds" 2 m_by_rounds) : FnG P w K mg base 3 f fd ["house", "part"] (spG K mg 2 m_things_in) :=
  mk_fn Fu sc_things_in fun cdv A outer s H E hr =>
  (ss_cons (s_if (t_cmp gt_data (e_val (o_call G_part_size (hr.mono (by decide : 2 ≤ 2)) (takes_of rfl rfl rfl rfl) (a_cons (e_var 0) (a_cons (e_var 1) a_nil)) (hnm := (aCons_len (aCons_len aNil_len))))) (e_globI' B.g_MOST_THINGS))
  (ss_one (s_raise B.x_TooGreat (takes_of rfl rfl rfl rfl)))
  ss_nil)
  (ss_cons (s_setO (i := 2) (o_lst (a_cons (e_val (o_call G_nought (hr.mono (by decide : 1 ≤ 2)) (takes_of rfl rfl rfl rfl) (a_cons (e_var 0) a_nil) (hnm := (aCons_len aNil_len)))) a_nil)) sc_things_in.nd)
  (ss_cons (s_for (i_enum (a_cons (e_var 1) a_nil) B.b_enumerate) (g_tup (g_cons (g_name 3 sc_things_in.nd) (g_cons (g_name 4 sc_things_in.nd) g_nil)) (gCn_len (gCn_len gNl_len)))
  (ss_cons (s_setO (i := 5) (o_lst a_nil) sc_things_in.nd)
  (ss_cons (s_for (i_rng1 (a_cons (e_op (fdivL_data hr NS) (e_ix ix_data (e_var 0) (e_var 3)) (e_ix ix_data (e_var 4) (e_var 3))) a_nil) B.b_range) (g_name 6 sc_things_in.nd)
  (ss_cons (s_set (i := 7) (e_val (o_lc (own := [("one", 8)]) (i_seq (e_var 4)) (blkOk_by (show blkC N_things_in (defScope s_things_in) _ [("one", 8)] = true from by decide +kernel)) (fun _ _ _ _ _ => (g_name 8 sc_things_in.nd)) (fun _ _ _ _ _ => ts_nil) (fun _ _ _ _ _ => (e_op mul_data (e_var 6) (e_var 8))) sc_things_in.nd)) sc_things_in.nd)
  (ss_one (s_frz 2 (s_extend 5 (o_lc (own := [("a", 9)]) (i_seq (e_var 2)) (blkOk_by (show blkC N_things_in (defScope s_things_in) _ [("a", 9)] = true from by decide +kernel)) (fun _ _ _ _ _ => (g_name 9 sc_things_in.nd)) (fun _ _ _ _ _ => ts_nil) (fun _ _ _ _ _ => (e_val (o_call G_by_rounds (hr.mono (by decide : 1 ≤ 2)) takes0 (a_cons (e_var 0) (a_cons (e_val (o_lc (own := [("k", 10)]) (i_rng1 (a_cons (e_callB len_data B.b_len (a_cons (e_var 9) a_nil)) a_nil) B.b_range) (blkOk_by (by rfl)) (fun _ _ _ _ _ => (g_name 10 sc_things_in.nd)) (fun _ _ _ _ _ => ts_nil) (fun _ _ _ _ _ => (e_op add_data (e_ix ix_data (e_var 9) (e_var 10)) (e_ix ix_data (e_var 7) (e_var 10)))) sc_things_in.nd)) a_nil)) (hnm := (aCons_len (aCons_len aNil_len)))))) sc_things_in.nd))))) (passes_of rfl))
  (ss_one (s_setO (i := 2) (o_take 5) sc_things_in.nd)))) (passes_of rfl))
  (ss_one (s_frz 2 (s_ret (o_callB (call_sortedA hr) B.b_sorted (a_cons (e_var 2) a_nil))))))))
abbrev s__law_house : Stmt := topS 28
abbrev N__law_house : List Str := ["_law_pen_here", "_law_k"]
theorem sc__law_house : FnScope N__law_house ["_law_pen_here"] (defScope s__law_house) := ⟨rfl, rfl, rfl, by decide +kernel, rfl, by decide +kernel, by decide +kernel⟩
noncomputable def b__law_house : M Fl := (sRet ((nry (one tupD) (aCons (frzM (oComp (iBy rng1 (aCons (frzM (cCallI 0 m__law_draw (aCons (M.ret (.int 7)) aNil))) aNil)) [1] (gN 1) yes (frzM (cCallI 0 m__law_round aNil)))) aNil)).bind fun d => M.ret (.v d)))
noncomputable def m__law_house : List Sl → Re RV := fnOf 2 b__law_house
theorem ok__law_house {f : Addr} {fd : FuncData} (Fu : FnP K "_law_house" s__law_house f fd) (B : Bz K w mg) (NS : SeerK P base) (G__law_draw : Fn P w K mg base 1 "_law_draw" 2 m__law_draw) (G__law_round : Fn P w K mg base 2 "_law_round" 1 m__law_round) : FnG P w K mg base 3 f fd ["_law_pen_here"] (spG K mg 1 m__law_house) :=
  mk_fn Fu sc__law_house fun cdv A outer s H E hr =>
  (ss_one (s_ret (o_val (e_callT tup_data B.b_tuple (a_cons (e_val (o_lc (own := [("_law_k", 1)]) (i_rng1 (a_cons (e_val (o_callI 0 G__law_draw (hr.mono (by decide : 1 ≤ 2)) (takes_of rfl rfl rfl rfl) (a_cons e_int a_nil) (fun r ds r' h => congrArg Nat.succ ((aCons_len aNil_len) r ds r' h)))) a_nil) B.b_range) (blkOk_by (show blkC N__law_house (defScope s__law_house) _ [("_law_k", 1)] = true from by decide +kernel)) (fun _ _ _ _ _ => (g_name 1 sc__law_house.nd)) (fun _ _ _ _ _ => ts_nil) (fun _ _ _ _ _ => (e_val (o_callI 0 G__law_round (hr.mono (by decide : 2 ≤ 2)) takes0 a_nil (fun r ds r' h => congrArg Nat.succ (aNil_len r ds r' h))))) sc__law_house.nd)) a_nil)))))
abbrev s__law_heard : Stmt := topS 30
abbrev N__law_heard : List Str := ["_law_ask", "_law_caught", "e"]
theorem sc__law_heard : FnScope N__law_heard ["_law_ask"] (defScope s__law_heard) := ⟨rfl, rfl, rfl, by decide +kernel, rfl, by decide +kernel, by decide +kernel⟩
noncomputable def b__law_heard : M Fl := (sSeq (sIf (tBool (bin isD (getS 1) (M.ret .none)))
  (sRet ((M.ret (.str "told")).bind fun d => M.ret (.v d)))
  sNil)
  (sRet (cCall m__law_word (aCons (getS 1) aNil))))
theorem lam__law_heard {g : Addr} (B : Bz K w mg) (NS : SeerK P base) (G__law_word : Fn P w K mg base 1 "_law_word" 1 m__law_word) : GivesG P w K mg base 4 3 1 b__law_heard "_law_heard" N__law_heard (defScope s__law_heard) g (defBody s__law_heard) "_law_ask" :=
  heard_gives (j := 2) sc__law_heard rfl rfl rfl (by decide) (by decide) rfl rfl rfl (B.xt.g houseE (List.mem_cons_self ..)) fun cdv A outer s H hr =>
  (ss_cons (s_if (t_cmp is_data (e_var 1) e_non)
  (ss_one (s_ret (o_val e_str)))
  ss_nil)
  (ss_one (s_ret (o_call G__law_word (hr.mono (by decide : 1 ≤ 4)) (takes_of rfl rfl rfl rfl) (a_cons (e_var 1) a_nil) (hnm := (aCons_len aNil_len))))))
abbrev s__law_told : Stmt := topS 31
abbrev N__law_told : List Str := ["_law_house_here", "_law_rows_here", "_law_due", "_law_again", "_law_found"]
theorem sc__law_told : FnScope N__law_told ["_law_house_here", "_law_rows_here", "_law_due"] (defScope s__law_told) := ⟨rfl, rfl, rfl, by decide +kernel, rfl, by decide +kernel, by decide +kernel⟩
noncomputable def b__law_told : M Fl := (sSeq (sFor (iBy rng1 (aCons (M.ret (.int 2)) aNil)) (gN 3)
  (sSeq (sIf (tBool (bin neD (nry (one reprD) (aCons (frzM (cCall m_part_size (aCons (getS 0) (aCons (getS 1) aNil)))) aNil)) (nry (one reprD) (aCons (nry (one lenD) (aCons (getS 2) aNil)) aNil))))
  (sRet ((M.ret (.bool false)).bind fun d => M.ret (.v d)))
  sNil)
  (sIf (tBool (bin gtD (nry (one lenD) (aCons (getS 2) aNil)) (M.ret (.int 400))))
  (sIf (tBool (bin neD (frzM (cLam xn 3 1 b__law_heard (frzM (cCall m_things_in (aCons (getS 0) (aCons (getS 1) aNil)))))) (M.ret (.str "great"))))
  (sRet ((M.ret (.bool false)).bind fun d => M.ret (.v d)))
  sNil)
  (sSeq (sSetO 4 (cCall m_things_in (aCons (getS 0) (aCons (getS 1) aNil))))
  (sSeq (sIf (tBool (bin neD (eReprS 4) (nry (one reprD) (aCons (getS 2) aNil))))
  (sRet ((M.ret (.bool false)).bind fun d => M.ret (.v d)))
  sNil)
  (sSeq (sDrop (eLRev 4))
  (sAppend 4 (M.ret .none))))))))
  (sRet ((M.ret (.bool true)).bind fun d => M.ret (.v d))))
noncomputable def m__law_told : List Sl → Re RV := fnOf 5 b__law_told
theorem ok__law_told {f : Addr} {fd : FuncData} (Fu : FnP K "_law_told" s__law_told f fd) (B : Bz K w mg) (NS : SeerK P base) (LA : LamAt K mg base "_law_told" f) (G_part_size : Fn P w K mg base 2 "part_size" 2 m_part_size) (G_things_in : Fn P w K mg base 3 "things_in" 2 m_things_in) (G__law_heard : LamFn P w K mg base 4 "_law_heard" 3 1 b__law_heard) : FnG P w K mg base 6 f fd ["_law_house_here", "_law_rows_here", "_law_due"] (spG K mg 3 m__law_told) :=
  mk_fnC Fu sc__law_told fun cdv hcd A outer s H E hr =>
  (ss_cons (s_for (i_rng1 (a_cons e_int a_nil) B.b_range) (g_name 3 sc__law_told.nd)
  (ss_cons (s_if (t_cmp (ne_data hr.units) (e_callB (repr_data hr) B.b_repr (a_cons (e_val (o_call G_part_size (hr.mono (by decide : 2 ≤ 5)) (takes_of rfl rfl rfl rfl) (a_cons (e_var 0) (a_cons (e_var 1) a_nil)) (hnm := (aCons_len (aCons_len aNil_len))))) a_nil)) (e_callB (repr_data hr) B.b_repr (a_cons (e_callB len_data B.b_len (a_cons (e_var 2) a_nil)) a_nil)))
  (ss_one (s_ret (o_val e_bl)))
  ss_nil)
  (ss_one (s_if (t_cmp gt_data (e_callB len_data B.b_len (a_cons (e_var 2) a_nil)) e_int)
  (ss_one (s_if (t_cmp (ne_data hr.units) (e_val (o_lam2 G__law_heard B.xt (hr.mono (by decide : 5 ≤ 5)) LA hcd (LamX.lamS_by (show LamX.lamSB (defScope s__law_told) _ = true from by decide +kernel)) (fun E_ A_ ou_ s_ H_ f_ c_ hr => (e_val (o_call G_things_in (hr.mono (by decide : 3 ≤ 3)) (takes_of rfl rfl rfl rfl) (a_cons (e_var 0) (a_cons (e_var 1) a_nil)) (hnm := (aCons_len (aCons_len aNil_len)))))))) e_str)
  (ss_one (s_ret (o_val e_bl)))
  ss_nil))
  (ss_cons (s_setO (i := 4) (o_call G_things_in (hr.mono (by decide : 3 ≤ 5)) (takes_of rfl rfl rfl rfl) (a_cons (e_var 0) (a_cons (e_var 1) a_nil)) (hnm := (aCons_len (aCons_len aNil_len)))) sc__law_told.nd)
  (ss_cons (s_if (t_cmp (ne_data hr.units) (e_reprS 4 hr B.b_repr) (e_callB (repr_data hr) B.b_repr (a_cons (e_var 2) a_nil)))
  (ss_one (s_ret (o_val e_bl)))
  ss_nil)
  (ss_cons (s_expr (e_lrev 4))
  (ss_one (s_append 4 e_non)))))))) (passes_of rfl))
  (ss_one (s_ret (o_val e_bl))))
abbrev s__law_great_right : Stmt := topS 36
abbrev N__law_great_right : List Str := ["_law_pen_here", "_law_house_here", "_law_wide", "_law_rows_here", "_law_due", "_law_k", "_law_small_here", "_law_foot"]
theorem sc__law_great_right : FnScope N__law_great_right ["_law_pen_here"] (defScope s__law_great_right) := ⟨rfl, rfl, rfl, by decide +kernel, rfl, by decide +kernel, by decide +kernel⟩
noncomputable def b__law_great_right : M Fl := (sSeq (sSet 1 (frzM (cCallI 0 m__law_house aNil)))
  (sSeq (sSet 2 (nry (one lenD) (aCons (getS 1) aNil)))
  (sSeq (sSetO 3 (oLst aNil))
  (sSeq (sSet 4 (M.ret (.int 1)))
  (sSeq (sFor (iBy rng1 (aCons (getS 2) aNil)) (gN 5)
  (sSeq (sSet 6 (bin addD (M.ret (.int 1)) (frzM (cCallI 0 m__law_draw (aCons (M.ret (.int 40)) aNil)))))
  (sSeq (sSet 7 (bin ixD (frzM (oLst (aCons (M.ret (.int 1)) (aCons (bin ixD (getS 1) (getS 5)) (aCons (getS 6) (aCons (bin ixD (getS 1) (getS 5)) (aCons (M.ret (.int 1)) aNil))))))) (frzM (cCallI 0 m__law_draw (aCons (M.ret (.int 5)) aNil)))))
  (sSeq (sIf (tBool (bin neD (bin modD (bin ixD (getS 1) (getS 5)) (getS 7)) (M.ret (.int 0))))
  (sSet 7 (bin ixD (getS 1) (getS 5)))
  sNil)
  (sSeq (sAppend 3 (bin addD (bin addD (bin mulD (eTup (aCons (M.ret (.int 0)) aNil)) (getS 5)) (eTup (aCons (getS 7) aNil))) (bin mulD (eTup (aCons (M.ret (.int 0)) aNil)) (bin subD (bin subD (getS 2) (getS 5)) (M.ret (.int 1))))))
  (sSet 4 (bin mulD (getS 4) (bin fdivLD (bin ixD (getS 1) (getS 5)) (getS 7)))))))))
  (sSeq (sIf (tBool (bin neD (nry (one reprD) (aCons (frzM (cCall m_part_size (aCons (getS 1) (aCons (eTupS 3) aNil)))) aNil)) (nry (one reprD) (aCons (getS 4) aNil))))
  (sRet ((M.ret (.bool false)).bind fun d => M.ret (.v d)))
  sNil)
  (frz 3 (sRet ((eOr (bin leD (getS 4) (M.ret (.int 400))) (bin eqD (frzM (cLam xn 3 1 b__law_heard (frzM (cCall m_things_in (aCons (getS 1) (aCons (nry (one tupD) (aCons (getS 3) aNil)) aNil)))))) (M.ret (.str "great")))).bind fun d => M.ret (.v d))))))))))
noncomputable def m__law_great_right : List Sl → Re RV := fnOf 8 b__law_great_right
theorem ok__law_great_right {f : Addr} {fd : FuncData} (Fu : FnP K "_law_great_right" s__law_great_right f fd) (B : Bz K w mg) (NS : SeerK P base) (LA : LamAt K mg base "_law_great_right" f) (G__law_house : Fn P w K mg base 3 "_law_house" 1 m__law_house) (G__law_draw : Fn P w K mg base 1 "_law_draw" 2 m__law_draw) (G_part_size : Fn P w K mg base 2 "part_size" 2 m_part_size) (G_things_in : Fn P w K mg base 3 "things_in" 2 m_things_in) (G__law_heard : LamFn P w K mg base 4 "_law_heard" 3 1 b__law_heard) : FnG P w K mg base 6 f fd ["_law_pen_here"] (spG K mg 1 m__law_great_right) :=
  mk_fnC Fu sc__law_great_right fun cdv hcd A outer s H E hr =>
  (ss_cons (s_set (i := 1) (e_val (o_callI 0 G__law_house (hr.mono (by decide : 3 ≤ 5)) (takes_of rfl rfl rfl rfl) a_nil (fun r ds r' h => congrArg Nat.succ (aNil_len r ds r' h)))) sc__law_great_right.nd)
  (ss_cons (s_set (i := 2) (e_callB len_data B.b_len (a_cons (e_var 1) a_nil)) sc__law_great_right.nd)
  (ss_cons (s_setO (i := 3) (o_lst a_nil) sc__law_great_right.nd)
  (ss_cons (s_set (i := 4) e_int sc__law_great_right.nd)
  (ss_cons (s_for (i_rng1 (a_cons (e_var 2) a_nil) B.b_range) (g_name 5 sc__law_great_right.nd)
  (ss_cons (s_set (i := 6) (e_op add_data e_int (e_val (o_callI 0 G__law_draw (hr.mono (by decide : 1 ≤ 5)) (takes_of rfl rfl rfl rfl) (a_cons e_int a_nil) (fun r ds r' h => congrArg Nat.succ ((aCons_len aNil_len) r ds r' h))))) sc__law_great_right.nd)
  (ss_cons (s_set (i := 7) (e_ix ix_data (e_val (o_lst (a_cons e_int (a_cons (e_ix ix_data (e_var 1) (e_var 5)) (a_cons (e_var 6) (a_cons (e_ix ix_data (e_var 1) (e_var 5)) (a_cons e_int a_nil))))))) (e_val (o_callI 0 G__law_draw (hr.mono (by decide : 1 ≤ 5)) (takes_of rfl rfl rfl rfl) (a_cons e_int a_nil) (fun r ds r' h => congrArg Nat.succ ((aCons_len aNil_len) r ds r' h))))) sc__law_great_right.nd)
  (ss_cons (s_if (t_cmp (ne_data hr.units) (e_op mod_data (e_ix ix_data (e_var 1) (e_var 5)) (e_var 7)) e_int)
  (ss_one (s_set (i := 7) (e_ix ix_data (e_var 1) (e_var 5)) sc__law_great_right.nd))
  ss_nil)
  (ss_cons (s_append 3 (e_op add_data (e_op add_data (e_op mul_data (e_tup (a_cons e_int a_nil)) (e_var 5)) (e_tup (a_cons (e_var 7) a_nil))) (e_op mul_data (e_tup (a_cons e_int a_nil)) (e_op sub_data (e_op sub_data (e_var 2) (e_var 5)) e_int))))
  (ss_one (s_set (i := 4) (e_op mul_data (e_var 4) (e_op (fdivL_data hr NS) (e_ix ix_data (e_var 1) (e_var 5)) (e_var 7))) sc__law_great_right.nd)))))) (passes_of rfl))
  (ss_cons (s_if (t_cmp (ne_data hr.units) (e_callB (repr_data hr) B.b_repr (a_cons (e_val (o_call G_part_size (hr.mono (by decide : 2 ≤ 5)) (takes_of rfl rfl rfl rfl) (a_cons (e_var 1) (a_cons (e_tupS 3 B.b_tuple) a_nil)) (hnm := (aCons_len (aCons_len aNil_len))))) a_nil)) (e_callB (repr_data hr) B.b_repr (a_cons (e_var 4) a_nil)))
  (ss_one (s_ret (o_val e_bl)))
  ss_nil)
  (ss_one (s_frz 3 (s_ret (o_val (e_or (e_cmp le_data (e_var 4) e_int) (e_one (e_cmp (eq_data hr.units) (e_val (o_lam2 G__law_heard B.xt (hr.mono (by decide : 5 ≤ 5)) LA hcd (LamX.lamS_by (show LamX.lamSB (defScope s__law_great_right) _ = true from by decide +kernel)) (fun E_ A_ ou_ s_ H_ f_ c_ hr => (e_val (o_call G_things_in (hr.mono (by decide : 3 ≤ 3)) (takes_of rfl rfl rfl rfl) (a_cons (e_var 1) (a_cons (e_callT tup_data B.b_tuple (a_cons (e_var 3) a_nil)) a_nil)) (hnm := (aCons_len (aCons_len aNil_len)))))))) e_str)))))))))))))
abbrev s__law_small_right : Stmt := topS 32
abbrev N__law_small_right : List Str := ["_law_pen_here", "_law_house_here", "_law_some", "_law_inside", "_law_j"]
theorem sc__law_small_right : FnScope N__law_small_right ["_law_pen_here"] (defScope s__law_small_right) := ⟨rfl, rfl, rfl, by decide +kernel, rfl, by decide +kernel, by decide +kernel⟩
noncomputable def b__law_small_right : M Fl := (sSeq (sSet 1 (frzM (cCallI 0 m__law_small (aCons (M.ret (.int 60)) aNil))))
  (sSeq (sSet 2 (frzM (oComp (iBy rng1 (aCons (frzM (cCallI 0 m__law_draw (aCons (M.ret (.int 5)) aNil))) aNil)) [4] (gN 4) yes (frzM (cCallI 0 m__law_thing (aCons (getS 1) aNil))))))
  (sSeq (sSet 3 (frzM (cCall m__law_closure (aCons (getS 1) (aCons (getS 2) aNil)))))
  (sRet (cCall m__law_told (aCons (getS 1) (aCons (frzM (cCall m__law_rows (aCons (getS 1) (aCons (getS 3) aNil)))) (aCons (getS 3) aNil))))))))
noncomputable def m__law_small_right : List Sl → Re RV := fnOf 5 b__law_small_right
theorem ok__law_small_right {f : Addr} {fd : FuncData} (Fu : FnP K "_law_small_right" s__law_small_right f fd) (B : Bz K w mg) (NS : SeerK P base) (G__law_small : Fn P w K mg base 2 "_law_small" 2 m__law_small) (G__law_draw : Fn P w K mg base 1 "_law_draw" 2 m__law_draw) (G__law_thing : Fn P w K mg base 2 "_law_thing" 2 m__law_thing) (G__law_closure : Fn P w K mg base 1 "_law_closure" 2 m__law_closure) (G__law_told : Fn P w K mg base 6 "_law_told" 3 m__law_told) (G__law_rows : Fn P w K mg base 2 "_law_rows" 2 m__law_rows) : FnG P w K mg base 7 f fd ["_law_pen_here"] (spG K mg 1 m__law_small_right) :=
  mk_fn Fu sc__law_small_right fun cdv A outer s H E hr =>
  (ss_cons (s_set (i := 1) (e_val (o_callI 0 G__law_small (hr.mono (by decide : 2 ≤ 6)) (takes_of rfl rfl rfl rfl) (a_cons e_int a_nil) (fun r ds r' h => congrArg Nat.succ ((aCons_len aNil_len) r ds r' h)))) sc__law_small_right.nd)
  (ss_cons (s_setLcV (i := 2) (own := [("_law_j", 4)]) (i_rng1 (a_cons (e_val (o_callI 0 G__law_draw (hr.mono (by decide : 1 ≤ 6)) (takes_of rfl rfl rfl rfl) (a_cons e_int a_nil) (fun r ds r' h => congrArg Nat.succ ((aCons_len aNil_len) r ds r' h)))) a_nil) B.b_range) (blkOk_by (show blkC N__law_small_right (defScope s__law_small_right) _ [("_law_j", 4)] = true from by decide +kernel)) (fun _ _ _ _ _ => (g_name 4 sc__law_small_right.nd)) (fun _ _ _ _ _ => ts_nil) (fun _ _ _ _ _ => (e_val (o_callI 0 G__law_thing (hr.mono (by decide : 2 ≤ 6)) takes0 (a_cons (e_var 1) a_nil) (fun r ds r' h => congrArg Nat.succ ((aCons_len aNil_len) r ds r' h))))) sc__law_small_right.nd)
  (ss_cons (s_set (i := 3) (e_val (o_call G__law_closure (hr.mono (by decide : 1 ≤ 6)) (takes_of rfl rfl rfl rfl) (a_cons (e_var 1) (a_cons (e_var 2) a_nil)) (hnm := (aCons_len (aCons_len aNil_len))))) sc__law_small_right.nd)
  (ss_one (s_ret (o_call G__law_told (hr.mono (by decide : 6 ≤ 6)) (takes_of rfl rfl rfl rfl) (a_cons (e_var 1) (a_cons (e_val (o_call G__law_rows (hr.mono (by decide : 2 ≤ 6)) (takes_of rfl rfl rfl rfl) (a_cons (e_var 1) (a_cons (e_var 3) a_nil)) (hnm := (aCons_len (aCons_len aNil_len))))) (a_cons (e_var 3) a_nil))) (hnm := (aCons_len (aCons_len (aCons_len aNil_len))))))))))
abbrev s__law_edge_right : Stmt := topS 33
abbrev N__law_edge_right : List Str := ["_law_pen_here", "_law_far", "_law_many", "_law_foot", "_law_house_here", "_law_half", "_law_due", "_law_k"]
theorem sc__law_edge_right : FnScope N__law_edge_right ["_law_pen_here"] (defScope s__law_edge_right) := ⟨rfl, rfl, rfl, by decide +kernel, rfl, by decide +kernel, by decide +kernel⟩
noncomputable def b__law_edge_right : M Fl := (sSeq (sSet 1 (bin addD (M.ret (.int 396)) (frzM (cCallI 0 m__law_draw (aCons (M.ret (.int 10)) aNil)))))
  (sSeq (sSet 2 (bin ixD (frzM (oLst (aCons (getS 1) (aCons (getS 1) (aCons (M.ret (.int 400)) (aCons (M.ret (.int 401)) (aCons (bin addD (M.ret (.int 1)) (frzM (cCallI 0 m__law_draw (aCons (M.ret (.int 20)) aNil)))) (aCons (M.ret (.int 402)) aNil)))))))) (frzM (cCallI 0 m__law_draw (aCons (M.ret (.int 6)) aNil)))))
  (sSeq (sSet 3 (bin addD (M.ret (.int 1)) (frzM (cCallI 0 m__law_draw (aCons (M.ret (.int 2400)) aNil)))))
  (sSeq (sIf (tBool (bin eqD (frzM (cCallI 0 m__law_draw (aCons (M.ret (.int 2)) aNil))) (M.ret (.int 0))))
  (sRet (cCall m__law_told (aCons (eTup (aCons (bin mulD (getS 2) (getS 3)) aNil)) (aCons (eTup (aCons (eTup (aCons (getS 3) aNil)) aNil)) (aCons (frzM (oComp (iBy rng1 (aCons (getS 2) aNil)) [7] (gN 7) yes (eTup (aCons (bin mulD (getS 7) (getS 3)) aNil)))) aNil)))))
  sNil)
  (sSeq (sSet 2 (bin fdivLD (bin addD (getS 2) (M.ret (.int 1))) (M.ret (.int 2))))
  (sSeq (sSet 4 (eTup (aCons (M.ret (.int 2)) (aCons (bin mulD (getS 2) (getS 3)) aNil))))
  (sSeq (sSet 5 (bin mulD (bin fdivLD (getS 3) (M.ret (.int 2))) (nry (one intD) (aCons (bin eqD (bin modD (getS 3) (M.ret (.int 2))) (M.ret (.int 0))) aNil))))
  (sSeq (sSet 6 (bin addD (frzM (oComp (iBy rng1 (aCons (getS 2) aNil)) [7] (gN 7) yes (eTup (aCons (M.ret (.int 0)) (aCons (bin mulD (getS 7) (getS 3)) aNil))))) (frzM (oComp (iBy rng1 (aCons (getS 2) aNil)) [7] (gN 7) yes (eTup (aCons (M.ret (.int 1)) (aCons (bin addD (getS 5) (bin mulD (getS 7) (getS 3))) aNil)))))))
  (sRet (cCall m__law_told (aCons (getS 4) (aCons (eTup (aCons (eTup (aCons (M.ret (.int 1)) (aCons (getS 5) aNil))) (aCons (eTup (aCons (M.ret (.int 0)) (aCons (getS 3) aNil))) aNil))) (aCons (getS 6) aNil)))))))))))))
noncomputable def m__law_edge_right : List Sl → Re RV := fnOf 8 b__law_edge_right
theorem ok__law_edge_right {f : Addr} {fd : FuncData} (Fu : FnP K "_law_edge_right" s__law_edge_right f fd) (B : Bz K w mg) (NS : SeerK P base) (G__law_draw : Fn P w K mg base 1 "_law_draw" 2 m__law_draw) (G__law_told : Fn P w K mg base 6 "_law_told" 3 m__law_told) : FnG P w K mg base 7 f fd ["_law_pen_here"] (spG K mg 1 m__law_edge_right) :=
  mk_fn Fu sc__law_edge_right fun cdv A outer s H E hr =>
  (ss_cons (s_set (i := 1) (e_op add_data e_int (e_val (o_callI 0 G__law_draw (hr.mono (by decide : 1 ≤ 6)) (takes_of rfl rfl rfl rfl) (a_cons e_int a_nil) (fun r ds r' h => congrArg Nat.succ ((aCons_len aNil_len) r ds r' h))))) sc__law_edge_right.nd)
  (ss_cons (s_set (i := 2) (e_ix ix_data (e_val (o_lst (a_cons (e_var 1) (a_cons (e_var 1) (a_cons e_int (a_cons e_int (a_cons (e_op add_data e_int (e_val (o_callI 0 G__law_draw (hr.mono (by decide : 1 ≤ 6)) (takes_of rfl rfl rfl rfl) (a_cons e_int a_nil) (fun r ds r' h => congrArg Nat.succ ((aCons_len aNil_len) r ds r' h))))) (a_cons e_int a_nil)))))))) (e_val (o_callI 0 G__law_draw (hr.mono (by decide : 1 ≤ 6)) (takes_of rfl rfl rfl rfl) (a_cons e_int a_nil) (fun r ds r' h => congrArg Nat.succ ((aCons_len aNil_len) r ds r' h))))) sc__law_edge_right.nd)
  (ss_cons (s_set (i := 3) (e_op add_data e_int (e_val (o_callI 0 G__law_draw (hr.mono (by decide : 1 ≤ 6)) (takes_of rfl rfl rfl rfl) (a_cons e_int a_nil) (fun r ds r' h => congrArg Nat.succ ((aCons_len aNil_len) r ds r' h))))) sc__law_edge_right.nd)
  (ss_cons (s_if (t_cmp (eq_data hr.units) (e_val (o_callI 0 G__law_draw (hr.mono (by decide : 1 ≤ 6)) (takes_of rfl rfl rfl rfl) (a_cons e_int a_nil) (fun r ds r' h => congrArg Nat.succ ((aCons_len aNil_len) r ds r' h)))) e_int)
  (ss_one (s_ret (o_call G__law_told (hr.mono (by decide : 6 ≤ 6)) (takes_of rfl rfl rfl rfl) (a_cons (e_tup (a_cons (e_op mul_data (e_var 2) (e_var 3)) a_nil)) (a_cons (e_tup (a_cons (e_tup (a_cons (e_var 3) a_nil)) a_nil)) (a_cons (e_val (o_lc (own := [("_law_k", 7)]) (i_rng1 (a_cons (e_var 2) a_nil) B.b_range) (blkOk_by (show blkC N__law_edge_right (defScope s__law_edge_right) _ [("_law_k", 7)] = true from by decide +kernel)) (fun _ _ _ _ _ => (g_name 7 sc__law_edge_right.nd)) (fun _ _ _ _ _ => ts_nil) (fun _ _ _ _ _ => (e_tup (a_cons (e_op mul_data (e_var 7) (e_var 3)) a_nil))) sc__law_edge_right.nd)) a_nil))) (hnm := (aCons_len (aCons_len (aCons_len aNil_len)))))))
  ss_nil)
  (ss_cons (s_set (i := 2) (e_op (fdivL_data hr NS) (e_op add_data (e_var 2) e_int) e_int) sc__law_edge_right.nd)
  (ss_cons (s_set (i := 4) (e_tup (a_cons e_int (a_cons (e_op mul_data (e_var 2) (e_var 3)) a_nil))) sc__law_edge_right.nd)
  (ss_cons (s_set (i := 5) (e_op mul_data (e_op (fdivL_data hr NS) (e_var 3) e_int) (e_callT int_data B.b_int (a_cons (e_cmp (eq_data hr.units) (e_op mod_data (e_var 3) e_int) e_int) a_nil))) sc__law_edge_right.nd)
  (ss_cons (s_set (i := 6) (e_op add_data (e_val (o_lc (own := [("_law_k", 7)]) (i_rng1 (a_cons (e_var 2) a_nil) B.b_range) (blkOk_by (show blkC N__law_edge_right (defScope s__law_edge_right) _ [("_law_k", 7)] = true from by decide +kernel)) (fun _ _ _ _ _ => (g_name 7 sc__law_edge_right.nd)) (fun _ _ _ _ _ => ts_nil) (fun _ _ _ _ _ => (e_tup (a_cons e_int (a_cons (e_op mul_data (e_var 7) (e_var 3)) a_nil)))) sc__law_edge_right.nd)) (e_val (o_lc (own := [("_law_k", 7)]) (i_rng1 (a_cons (e_var 2) a_nil) B.b_range) (blkOk_by (show blkC N__law_edge_right (defScope s__law_edge_right) _ [("_law_k", 7)] = true from by decide +kernel)) (fun _ _ _ _ _ => (g_name 7 sc__law_edge_right.nd)) (fun _ _ _ _ _ => ts_nil) (fun _ _ _ _ _ => (e_tup (a_cons e_int (a_cons (e_op add_data (e_var 5) (e_op mul_data (e_var 7) (e_var 3))) a_nil)))) sc__law_edge_right.nd))) sc__law_edge_right.nd)
  (ss_one (s_ret (o_call G__law_told (hr.mono (by decide : 6 ≤ 6)) (takes_of rfl rfl rfl rfl) (a_cons (e_var 4) (a_cons (e_tup (a_cons (e_tup (a_cons e_int (a_cons (e_var 5) a_nil))) (a_cons (e_tup (a_cons e_int (a_cons (e_var 3) a_nil))) a_nil))) (a_cons (e_var 6) a_nil))) (hnm := (aCons_len (aCons_len (aCons_len aNil_len)))))))))))))))
abbrev s__law_many_rounds_right : Stmt := topS 35
abbrev N__law_many_rounds_right : List Str := ["_law_pen_here", "_law_house_here", "_law_inside"]
theorem sc__law_many_rounds_right : FnScope N__law_many_rounds_right ["_law_pen_here"] (defScope s__law_many_rounds_right) := ⟨rfl, rfl, rfl, by decide +kernel, rfl, by decide +kernel, by decide +kernel⟩
noncomputable def b__law_many_rounds_right : M Fl := (sSeq (sSet 1 (frzM (cCallI 0 m__law_house aNil)))
  (sSeq (sSet 2 (frzM (cCall m__law_closure (aCons (getS 1) (aCons (frzM (oLst (aCons (frzM (cCallI 0 m__law_turning (aCons (getS 1) aNil))) (aCons (frzM (cCallI 0 m__law_turning (aCons (getS 1) aNil))) aNil)))) aNil)))))
  (sRet (cCall m__law_told (aCons (getS 1) (aCons (frzM (cCall m__law_rows (aCons (getS 1) (aCons (getS 2) aNil)))) (aCons (getS 2) aNil)))))))
noncomputable def m__law_many_rounds_right : List Sl → Re RV := fnOf 3 b__law_many_rounds_right
theorem ok__law_many_rounds_right {f : Addr} {fd : FuncData} (Fu : FnP K "_law_many_rounds_right" s__law_many_rounds_right f fd) (B : Bz K w mg) (NS : SeerK P base) (G__law_house : Fn P w K mg base 3 "_law_house" 1 m__law_house) (G__law_closure : Fn P w K mg base 1 "_law_closure" 2 m__law_closure) (G__law_turning : Fn P w K mg base 2 "_law_turning" 2 m__law_turning) (G__law_told : Fn P w K mg base 6 "_law_told" 3 m__law_told) (G__law_rows : Fn P w K mg base 2 "_law_rows" 2 m__law_rows) : FnG P w K mg base 7 f fd ["_law_pen_here"] (spG K mg 1 m__law_many_rounds_right) :=
  mk_fn Fu sc__law_many_rounds_right fun cdv A outer s H E hr =>
  (ss_cons (s_set (i := 1) (e_val (o_callI 0 G__law_house (hr.mono (by decide : 3 ≤ 6)) (takes_of rfl rfl rfl rfl) a_nil (fun r ds r' h => congrArg Nat.succ (aNil_len r ds r' h)))) sc__law_many_rounds_right.nd)
  (ss_cons (s_set (i := 2) (e_val (o_call G__law_closure (hr.mono (by decide : 1 ≤ 6)) (takes_of rfl rfl rfl rfl) (a_cons (e_var 1) (a_cons (e_val (o_lst (a_cons (e_val (o_callI 0 G__law_turning (hr.mono (by decide : 2 ≤ 6)) (takes_of rfl rfl rfl rfl) (a_cons (e_var 1) a_nil) (fun r ds r' h => congrArg Nat.succ ((aCons_len aNil_len) r ds r' h)))) (a_cons (e_val (o_callI 0 G__law_turning (hr.mono (by decide : 2 ≤ 6)) (takes_of rfl rfl rfl rfl) (a_cons (e_var 1) a_nil) (fun r ds r' h => congrArg Nat.succ ((aCons_len aNil_len) r ds r' h)))) a_nil)))) a_nil)) (hnm := (aCons_len (aCons_len aNil_len))))) sc__law_many_rounds_right.nd)
  (ss_one (s_ret (o_call G__law_told (hr.mono (by decide : 6 ≤ 6)) (takes_of rfl rfl rfl rfl) (a_cons (e_var 1) (a_cons (e_val (o_call G__law_rows (hr.mono (by decide : 2 ≤ 6)) (takes_of rfl rfl rfl rfl) (a_cons (e_var 1) (a_cons (e_var 2) a_nil)) (hnm := (aCons_len (aCons_len aNil_len))))) (a_cons (e_var 2) a_nil))) (hnm := (aCons_len (aCons_len (aCons_len aNil_len)))))))))
abbrev s_law : Stmt := topS 37
abbrev N_law : List Str := ["_law_script", "_law_pen_here", "_law_k"]
theorem sc_law : FnScope N_law ["_law_script"] (defScope s_law) := ⟨rfl, rfl, rfl, by decide +kernel, rfl, by decide +kernel, by decide +kernel⟩
noncomputable def b_law : M Fl := (sSeq (sSetO 1 (cCall m__law_pen (aCons (getS 0) aNil)))
  (sSeq (sFor (iBy rng1 (aCons (M.ret (.int 2)) aNil)) (gN 2)
  (sSeq (sIf (tOrM (tNotM (tTru (frzM (cCallI 1 m__law_small_right aNil)))) (tOrM (tNotM (tTru (frzM (cCallI 1 m__law_edge_right aNil)))) (tNotM (tTru (frzM (cCallI 1 m__law_great_right aNil))))))
  (sRet ((M.ret (.bool false)).bind fun d => M.ret (.v d)))
  sNil)
  (sIf (tNotM (tTru (frzM (cCallI 1 m__law_many_rounds_right aNil))))
  (sRet ((M.ret (.bool false)).bind fun d => M.ret (.v d)))
  sNil)))
  (sRet ((eAnd (bin eqD (frzM (cCall m_part_size (aCons (eTup aNil) (aCons (eTup aNil) aNil)))) (M.ret (.int 1))) (bin eqD (frzM (cCall m_things_in (aCons (eTup aNil) (aCons (eTup aNil) aNil)))) (frzM (oLst (aCons (eTup aNil) aNil))))).bind fun d => M.ret (.v d)))))
noncomputable def m_law : List Sl → Re RV := fnOf 3 b_law
theorem ok_law {f : Addr} {fd : FuncData} (Fu : FnP K "law" s_law f fd) (B : Bz K w mg) (NS : SeerK P base) (G__law_pen : Fn P w K mg base 1 "_law_pen" 1 m__law_pen) (G__law_small_right : Fn P w K mg base 7 "_law_small_right" 1 m__law_small_right) (G__law_edge_right : Fn P w K mg base 7 "_law_edge_right" 1 m__law_edge_right) (G__law_great_right : Fn P w K mg base 6 "_law_great_right" 1 m__law_great_right) (G__law_many_rounds_right : Fn P w K mg base 7 "_law_many_rounds_right" 1 m__law_many_rounds_right) (G_part_size : Fn P w K mg base 2 "part_size" 2 m_part_size) (G_things_in : Fn P w K mg base 3 "things_in" 2 m_things_in) : FnG P w K mg base 8 f fd ["_law_script"] (spG K mg 1 m_law) :=
  mk_fn Fu sc_law fun cdv A outer s H E hr =>
  (ss_cons (s_setO (i := 1) (o_call G__law_pen (hr.mono (by decide : 1 ≤ 7)) (takes_of rfl rfl rfl rfl) (a_cons (e_var 0) a_nil) (hnm := (aCons_len aNil_len))) sc_law.nd)
  (ss_cons (s_for (i_rng1 (a_cons e_int a_nil) B.b_range) (g_name 2 sc_law.nd)
  (ss_cons (s_if (PW.pt (w_or (t_not (t_tru (e_val (o_callI 1 G__law_small_right (hr.mono (by decide : 7 ≤ 7)) (takes_of rfl rfl rfl rfl) a_nil (fun r ds r' h => congrArg Nat.succ (aNil_len r ds r' h)))))) (w_or (t_not (t_tru (e_val (o_callI 1 G__law_edge_right (hr.mono (by decide : 7 ≤ 7)) (takes_of rfl rfl rfl rfl) a_nil (fun r ds r' h => congrArg Nat.succ (aNil_len r ds r' h)))))) (w_or1 (t_not (t_tru (e_val (o_callI 1 G__law_great_right (hr.mono (by decide : 6 ≤ 7)) (takes_of rfl rfl rfl rfl) a_nil (fun r ds r' h => congrArg Nat.succ (aNil_len r ds r' h))))))))))
  (ss_one (s_ret (o_val e_bl)))
  ss_nil)
  (ss_one (s_if (t_not (t_tru (e_val (o_callI 1 G__law_many_rounds_right (hr.mono (by decide : 7 ≤ 7)) (takes_of rfl rfl rfl rfl) a_nil (fun r ds r' h => congrArg Nat.succ (aNil_len r ds r' h))))))
  (ss_one (s_ret (o_val e_bl)))
  ss_nil))) (passes_of rfl))
  (ss_one (s_ret (o_val (e_and (e_cmp (eq_data hr.units) (e_val (o_call G_part_size (hr.mono (by decide : 2 ≤ 7)) (takes_of rfl rfl rfl rfl) (a_cons (e_tup a_nil) (a_cons (e_tup a_nil) a_nil)) (hnm := (aCons_len (aCons_len aNil_len))))) e_int) (e_one (e_cmp (eq_data hr.units) (e_val (o_call G_things_in (hr.mono (by decide : 3 ≤ 7)) (takes_of rfl rfl rfl rfl) (a_cons (e_tup a_nil) (a_cons (e_tup a_nil) a_nil)) (hnm := (aCons_len (aCons_len aNil_len))))) (e_val (o_lst (a_cons (e_tup a_nil) a_nil)))))))))))
end
/-! ### the head -/
def d_by_rounds : He.DefD := ⟨("by_rounds", none), "by_rounds", "by_rounds", defArgs s_by_rounds, defBody s_by_rounds, defScope s_by_rounds, [], []⟩
def d_nought : He.DefD := ⟨("nought", none), "nought", "nought", defArgs s_nought, defBody s_nought, defScope s_nought, [], []⟩
def d_size : He.DefD := ⟨("size", none), "size", "size", defArgs s_size, defBody s_size, defScope s_size, [], []⟩
def d__law_pen : He.DefD := ⟨("_law_pen", none), "_law_pen", "_law_pen", defArgs s__law_pen, defBody s__law_pen, defScope s__law_pen, [], []⟩
def d__law_draw : He.DefD := ⟨("_law_draw", none), "_law_draw", "_law_draw", defArgs s__law_draw, defBody s__law_draw, defScope s__law_draw, [], []⟩
def d__law_closure : He.DefD := ⟨("_law_closure", none), "_law_closure", "_law_closure", defArgs s__law_closure, defBody s__law_closure, defScope s__law_closure, [], []⟩
def d__law_fits : He.DefD := ⟨("_law_fits", none), "_law_fits", "_law_fits", defArgs s__law_fits, defBody s__law_fits, defScope s__law_fits, [], []⟩
def d__law_word : He.DefD := ⟨("_law_word", none), "_law_word", "_law_word", defArgs s__law_word, defBody s__law_word, defScope s__law_word, [], []⟩
def d_part_size : He.DefD := ⟨("part_size", none), "part_size", "part_size", defArgs s_part_size, defBody s_part_size, defScope s_part_size, [], []⟩
def d__law_small : He.DefD := ⟨("_law_small", none), "_law_small", "_law_small", defArgs s__law_small, defBody s__law_small, defScope s__law_small, [], []⟩
def d__law_thing : He.DefD := ⟨("_law_thing", none), "_law_thing", "_law_thing", defArgs s__law_thing, defBody s__law_thing, defScope s__law_thing, [], []⟩
def d__law_rows : He.DefD := ⟨("_law_rows", none), "_law_rows", "_law_rows", defArgs s__law_rows, defBody s__law_rows, defScope s__law_rows, [], []⟩
def d__law_round : He.DefD := ⟨("_law_round", none), "_law_round", "_law_round", defArgs s__law_round, defBody s__law_round, defScope s__law_round, [], []⟩
def d__law_turning : He.DefD := ⟨("_law_turning", none), "_law_turning", "_law_turning", defArgs s__law_turning, defBody s__law_turning, defScope s__law_turning, [], []⟩
def d_things_in : He.DefD := ⟨("things_in", none), "things_in", "things_in", defArgs s_things_in, defBody s_things_in, defScope s_things_in, [], []⟩
def d__law_house : He.DefD := ⟨("_law_house", none), "_law_house", "_law_house", defArgs s__law_house, defBody s__law_house, defScope s__law_house, [], []⟩
def d__law_heard : He.DefD := ⟨("_law_heard", none), "_law_heard", "_law_heard", defArgs s__law_heard, defBody s__law_heard, defScope s__law_heard, [], []⟩
def d__law_told : He.DefD := ⟨("_law_told", none), "_law_told", "_law_told", defArgs s__law_told, defBody s__law_told, defScope s__law_told, [], []⟩
def d__law_great_right : He.DefD := ⟨("_law_great_right", none), "_law_great_right", "_law_great_right", defArgs s__law_great_right, defBody s__law_great_right, defScope s__law_great_right, [], []⟩
def d__law_small_right : He.DefD := ⟨("_law_small_right", none), "_law_small_right", "_law_small_right", defArgs s__law_small_right, defBody s__law_small_right, defScope s__law_small_right, [], []⟩
def d__law_edge_right : He.DefD := ⟨("_law_edge_right", none), "_law_edge_right", "_law_edge_right", defArgs s__law_edge_right, defBody s__law_edge_right, defScope s__law_edge_right, [], []⟩
def d__law_many_rounds_right : He.DefD := ⟨("_law_many_rounds_right", none), "_law_many_rounds_right", "_law_many_rounds_right", defArgs s__law_many_rounds_right, defBody s__law_many_rounds_right, defScope s__law_many_rounds_right, [], []⟩
def d_law : He.DefD := ⟨("law", none), "law", "law", defArgs s_law, defBody s_law, defScope s_law, [], []⟩
def fn : List He.DefD := [d_by_rounds, d_nought, d_size, d__law_pen, d__law_draw, d__law_closure, d__law_fits, d__law_word, d_part_size, d__law_small, d__law_thing, d__law_rows, d__law_round, d__law_turning, d_things_in, d__law_house, d__law_heard, d__law_told, d__law_great_right, d__law_small_right, d__law_edge_right, d__law_many_rounds_right, d_law]
def fa : List He.Fa := [.glo "by_rounds", .glo "nought", .glo "size", .glo "_law_pen", .glo "_law_draw", .glo "_law_closure", .glo "_law_fits", .glo "_law_word", .glo "part_size", .glo "_law_small", .glo "_law_thing", .glo "_law_rows", .glo "_law_round", .glo "_law_turning", .glo "things_in", .glo "_law_house", .glo "_law_heard", .glo "_law_told", .glo "_law_great_right", .glo "_law_small_right", .glo "_law_edge_right", .glo "_law_many_rounds_right", .glo "law", .free "enumerate", .free "tuple", .free "len", .free "abs", .free "range", .free "sorted", .free "sum", .free "isinstance", .free "ValueError", .free "min", .free "int", .free "repr", .int "MOST_THINGS" 400, .glo "HouseError", .glo "NoThing", .glo "TooGreat", .glo "Endless", .glo "NoPaper", .glo "NoFit", .glo "NoTable", .glo "NoText", .glo "NoName", .glo "NoRow", .exc "TooGreat"]
def tbs : Tbs := []
abbrev R : PySem.W.OpenRow := PySem.W.OpenLaw.row PySem.Challenge.rw_commonhouse_k45_sizes_and_things
abbrev hk : PySem.W.Hook := hookL 5 fa fn (xtB xn xy) ln
def ob (s : PySem.W.SharedT) : AlB := obsLG 5 fa fn (xtB xn xy) ln (HandSHeadRun.getT s)
theorem ob_eq (s : PySem.W.SharedT) : ob s = hk.obs s.abs := obsLG_eq (HandSHeadRun.getT_eq s)
abbrev lo0 : List Str := ["by_rounds", "nought", "size", "part_size", "things_in", "_law_pen", "_law_draw", "_law_small", "_law_thing", "_law_closure", "_law_fits", "_law_rows", "_law_round", "_law_house", "_law_word", "_law_heard", "_law_told", "_law_small_right", "_law_edge_right", "_law_turning", "_law_many_rounds_right", "_law_great_right", "MOST_THINGS", "HouseError", "NoThing", "TooGreat", "Endless", "NoPaper", "NoFit", "NoTable"]
abbrev lo1 : List Str := ["NoText", "NoName", "NoRow"]
abbrev lo : List Str := lo0 ++ lo1
theorem run (w : World) : HandSHeadRun.RunEq R (PySem.W.view R.prog [37]) hk ob 24800 lo w := by
  intro os
  kernel_rfl
theorem facts {P : Program} {w : World} {K : PySem.W.Frag} {h : Heap} {mg : Str → Option Value} {f : Addr} (X : K.In h) (G : h.Ns mainGlobals mg) (hfa : mg ("law" : Str) = some (.ref f)) (hP : P.given.tree = none) (c0 : SaysB fa fn (xtB xn xy) K) (l : LamOk ln K h) :
    ∃ fd : FuncData, (∀ (s : Shared) (v : Value), BindsTo s fd ⟨[v], []⟩ [("_law_script", v)]) ∧ ∀ base : Heap, K.In base → base.Ns mainGlobals mg → base.NoSeer → (∀ p ∈ csN ln K, LamX.TabB base mg p.1 p.2) → FnG P w K mg base 8 f fd ["_law_script"] (spG K mg 1 m_law) := by
  have c := c0.1
  obtain ⟨fd_by_rounds, F_by_rounds⟩ := c.def_ 0 (d := d_by_rounds) rfl
  obtain ⟨fd_nought, F_nought⟩ := c.def_ 1 (d := d_nought) rfl
  obtain ⟨fd_size, F_size⟩ := c.def_ 2 (d := d_size) rfl
  obtain ⟨fd__law_pen, F__law_pen⟩ := c.def_ 3 (d := d__law_pen) rfl
  obtain ⟨fd__law_draw, F__law_draw⟩ := c.def_ 4 (d := d__law_draw) rfl
  obtain ⟨fd__law_closure, F__law_closure⟩ := c.def_ 5 (d := d__law_closure) rfl
  obtain ⟨fd__law_fits, F__law_fits⟩ := c.def_ 6 (d := d__law_fits) rfl
  obtain ⟨fd__law_word, F__law_word⟩ := c.def_ 7 (d := d__law_word) rfl
  obtain ⟨fd_part_size, F_part_size⟩ := c.def_ 8 (d := d_part_size) rfl
  obtain ⟨fd__law_small, F__law_small⟩ := c.def_ 9 (d := d__law_small) rfl
  obtain ⟨fd__law_thing, F__law_thing⟩ := c.def_ 10 (d := d__law_thing) rfl
  obtain ⟨fd__law_rows, F__law_rows⟩ := c.def_ 11 (d := d__law_rows) rfl
  obtain ⟨fd__law_round, F__law_round⟩ := c.def_ 12 (d := d__law_round) rfl
  obtain ⟨fd__law_turning, F__law_turning⟩ := c.def_ 13 (d := d__law_turning) rfl
  obtain ⟨fd_things_in, F_things_in⟩ := c.def_ 14 (d := d_things_in) rfl
  obtain ⟨fd__law_house, F__law_house⟩ := c.def_ 15 (d := d__law_house) rfl
  obtain ⟨fd__law_heard, F__law_heard⟩ := c.def_ 16 (d := d__law_heard) rfl
  obtain ⟨fd__law_told, F__law_told⟩ := c.def_ 17 (d := d__law_told) rfl
  obtain ⟨fd__law_great_right, F__law_great_right⟩ := c.def_ 18 (d := d__law_great_right) rfl
  obtain ⟨fd__law_small_right, F__law_small_right⟩ := c.def_ 19 (d := d__law_small_right) rfl
  obtain ⟨fd__law_edge_right, F__law_edge_right⟩ := c.def_ 20 (d := d__law_edge_right) rfl
  obtain ⟨fd__law_many_rounds_right, F__law_many_rounds_right⟩ := c.def_ 21 (d := d__law_many_rounds_right) rfl
  obtain ⟨fd_law, F_law⟩ := c.def_ 22 (d := d_law) rfl
  have e := hfa.symm.trans (He.glo_ok X G (c.fact 22 (f := .glo "law") rfl))
  cases e
  have b := FunD.bindsA (ps := ["_law_script"]) F_law fun _ _ _ _ _ _ us hl => match us, hl with | [_], _ => rfl
  have ex_TooGreat := He.exc_ok (c.fact 46 (f := .exc "TooGreat") rfl)
  have gg : ∀ y ∈ houseE :: xy, mg y = some (.ref (He.ga K y)) := by
    intro y hy
    simp only [List.mem_cons, List.not_mem_nil, or_false] at hy
    rcases hy with rfl | rfl | rfl | rfl | rfl | rfl | rfl | rfl | rfl | rfl
    · exact He.glo_ok X G (c.fact 36 (f := .glo "HouseError") rfl)
    · exact He.glo_ok X G (c.fact 37 (f := .glo "NoThing") rfl)
    · exact He.glo_ok X G (c.fact 38 (f := .glo "TooGreat") rfl)
    · exact He.glo_ok X G (c.fact 39 (f := .glo "Endless") rfl)
    · exact He.glo_ok X G (c.fact 40 (f := .glo "NoPaper") rfl)
    · exact He.glo_ok X G (c.fact 41 (f := .glo "NoFit") rfl)
    · exact He.glo_ok X G (c.fact 42 (f := .glo "NoTable") rfl)
    · exact He.glo_ok X G (c.fact 43 (f := .glo "NoText") rfl)
    · exact He.glo_ok X G (c.fact 44 (f := .glo "NoName") rfl)
    · exact He.glo_ok X G (c.fact 45 (f := .glo "NoRow") rfl)
  have B : Bz K w mg := ⟨He.free_ok X G (c.fact 23 (f := .free "enumerate") rfl), He.free_ok X G (c.fact 24 (f := .free "tuple") rfl), He.free_ok X G (c.fact 25 (f := .free "len") rfl), He.free_ok X G (c.fact 26 (f := .free "abs") rfl), He.free_ok X G (c.fact 27 (f := .free "range") rfl), He.free_ok X G (c.fact 28 (f := .free "sorted") rfl), He.free_ok X G (c.fact 29 (f := .free "sum") rfl), He.free_ok X G (c.fact 30 (f := .free "isinstance") rfl), He.free_ok X G (c.fact 31 (f := .free "ValueError") rfl), He.free_ok X G (c.fact 32 (f := .free "min") rfl), He.free_ok X G (c.fact 33 (f := .free "int") rfl), He.free_ok X G (c.fact 34 (f := .free "repr") rfl), He.int_ok X G (c.fact 35 (f := .int "MOST_THINGS" 400) rfl), ⟨He.glo_ok X G (c.fact 38 (f := .glo "TooGreat") rfl), ex_TooGreat.1, ex_TooGreat.2.1, ex_TooGreat.2.2.1, ex_TooGreat.2.2.2⟩, xtB_ok c0.2 gg⟩
  refine ⟨fd_law, fun s v => b s [v] rfl, fun base _ _ sr TB => ?_⟩
  have NS : SeerK P base := ⟨hP, sr⟩
  have G_by_rounds : Fn P w K mg base 1 "by_rounds" 2 m_by_rounds := ⟨⟨_, fd_by_rounds, ["house", "numbers"], He.glo_ok X G (c.fact 0 (f := .glo "by_rounds") rfl), F_by_rounds.kp, F_by_rounds.bindsN (fun _ _ _ _ _ _ us hl => match us, hl with | [_, _], _ => rfl), ok_by_rounds F_by_rounds B NS⟩⟩
  have G_nought : Fn P w K mg base 1 "nought" 1 m_nought := ⟨⟨_, fd_nought, ["house"], He.glo_ok X G (c.fact 1 (f := .glo "nought") rfl), F_nought.kp, F_nought.bindsN (fun _ _ _ _ _ _ us hl => match us, hl with | [_], _ => rfl), ok_nought F_nought B NS⟩⟩
  have G_size : Fn P w K mg base 1 "size" 1 m_size := ⟨⟨_, fd_size, ["house"], He.glo_ok X G (c.fact 2 (f := .glo "size") rfl), F_size.kp, F_size.bindsN (fun _ _ _ _ _ _ us hl => match us, hl with | [_], _ => rfl), ok_size F_size B NS⟩⟩
  have G__law_pen : Fn P w K mg base 1 "_law_pen" 1 m__law_pen := ⟨⟨_, fd__law_pen, ["_law_script"], He.glo_ok X G (c.fact 3 (f := .glo "_law_pen") rfl), F__law_pen.kp, F__law_pen.bindsN (fun _ _ _ _ _ _ us hl => match us, hl with | [_], _ => rfl), ok__law_pen F__law_pen B NS⟩⟩
  have G__law_draw : Fn P w K mg base 1 "_law_draw" 2 m__law_draw := ⟨⟨_, fd__law_draw, ["_law_pen_here", "_law_many"], He.glo_ok X G (c.fact 4 (f := .glo "_law_draw") rfl), F__law_draw.kp, F__law_draw.bindsN (fun _ _ _ _ _ _ us hl => match us, hl with | [_, _], _ => rfl), ok__law_draw F__law_draw B NS⟩⟩
  have G__law_closure : Fn P w K mg base 1 "_law_closure" 2 m__law_closure := ⟨⟨_, fd__law_closure, ["_law_house_here", "_law_some"], He.glo_ok X G (c.fact 5 (f := .glo "_law_closure") rfl), F__law_closure.kp, F__law_closure.bindsN (fun _ _ _ _ _ _ us hl => match us, hl with | [_, _], _ => rfl), ok__law_closure F__law_closure B NS⟩⟩
  have G__law_fits : Fn P w K mg base 1 "_law_fits" 3 m__law_fits := ⟨⟨_, fd__law_fits, ["_law_a", "_law_k", "_law_feet"], He.glo_ok X G (c.fact 6 (f := .glo "_law_fits") rfl), F__law_fits.kp, F__law_fits.bindsN (fun _ _ _ _ _ _ us hl => match us, hl with | [_, _, _], _ => rfl), ok__law_fits F__law_fits B NS⟩⟩
  have G__law_word : Fn P w K mg base 1 "_law_word" 1 m__law_word := ⟨⟨_, fd__law_word, ["_law_caught"], He.glo_ok X G (c.fact 7 (f := .glo "_law_word") rfl), F__law_word.kp, F__law_word.bindsN (fun _ _ _ _ _ _ us hl => match us, hl with | [_], _ => rfl), ok__law_word F__law_word B NS⟩⟩
  have G_part_size : Fn P w K mg base 2 "part_size" 2 m_part_size := ⟨⟨_, fd_part_size, ["house", "part"], He.glo_ok X G (c.fact 8 (f := .glo "part_size") rfl), F_part_size.kp, F_part_size.bindsN (fun _ _ _ _ _ _ us hl => match us, hl with | [_, _], _ => rfl), ok_part_size F_part_size B NS G_size⟩⟩
  have G__law_small : Fn P w K mg base 2 "_law_small" 2 m__law_small := ⟨⟨_, fd__law_small, ["_law_pen_here", "_law_most"], He.glo_ok X G (c.fact 9 (f := .glo "_law_small") rfl), F__law_small.kp, F__law_small.bindsN (fun _ _ _ _ _ _ us hl => match us, hl with | [_, _], _ => rfl), ok__law_small F__law_small B NS G__law_draw⟩⟩
  have G__law_thing : Fn P w K mg base 2 "_law_thing" 2 m__law_thing := ⟨⟨_, fd__law_thing, ["_law_pen_here", "_law_house_here"], He.glo_ok X G (c.fact 10 (f := .glo "_law_thing") rfl), F__law_thing.kp, F__law_thing.bindsN (fun _ _ _ _ _ _ us hl => match us, hl with | [_, _], _ => rfl), ok__law_thing F__law_thing B NS G__law_draw⟩⟩
  have G__law_rows : Fn P w K mg base 2 "_law_rows" 2 m__law_rows := ⟨⟨_, fd__law_rows, ["_law_house_here", "_law_inside"], He.glo_ok X G (c.fact 11 (f := .glo "_law_rows") rfl), F__law_rows.kp, F__law_rows.bindsN (fun _ _ _ _ _ _ us hl => match us, hl with | [_, _], _ => rfl), ok__law_rows F__law_rows B NS G__law_fits⟩⟩
  have G__law_round : Fn P w K mg base 2 "_law_round" 1 m__law_round := ⟨⟨_, fd__law_round, ["_law_pen_here"], He.glo_ok X G (c.fact 12 (f := .glo "_law_round") rfl), F__law_round.kp, F__law_round.bindsN (fun _ _ _ _ _ _ us hl => match us, hl with | [_], _ => rfl), ok__law_round F__law_round B NS G__law_draw⟩⟩
  have G__law_turning : Fn P w K mg base 2 "_law_turning" 2 m__law_turning := ⟨⟨_, fd__law_turning, ["_law_pen_here", "_law_house_here"], He.glo_ok X G (c.fact 13 (f := .glo "_law_turning") rfl), F__law_turning.kp, F__law_turning.bindsN (fun _ _ _ _ _ _ us hl => match us, hl with | [_, _], _ => rfl), ok__law_turning F__law_turning B NS G__law_draw⟩⟩
  have G_things_in : Fn P w K mg base 3 "things_in" 2 m_things_in := ⟨⟨_, fd_things_in, ["house", "part"], He.glo_ok X G (c.fact 14 (f := .glo "things_in") rfl), F_things_in.kp, F_things_in.bindsN (fun _ _ _ _ _ _ us hl => match us, hl with | [_, _], _ => rfl), ok_things_in F_things_in B NS G_part_size G_nought G_by_rounds⟩⟩
  have G__law_house : Fn P w K mg base 3 "_law_house" 1 m__law_house := ⟨⟨_, fd__law_house, ["_law_pen_here"], He.glo_ok X G (c.fact 15 (f := .glo "_law_house") rfl), F__law_house.kp, F__law_house.bindsN (fun _ _ _ _ _ _ us hl => match us, hl with | [_], _ => rfl), ok__law_house F__law_house B NS G__law_draw G__law_round⟩⟩
  have G__law_heard : LamFn P w K mg base 4 "_law_heard" 3 1 b__law_heard := ⟨⟨_, fd__law_heard, N__law_heard, _, _, _, "_law_ask", He.glo_ok X G (c.fact 16 (f := .glo "_law_heard") rfl), F__law_heard.kp, F__law_heard, F__law_heard.bindsN (fun _ _ _ _ _ _ us hl => match us, hl with | [_], _ => rfl), sc__law_heard, rfl, .inl rfl, by decide, by decide, lam__law_heard B NS G__law_word⟩⟩
  have G__law_told : Fn P w K mg base 6 "_law_told" 3 m__law_told := ⟨⟨_, fd__law_told, ["_law_house_here", "_law_rows_here", "_law_due"], He.glo_ok X G (c.fact 17 (f := .glo "_law_told") rfl), F__law_told.kp, F__law_told.bindsN (fun _ _ _ _ _ _ us hl => match us, hl with | [_, _, _], _ => rfl), ok__law_told F__law_told B NS (lamAt_of rfl l (by decide) TB) G_part_size G_things_in G__law_heard⟩⟩
  have G__law_great_right : Fn P w K mg base 6 "_law_great_right" 1 m__law_great_right := ⟨⟨_, fd__law_great_right, ["_law_pen_here"], He.glo_ok X G (c.fact 18 (f := .glo "_law_great_right") rfl), F__law_great_right.kp, F__law_great_right.bindsN (fun _ _ _ _ _ _ us hl => match us, hl with | [_], _ => rfl), ok__law_great_right F__law_great_right B NS (lamAt_of rfl l (by decide) TB) G__law_house G__law_draw G_part_size G_things_in G__law_heard⟩⟩
  have G__law_small_right : Fn P w K mg base 7 "_law_small_right" 1 m__law_small_right := ⟨⟨_, fd__law_small_right, ["_law_pen_here"], He.glo_ok X G (c.fact 19 (f := .glo "_law_small_right") rfl), F__law_small_right.kp, F__law_small_right.bindsN (fun _ _ _ _ _ _ us hl => match us, hl with | [_], _ => rfl), ok__law_small_right F__law_small_right B NS G__law_small G__law_draw G__law_thing G__law_closure G__law_told G__law_rows⟩⟩
  have G__law_edge_right : Fn P w K mg base 7 "_law_edge_right" 1 m__law_edge_right := ⟨⟨_, fd__law_edge_right, ["_law_pen_here"], He.glo_ok X G (c.fact 20 (f := .glo "_law_edge_right") rfl), F__law_edge_right.kp, F__law_edge_right.bindsN (fun _ _ _ _ _ _ us hl => match us, hl with | [_], _ => rfl), ok__law_edge_right F__law_edge_right B NS G__law_draw G__law_told⟩⟩
  have G__law_many_rounds_right : Fn P w K mg base 7 "_law_many_rounds_right" 1 m__law_many_rounds_right := ⟨⟨_, fd__law_many_rounds_right, ["_law_pen_here"], He.glo_ok X G (c.fact 21 (f := .glo "_law_many_rounds_right") rfl), F__law_many_rounds_right.kp, F__law_many_rounds_right.bindsN (fun _ _ _ _ _ _ us hl => match us, hl with | [_], _ => rfl), ok__law_many_rounds_right F__law_many_rounds_right B NS G__law_house G__law_closure G__law_turning G__law_told G__law_rows⟩⟩
  exact ok_law F_law B NS G__law_pen G__law_small_right G__law_edge_right G__law_great_right G__law_many_rounds_right G_part_size G_things_in
theorem sp_law {K : PySem.W.Frag} {mg : Str → Option Value} {ns : List Int} (hl : ∃ r, m_law [.v (.list (ns.map .int))] = .ok (.v (.bool true)) r) (H : Hp) (a : Addr) (hS : SqL K H a (ns.map V.int)) (tb : LamX.Tabs (TabT.T K) H) : spG K mg 1 m_law [.ref a] H (fun v _ => v = .bl true) fun _ _ _ => False :=
  sp_start hl hS tb
end K45

namespace K45
open PySem Pu L2
theorem mulOk_b {i j : Int} {b c : Nat} (h1 : i.natAbs < 2 ^ b) (h2 : j.natAbs < 2 ^ c) (h : b + c < 100000000) : mulOk i j := by
  refine .inr (.inr ?_)
  have key : ∀ (z : Nat) (d : Nat), z < 2 ^ d → z.log2 ≤ d := fun z d hz => by
    by_cases h0 : z = 0
    · rw [h0]
      simp [-po_comp]
    · exact Nat.le_of_lt ((Nat.log2_lt h0).mpr hz)
  have := key _ _ h1
  have := key _ _ h2
  omega
end K45

namespace K45
open PySem Pu L2
theorem at0 (x y z : D) : atI [x, y, z] 0 = some x := rfl
theorem at1 (x y z : D) : atI [x, y, z] 1 = some y := rfl
theorem at2 (x y z : D) : atI [x, y, z] 2 = some z := rfl
theorem ix1 : ixN 3 1 = some 1 := rfl
theorem ix2 : ixN 3 2 = some 2 := rfl
def PenL (cs : List Int) (c : Ct) : Prop := ∃ a l : Int, c = .l [.list (cs.map .int), .int a, .int l] ∧ 0 ≤ a ∧ 0 ≤ l
def DrL (cs : List Int) (n : Int) (rv : RV) (z : List Sl) : Prop := ∃ k c t, rv = .v (.int k) ∧ 0 ≤ k ∧ k < n ∧ z = .io c :: t ∧ PenL cs c
theorem draw_ok {X : Exn → En → Prop} {cs : List Int} {p : Ct} {n : Int} (hp : PenL cs p) (hn : 0 < n) : Wp X (m__law_draw [.io p, .v (.int n)]) (DrL cs n) := by
  obtain ⟨a, l, rfl, ha, hl⟩ := hp
  refine po_fn ?_
  unfold b__law_draw DrL
  have hp1 : ∀ x : Int, 0 ≤ x.fmod n := fun x => (fmod_pos x hn).1
  have hp2 : ∀ x : Int, x.fmod n < n := fun x => (fmod_pos x hn).2
  have hn' : ¬ n = 0 := by omega
  have fin1 : PenL cs (.l [.list (cs.map .int), .int (a + 1), .int l]) := ⟨_, _, rfl, by omega, hl⟩
  have fin2 : ∀ x : Int, 0 ≤ x → PenL cs (.l [.list (cs.map .int), .int (a + 1), .int (x.fdiv n)]) := fun x hx => ⟨_, _, rfl, by omega, fdiv_nn hx hn⟩
  have fin3 : PenL cs (.l [.list (cs.map .int), .int a, .int (l.fdiv n)]) := ⟨_, _, rfl, ha, fdiv_nn hl hn⟩
  have m1 : mulOk 32452843 a := mulOk_l ⟨by decide, by decide⟩
  have m2 : mulOk 80021 a := mulOk_l ⟨by decide, by decide⟩
  by_cases hc : cs = []
  · subst hc
    simp [-po_comp, po_seq, Int.fmod_eq_emod_of_nonneg, Int.fdiv_eq_ediv_of_nonneg, hn', hp1, hp2, fin1, fin2, fin3, ha, m1, m2, at0, at1, at2, ix1, ix2]
    split
    · exact fin3
    · exact fin1
  · have hlen : 0 < cs.length := List.length_pos_iff.mpr hc
    obtain ⟨c, hc1, -⟩ := atI_nn (xs := cs) (n := a % cs.length) (Int.emod_nonneg _ (by omega)) (Int.emod_lt_of_pos _ (by omega))
    simp [-po_comp, po_seq, Int.fmod_eq_emod_of_nonneg, Int.fdiv_eq_ediv_of_nonneg, hn', hp1, hp2, fin1, fin2, fin3, hc, hc1, hlen, m1, m2, at0, at1, at2, ix1, ix2]
abbrev T (xs : List Int) : D := .tuple (xs.map .int)
abbrev TT (rs : List (List Int)) : D := .tuple (rs.map fun r => T r)
def row (rs : List (List Int)) (i : Nat) : List Int := rs.getD i []
theorem row_at {rs : List (List Int)} {i : Nat} (h : i < rs.length) : rs[i]? = some (row rs i) := by
  unfold row
  rw [List.getD, List.getElem?_eq_getElem h]
  rfl
theorem row_mem {rs : List (List Int)} {i : Nat} (h : i < rs.length) : row rs i ∈ rs := List.mem_of_getElem? (row_at h)
theorem atTT {rs : List (List Int)} {i : Nat} (h : i < rs.length) : (rs.map fun r => T r)[i]? = some (T (row rs i)) := by
  rw [List.getElem?_map, row_at h]
  rfl
theorem shaped_TT (xs : List (List Int)) : SeqAt.shaped (.list (xs.map fun a => T a)) = true := by
  refine Bool.and_eq_true_iff.mpr ⟨?_, decide_eq_true ?_⟩
  · show PyData.canLayAll0 (xs.map fun a => T a) = true
    induction xs with
    | nil => rfl
    | cons x xs ih => exact Bool.and_eq_true_iff.mpr ⟨lay_ints x, ih⟩
  · have := depthAll_map (fun a => T a) 2 xs fun x _ => by
      have := depthAll_map PyData.int 1 x fun x _ => by simp [-po_comp, PyData.depth]
      simp only [PyData.depth]
      omega
    simp only [PyData.depth]
    omega
theorem ne_nil (xs : List (List Int)) : neD (.list (xs.map fun a => T a)) (.list []) = some (.bool (!decide (xs = []))) := by
  rw [neD_ll (shaped_TT xs) rfl]
  cases xs with
  | nil => rfl
  | cons x xs => rw [SeqAt.eqvAll_other_length (by simp [-po_comp])]; simp [-po_comp]
theorem shaped_tTT (xs : List (List Int)) : SeqAt.shaped (TT xs) = true := shaped_TT xs
theorem eqv_TT : ∀ xs ys : List (List Int), PyData.eqvAll (xs.map fun a => T a) (ys.map fun a => T a) = decide (xs = ys)
  | [], [] => rfl
  | [], y :: ys => rfl
  | x :: xs, [] => rfl
  | x :: xs, y :: ys => by
    show (PyData.eqvAll (x.map .int) (y.map .int) && PyData.eqvAll (xs.map fun a => T a) (ys.map fun a => T a)) = _
    rw [eqv_ints, eqv_TT xs ys, Bool.eq_iff_iff]
    simp [-po_comp]
theorem ne_TT (xs ys : List (List Int)) : neD (TT xs) (TT ys) = some (.bool (!decide (xs = ys))) := by
  show neD (.tuple (xs.map fun a => T a)) (.tuple (ys.map fun a => T a)) = _
  rw [neD_tt (shaped_tTT xs) (shaped_tTT ys), eqv_TT]
def fo : List Int → Nat
  | [] => 0
  | x :: xs => if x = 0 then fo xs + 1 else 0
theorem fo_le : ∀ r : List Int, fo r ≤ r.length
  | [] => Nat.le_refl _
  | x :: xs => by
    have := fo_le xs
    unfold fo
    split <;> simp [-po_comp] <;> omega
theorem fo_z : ∀ (r : List Int) (i : Nat), i < fo r → St.vec r i = 0
  | [], i, h => by simp [-po_comp, fo] at h
  | x :: xs, i, h => by
    unfold fo at h
    split at h
    · rename_i z
      cases i with
      | zero => exact z
      | succ i => exact fo_z xs i (by omega)
    · omega
theorem fo_nz : ∀ r : List Int, fo r < r.length → St.vec r (fo r) ≠ 0
  | [], h => by simp [-po_comp, fo] at h
  | x :: xs, h => by
    unfold fo at h ⊢
    split
    · rename_i z
      rw [if_pos z] at h
      exact fo_nz xs (by simpa using h)
    · rename_i z
      exact z
theorem ft_fo {r : List Int} {k : Nat} (h : St.Ft (St.vec r) k) : k = fo r ∧ k < r.length := by
  have hk : k < r.length := by
    rcases Nat.lt_or_ge k r.length with q | q
    · exact q
    · have := h.2
      rw [St.vec_out q] at this
      omega
  refine ⟨?_, hk⟩
  rcases Nat.lt_trichotomy k (fo r) with q | q | q
  · have := fo_z r k q
    have := h.2
    omega
  · exact q
  · have := fo_nz r (by omega)
    exact absurd (h.1 _ q) this
theorem get_vec {r : List Int} {k : Nat} (h : k < r.length) : r[k]? = some (St.vec r k) := by
  rw [List.getElem?_eq_getElem h, St.vec_get h]
/-- growth, up to a width -/
def Lim (b w : Nat) : Prop := ∀ i, i < w → 2 * St.bb b (i + 1) + 2 * St.cc b i + 100 < 100000000
theorem cc_mono (b : Nat) : ∀ {i j : Nat}, i ≤ j → St.cc b i ≤ St.cc b j := fun {i j} h => by
  induction h with
  | refl => exact Nat.le_refl _
  | step _ ih => exact Nat.le_trans ih (by show St.cc b _ ≤ St.cc b _ + St.up (St.bb b _) + 1; omega)
theorem bb_mono (b : Nat) : ∀ {i j : Nat}, i ≤ j → St.bb b i ≤ St.bb b j := fun {i j} h => by
  induction h with
  | refl => exact Nat.le_refl _
  | step _ ih => exact Nat.le_trans ih (by show St.bb b _ ≤ (5 * St.bb b _ + 7) / 2; omega)
theorem map_vec_inj {w : Nat} : ∀ {a b : List (List Int)}, (∀ r ∈ a, r.length = w) → (∀ r ∈ b, r.length = w) → a.map St.vec = b.map St.vec → a = b
  | [], [], _, _, _ => rfl
  | [], _ :: _, _, _, h => by simp [-po_comp] at h
  | _ :: _, [], _, _, h => by simp [-po_comp] at h
  | x :: a, y :: b, h1, h2, h => by
    simp only [List.map_cons, List.cons.injEq] at h
    rw [map_vec_inj (fun r hr => h1 r (List.mem_cons_of_mem _ hr)) (fun r hr => h2 r (List.mem_cons_of_mem _ hr)) h.2, St.vec_ext ((h1 x (List.mem_cons_self ..)).trans (h2 y (List.mem_cons_self ..)).symm) (fun i => congrFun h.1 i)]
end K45

namespace K45
open PySem Pu L2
/-! ### houses and things that are drawn -/
def hI (h : List Nat) : List Int := h.map fun n : Nat => (n : Int)
theorem hI_nil : hI [] = [] := rfl
theorem prd_snoc (h : List Nat) (n : Nat) : St.prd (h ++ [n]) = St.prd h * n := by simp [-po_comp, St.prd]
theorem hI_len (h : List Nat) : (hI h).length = h.length := by simp [-po_comp, hI]
theorem min_int (a b : Int) : minD (.int a) (.int b) = some (.int (if b < a then b else a)) := rfl
theorem small_ok {X : Exn → En → Prop} {cs : List Int} {p : Ct} {m : Nat} (hp : PenL cs p) (hm : 1 ≤ m) : Wp X (m__law_small [.io p, .v (.int m)]) fun rv z => ∃ (h : List Nat) (c : Ct) (t : List Sl), rv = .v (T (hI h)) ∧ h.length ≤ 6 ∧ (∀ n ∈ h, 1 ≤ n) ∧ St.prd h ≤ m ∧ z = .io c :: t ∧ PenL cs c := by
  refine po_fnK fun Y K hY hK _ => ?_
  unfold b__law_small
  refine po_step fun K1 h1 _ _ _ => ?_
  simp [-po_comp]
  refine h1 _ ?_
  refine po_step fun K2 h2 _ _ _ => ?_
  simp [-po_comp]
  refine h2 _ ?_
  refine po_step fun K3 h3 _ _ _ => ?_
  simp [-po_comp]
  refine po_mono (draw_ok hp (by decide)) ?_
  rintro _ _ ⟨q, c, t, rfl, q0, q1, rfl, hp⟩
  obtain ⟨q, rfl⟩ := Int.eq_ofNat_of_zero_le q0
  simp [-po_comp]
  refine ⟨by omega, ?_⟩
  refine po_rngK (fun i r => ∃ (h : List Nat) (rm : Nat) (c : Ct) (s4 s5 s6 : Sl), r = [.io c, .v (.int m), .o (.l ((hI h).map .int)), .v (.int rm), s4, s5, s6] ∧ PenL cs c ∧ s4.isIo = false ∧ s5.isIo = false ∧ s6.isIo = false ∧ h.length = i ∧ (∀ n ∈ h, 1 ≤ n) ∧ 1 ≤ rm ∧ St.prd h * rm ≤ m) q _ ⟨[], m, c, .unk, .unk, .unk, by simp [-po_comp, hI_nil], hp, rfl, rfl, rfl, rfl, (fun n hn => by cases hn), hm, by simp [-po_comp, St.prd]⟩ ?_ ?_
  · rintro i r hi ⟨h, rm, c, s4, s5, s6, rfl, hp, q4, q5, q6, hl, hn, hrm, hpr⟩
    refine ⟨[.io c, .v (.int m), .o (.l ((hI h).map .int)), .v (.int rm), .v (.int i), s5, s6], by simp [-po_comp, q4], fun K4 h4 _ _ _ => ?_⟩
    refine po_step fun K5 h5 _ _ _ => ?_
    simp [-po_comp]
    refine po_mono (draw_ok hp (by omega)) ?_
    rintro _ _ ⟨v, c, t, rfl, v0, v1, rfl, hp⟩
    simp [-po_comp, q5]
    refine h5 _ ?_
    refine po_step fun K6 h6 _ _ _ => ?_
    simp [-po_comp]
    refine po_mono (draw_ok hp (by decide)) ?_
    rintro _ _ ⟨u, c, t, rfl, u0, u1, rfl, hp⟩
    obtain ⟨d, e1, y, rfl, y0⟩ := atI_all (P := fun d : D => ∃ y : Int, d = .int y ∧ 1 ≤ y) (xs := [.int 2, .int 4, .int 3, .int 1, .int (1 + v), .int (1 + v), .int 2, .int 6]) (n := u) u0 (by simp [-po_comp]; omega) (by
      intro d hd
      simp only [List.mem_cons, List.not_mem_nil, or_false] at hd
      rcases hd with rfl | rfl | rfl | rfl | rfl | rfl | rfl | rfl <;> exact ⟨_, rfl, by omega⟩)
    obtain ⟨o, ho, ho1, ho2⟩ : ∃ o : Nat, (if y < (rm : Int) then y else (rm : Int)) = (o : Int) ∧ 1 ≤ o ∧ o ≤ rm := by
      split
      · exact ⟨y.toNat, by omega, by omega, by omega⟩
      · exact ⟨rm, rfl, hrm, Nat.le_refl _⟩
    simp [-po_comp, e1, min_int, ho, q6]
    refine h6 _ ?_
    refine po_step fun K7 h7 _ _ _ => ?_
    have hsz : (hI h).length < 16777216 := by rw [hI_len]; omega
    have o0 : ¬ o = 0 := by omega
    simp [-po_comp, hsz]
    refine h7 _ ?_
    simp [-po_comp, o0, fdiv_nat]
    have hdv : 1 ≤ rm / o := Nat.div_pos ho2 ho1
    have hmul : o * (rm / o) ≤ rm := Nat.mul_div_le rm o
    refine h4 _ ⟨h ++ [o], rm / o, c, .v (.int i), .v (.int (1 + v)), .v (.int o), by simp [-po_comp, hI], hp, rfl, rfl, rfl, by simp [-po_comp, hl], ?_, hdv, ?_⟩
    · intro n hn2
      rcases List.mem_append.mp hn2 with hn2 | hn2
      · exact hn n hn2
      · rw [List.mem_singleton.mp hn2]
        exact ho1
    · rw [prd_snoc, Nat.mul_assoc]
      exact Nat.le_trans (Nat.mul_le_mul_left _ hmul) hpr
  · rintro r ⟨h, rm, c, s4, s5, s6, rfl, hp, q4, q5, q6, hl, hn, hrm, hpr⟩
    refine h3 _ ?_
    simp [-po_comp]
    refine hK _ _ _ rfl ⟨h, c, _, rfl, by omega, hn, ?_, rfl, hp⟩
    have : St.prd h * 1 ≤ St.prd h * rm := Nat.mul_le_mul_left _ hrm
    omega
theorem vec_snoc (a : List Int) (x : Int) (k : Nat) : St.vec (a ++ [x]) k = if k < a.length then St.vec a k else if k = a.length then x else 0 := by
  unfold St.vec
  rw [List.getD_eq_getElem?_getD, List.getD_eq_getElem?_getD, List.getElem?_append]
  by_cases h : k < a.length
  · simp [-po_comp, h]
  · by_cases h2 : k = a.length
    · simp [-po_comp, h2]
    · have : ¬ k - a.length = 0 := by omega
      simp [-po_comp, h, h2, this]
theorem thing_ok {X : Exn → En → Prop} {cs : List Int} {p : Ct} {h : List Nat} (hp : PenL cs p) (hh : ∀ n ∈ h, 1 ≤ n) (h6 : h.length ≤ 6) : Wp X (m__law_thing [.io p, .v (T (hI h))]) fun rv z => ∃ (a : List Int) (c : Ct) (t : List Sl), rv = .v (T a) ∧ St.Th h a ∧ z = .io c :: t ∧ PenL cs c := by
  refine po_fnK fun Y K hY hK _ => ?_
  unfold b__law_thing
  refine po_step fun K1 h1 _ _ _ => ?_
  simp [-po_comp]
  refine h1 _ ?_
  refine po_step fun K2 h2 _ _ _ => ?_
  simp [-po_comp]
  have eh : (hI h).map PyData.int = h.map fun n : Nat => .int (n : Int) := by simp [-po_comp, hI]
  rw [eh]
  refine po_forK (fun done r => ∃ (a : List Int) (c : Ct) (s3 s4 s5 : Sl), r = [.io c, .v (T (hI h)), .o (.l (a.map .int)), s3, s4, s5] ∧ PenL cs c ∧ s3.isIo = false ∧ s4.isIo = false ∧ s5.isIo = false ∧ a.length = done.length ∧ ∀ k, k < done.length → 0 ≤ St.vec a k ∧ St.vec a k < ((done.getD k 0 : Nat) : Int)) h _ ⟨[], p, .unk, .unk, .unk, by simp [-po_comp, hI], hp, rfl, rfl, rfl, rfl, fun k hk => by simp [-po_comp] at hk⟩ ?_ ?_
  · rintro done n rest r hs ⟨a, c, s3, s4, s5, rfl, hp, q3, q4, q5, hl, ha⟩
    have hn := hh n (by rw [hs]; simp [-po_comp])
    have hdl : done.length < 6 := by
      have := congrArg List.length hs
      simp [-po_comp] at this
      omega
    refine ⟨[.io c, .v (T (hI h)), .o (.l (a.map .int)), .v (.int n), s4, s5], by simp [-po_comp, q3], fun K3 h3 _ _ _ => ?_⟩
    refine po_step fun K4 h4 _ _ _ => ?_
    simp [-po_comp]
    refine po_mono (draw_ok hp (by omega)) ?_
    rintro _ _ ⟨v, c, t, rfl, v0, v1, rfl, hp⟩
    simp [-po_comp, q4]
    refine h4 _ ?_
    refine po_step fun K5 h5 _ _ _ => ?_
    have e2 : (n : Int).fdiv 2 = ((n / 2 : Nat) : Int) := fdiv_nat n 2
    have e3 : (n : Int).fdiv 3 = ((n / 3 : Nat) : Int) := fdiv_nat n 3
    simp [-po_comp, q5, e2, e3]
    refine h5 _ ?_
    simp [-po_comp]
    refine po_mono (draw_ok hp (by decide)) ?_
    rintro _ _ ⟨u, c, t, rfl, u0, u1, rfl, hp⟩
    obtain ⟨d, e1, y, rfl, y0, y1⟩ := atI_all (P := fun d : D => ∃ y : Int, d = .int y ∧ 0 ≤ y ∧ y < n) (xs := [.int v, .int v, .int 0, .int (n - 1), .int (n / 2 : Nat), .int (n / 3 : Nat), .int v]) (n := u) u0 (by simp [-po_comp]; omega) (by
      intro d hd
      simp only [List.mem_cons, List.not_mem_nil, or_false] at hd
      rcases hd with rfl | rfl | rfl | rfl | rfl | rfl | rfl
      · exact ⟨_, rfl, v0, v1⟩
      · exact ⟨_, rfl, v0, v1⟩
      · exact ⟨_, rfl, by omega, by omega⟩
      · exact ⟨_, rfl, by omega, by omega⟩
      · exact ⟨_, rfl, by omega, by omega⟩
      · exact ⟨_, rfl, by omega, by omega⟩
      · exact ⟨_, rfl, v0, v1⟩)
    simp [-po_comp] at e1
    have hsz : a.length < 16777216 := by omega
    simp [-po_comp, e1, hsz]
    refine h3 _ ⟨a ++ [y], c, .v (.int n), .v (.int v), _, by simp [-po_comp]; rfl, hp, rfl, rfl, rfl, by simp [-po_comp, hl], fun k hk => ?_⟩
    rw [vec_snoc]
    by_cases c1 : k < a.length
    · rw [if_pos c1]
      have := ha k (by omega)
      have e : (done ++ [n]).getD k 0 = done.getD k 0 := by
        simp [-po_comp, List.getElem?_append, show k < done.length by omega]
      rw [e]
      exact this
    · have ek : k = done.length := by
        simp [-po_comp] at hk
        omega
      rw [if_neg c1, if_pos (by omega), ek]
      simp [-po_comp]
      exact ⟨y0, y1⟩
  · rintro r ⟨a, c, s3, s4, s5, rfl, hp, q3, q4, q5, hl, ha⟩
    refine h2 _ ?_
    simp [-po_comp]
    exact hK _ _ _ rfl ⟨a, c, _, rfl, ⟨hl, ha⟩, rfl, hp⟩
end K45

namespace K45
open PySem Pu L2
/-! ### dicts by tuples of ints -/
def kk (a : List Int) : List Key := a.map .inl
theorem keysD_ints : ∀ a : List Int, keysD (a.map .int) = some (kk a)
  | [] => rfl
  | x :: a => by
    show (keyD (.int x)).bind (fun k => (keysD (a.map .int)).map (k :: ·)) = _
    rw [keysD_ints a]
    rfl
theorem tkey_T (a : List Int) : tkeyD (T a) = some (kk a) := keysD_ints a
theorem kk_inj : ∀ {a b : List Int}, kk a = kk b → a = b
  | [], [], _ => rfl
  | [], _ :: _, h => by simp [-po_comp, kk] at h
  | _ :: _, [], h => by simp [-po_comp, kk] at h
  | x :: a, y :: b, h => by
    simp only [kk, List.map_cons, List.cons.injEq, Sum.inl.injEq] at h
    rw [h.1, kk_inj h.2]
theorem vK_some {κ : Type} [DecidableEq κ] {k : κ} : ∀ {kvs : List (κ × D)}, (vK kvs k).isSome = decide (k ∈ kvs.map (·.1))
  | [] => by simp [-po_comp, vK]
  | (k', d) :: kvs => by
    have ih := vK_some (k := k) (kvs := kvs)
    unfold vK at ih ⊢
    by_cases h : k' = k
    · subst h
      simp [-po_comp, List.find?_cons]
    · have h2 : ¬ k = k' := fun z => h z.symm
      simp only [List.find?_cons, h, decide_false]
      rw [ih]
      simp [-po_comp, h2]
theorem pK_new {κ : Type} [DecidableEq κ] {k : κ} {d : D} {kvs : List (κ × D)} (h : k ∉ kvs.map (·.1)) : pK kvs k d = kvs ++ [(k, d)] := by
  unfold pK
  rw [if_neg]
  simp only [List.any_eq_true, decide_eq_true_eq, not_exists, not_and]
  intro x hx e
  exact h (List.mem_map.mpr ⟨x, hx, e⟩)
theorem mem_kk {L : List (List Int)} {a : List Int} : kk a ∈ L.map kk ↔ a ∈ L := by
  simp only [List.mem_map]
  constructor
  · rintro ⟨b, hb, e⟩
    rw [← kk_inj e]
    exact hb
  · intro h
    exact ⟨a, h, rfl⟩
theorem sort_T (L : List (List Int)) (hw : L.length ≤ 1 ∨ ∀ a ∈ L, a ≠ []) : sortAL [.list (L.map fun a => T a)] = some ((L.mergeSort (PySem.W.dataLe false fun a => T a)).map fun a => T a) := by
  classical
  show cI ((L.map fun a => T a).length ≤ 1) (some (L.map fun a => T a)) (cI (PySem.W.AllAlike (L.map fun a => T a) ∧ PySem.W.Sortable (L.map fun a => T a) ∧ ∀ d ∈ L.map (fun a => T a), SeqAt.shaped d = true) (some ((L.map fun a => T a).mergeSort (PySem.W.dataLe false id))) none) = _
  rw [cI_eq]
  by_cases h1 : (L.map fun a => T a).length ≤ 1
  · rw [if_pos h1]
    match L, h1 with
    | [], _ => simp [-po_comp]
    | [a], _ => simp [-po_comp]
    | _ :: _ :: _, h1 => simp [-po_comp] at h1
  · rw [if_neg h1, cI_eq, if_pos]
    · rw [List.map_mergeSort (r := PySem.W.dataLe false fun a => T a) (s := PySem.W.dataLe false id) (f := fun a => T a) (l := L) fun a _ b _ => rfl]
    · refine ⟨PySem.W.AllAlike.of fun a b => ?_, ?_, ?_⟩
      · show PySem.W.alike (.tuple (a.map .int)) (.tuple (b.map .int)) = true
        rw [PySem.W.alike]
        exact PySem.W.alike_ints a b
      · refine .inl fun d hd => ?_
        obtain ⟨a, ha, rfl⟩ := List.mem_map.mp hd
        rcases hw with hw | hw
        · simp [-po_comp] at h1
          omega
        · obtain ⟨x, r, e⟩ := List.exists_cons_of_ne_nil (hw a ha)
          exact ⟨.int x, r.map .int, by rw [e]; rfl⟩
      · intro d hd
        obtain ⟨a, ha, rfl⟩ := List.mem_map.mp hd
        exact shaped_t a
/-- what some things come to, rising -/
structure Clo (M : Nat) (h : List Nat) (G C : List (List Int)) : Prop where
  nd : C.Nodup
  mem : ∀ x, x ∈ C ↔ St.Th h x ∧ St.Lam h G (St.vec x)
  le : C.length ≤ M
  so : ∃ L : List (List Int), C = L.mergeSort (PySem.W.dataLe false fun a => T a)
theorem closure_ok {X : Exn → En → Prop} {BB : Nat} {h : List Nat} {G : List (List Int)} (hp : ∀ n ∈ h, 1 ≤ n) (hl6 : h.length ≤ 6) (hG : ∀ g ∈ G, St.Th h g) (hM : ∀ L : List (List Int), L.Nodup → (∀ a ∈ L, St.Th h a ∧ St.Lam h G (St.vec a)) → L.length ≤ BB) (hpr : BB ≤ 1000) : Wp X (m__law_closure [.v (T (hI h)), .v (.list (G.map fun g => T g))]) fun rv _ => ∃ C, rv = .o (.l (C.map fun a => T a)) ∧ Clo BB h G C := by
  refine po_fnK fun Y K hY hK _ => ?_
  unfold b__law_closure
  have z0 : St.nrm h (fun _ => 0) = List.replicate h.length 0 := by
    apply List.ext_getElem
    · simp [-po_comp, St.nrm_len]
    · intro i h1 h2
      simp [-po_comp, St.nrm]
  have ez : (List.replicate h.length (PyData.int 0)) = (St.nrm h (fun _ => 0)).map .int := by rw [z0]; simp [-po_comp]
  have hth0 := St.nrm_th hp (fun _ => 0)
  have hlam0 : St.Lam h G (St.vec (St.nrm h (fun _ => 0))) := St.Sp.zero.cong fun i => by
    rcases Nat.lt_or_ge i h.length with c | c
    · rw [St.vec_nrm c]
      simp [-po_comp]
    · rw [St.vec_out (by rw [St.nrm_len]; exact c)]
  generalize hz : St.nrm h (fun _ => 0) = Z at *
  refine po_step fun K1 h1 _ _ _ => ?_
  simp [-po_comp, hI_len]
  refine ⟨by omega, ?_⟩
  rw [ez]
  refine h1 _ ?_
  refine po_step fun K2 h2 _ _ _ => ?_
  have a0 : atI [T Z] 0 = some (T Z) := rfl
  simp [-po_comp, a0, tkey_T]
  refine h2 _ ?_
  refine po_step fun K3 h3 _ _ _ => ?_
  simp [-po_comp]
  refine h3 _ ?_
  refine po_step fun K4 h4 _ _ _ => ?_
  have hlw : ∀ (g : List Int), St.Th h g → g.length = h.length := fun g hg => hg.1
  refine po_while (fun t r => ∃ (L : List (List Int)) (kvs : List (List Key × D)) (at_ : Nat) (s5 s6 : Sl), r = [.v (T (hI h)), .v (.list (G.map fun g => T g)), .o (.l (L.map fun a => T a)), .o (.t kvs), .v (.int at_), s5, s6, .unk] ∧ s5.isIo = false ∧ s6.isIo = false ∧ kvs.map (·.1) = L.map kk ∧ L.Nodup ∧ (∀ a ∈ L, St.Th h a ∧ St.Lam h G (St.vec a)) ∧ Z ∈ L ∧ (∀ i, i < at_ → ∀ g ∈ G, ∃ a, L[i]? = some a ∧ St.nrm h (fun k => St.vec a k + St.vec g k) ∈ L) ∧ at_ ≤ L.length ∧ t = BB - at_) ?_ BB _ ⟨[Z], [(kk Z, .bool true)], 0, .unk, .unk, by simp, rfl, rfl, by simp, by simp, ?_, by simp, fun i hi => by omega, by omega, by omega⟩
  rotate_left
  · intro a ha
    rw [List.mem_singleton.mp ha]
    exact ⟨hth0, hlam0⟩
  rintro t r ⟨L, kvs, at_, s5, s6, rfl, q5, q6, hkv, hnd, hL, hZ, hcl, hat, rfl⟩
  have hLle := hM L hnd hL
  simp [-po_comp]
  by_cases c : at_ < L.length
  · rw [if_pos c]
    have c' : at_ < L.length := c
    obtain ⟨b, hb⟩ : ∃ b, L[at_]? = some b := ⟨_, List.getElem?_eq_getElem c'⟩
    have hbL := List.mem_of_getElem? hb
    have hbth := (hL b hbL).1
    refine po_step fun K5 h5 _ _ _ => ?_
    simp [-po_comp]
    refine po_forK (fun done r => ∃ (L2 : List (List Int)) (kvs : List (List Key × D)) (s5 s6 : Sl), r = [.v (T (hI h)), .v (.list (G.map fun g => T g)), .o (.l (L2.map fun a => T a)), .o (.t kvs), .v (.int at_), s5, s6, .unk] ∧ s5.isIo = false ∧ s6.isIo = false ∧ kvs.map (·.1) = L2.map kk ∧ L2.Nodup ∧ (∀ a ∈ L2, St.Th h a ∧ St.Lam h G (St.vec a)) ∧ Z ∈ L2 ∧ (∃ more, L2 = L ++ more) ∧ ∀ g ∈ done, St.nrm h (fun k => St.vec b k + St.vec g k) ∈ L2) G _ ⟨L, kvs, s5, s6, rfl, q5, q6, hkv, hnd, hL, hZ, ⟨[], by simp⟩, fun g hg => by cases hg⟩ ?_ ?_
    · rintro done g rest r hs ⟨L2, kvs, s5, s6, rfl, q5, q6, hkv, hnd, hL2, hZ2, ⟨more, hm⟩, hd⟩
      have hgG : g ∈ G := by rw [hs]; simp [-po_comp]
      have hgth := hG g hgG
      have hL2le := hM L2 hnd hL2
      have hb2 : L2[at_]? = some b := by
        rw [hm, List.getElem?_append_left c']
        exact hb
      refine ⟨[.v (T (hI h)), .v (.list (G.map fun g => T g)), .o (.l (L2.map fun a => T a)), .o (.t kvs), .v (.int at_), .v (T g), s6, .unk], by simp [-po_comp, q5], fun K6 h6 _ _ _ => ?_⟩
      refine po_step fun K7 h7 _ _ _ => ?_
      simp [-po_comp, hI_len]
      refine po_LC1 (f := fun i : Nat => .int i) (g := fun k : Nat => .int ((St.vec b k + St.vec g k) % ((h.getD k 0 : Nat) : Int))) (List.range h.length) (by simp [-po_comp, rng_map, hI_len]; omega) (by simp [-po_comp, noOwn_cons]) (by simp [-po_comp]; omega) ?_ ?_
      · intro k hk
        have hk := List.mem_range.mp hk
        have e1 := get_vec (r := b) (k := k) (by rw [hbth.1]; exact hk)
        have e2 := get_vec (r := g) (k := k) (by rw [hgth.1]; exact hk)
        have e3 : (hI h)[k]? = some ((h.getD k 0 : Nat) : Int) := by
          unfold hI
          rw [List.getElem?_map, List.getElem?_eq_getElem hk, List.getD_eq_getElem?_getD, List.getElem?_eq_getElem hk]
          rfl
        have hp1 := St.getD_pos hp hk
        have n0 : ¬ ((h.getD k 0 : Nat) : Int) = 0 := by omega
        simp [-po_comp, hb2, e1, e2, e3]
        rw [Int.fmod_eq_emod_of_nonneg _ (by omega)]
        have hp1' : 1 ≤ h[k]?.getD 0 := by simpa using hp1
        exact ⟨by omega, rfl⟩
      simp [-po_comp, q6]
      have em : List.map (fun k : Nat => PyData.int ((St.vec b k + St.vec g k) % ((h[k]?.getD 0 : Nat) : Int))) (List.range h.length) = (St.nrm h fun k => St.vec b k + St.vec g k).map .int := by
        simp [-po_comp, St.nrm]
      rw [em]
      have hmth := St.nrm_th hp fun k => St.vec b k + St.vec g k
      have hmlam : St.Lam h G (St.vec (St.nrm h fun k => St.vec b k + St.vec g k)) := by
        have h1 : St.Lam h G (fun k => St.vec b k + St.vec g k) := (hL b hbL).2.add (.of (List.mem_map.mpr ⟨g, List.mem_append_left _ hgG, rfl⟩))
        refine St.sl_mod (h := h) (fun k hk => St.lam_rnd hk) h1 (fun k hk => ?_) (fun k hk => ?_)
        · rw [St.vec_nrm hk, Int.emod_emod]
        · show St.vec b k + St.vec g k = _
          rw [St.vec_out (l := b) (by rw [hbth.1]; exact hk), St.vec_out (l := g) (by rw [hgth.1]; exact hk), St.vec_out (by rw [St.nrm_len]; exact hk)]
          rfl
      generalize hMe : (St.nrm h fun k => St.vec b k + St.vec g k) = M at *
      refine h7 _ ?_
      simp [-po_comp, tkey_T, vK_some, hkv, mem_kk]
      by_cases hM : M ∈ L2
      · rw [if_pos hM]
        refine h6 _ ⟨L2, kvs, .v (T g), .v (T M), rfl, rfl, rfl, hkv, hnd, hL2, hZ2, ⟨more, hm⟩, fun g' hg' => ?_⟩
        rcases List.mem_append.mp hg' with hg' | hg'
        · exact hd g' hg'
        · rw [List.mem_singleton.mp hg', hMe]
          exact hM
      · rw [if_neg hM]
        refine po_step fun K8 h8 _ _ _ => ?_
        have hnk : kk M ∉ kvs.map (·.1) := by
          rw [hkv, mem_kk]
          exact hM
        have hkl : kvs.length = L2.length := by
          have := congrArg List.length hkv
          simpa using this
        simp [-po_comp, tkey_T, pK_new hnk, show kvs.length < 16777216 by omega]
        refine h8 _ ?_
        simp [-po_comp, show L2.length < 16777216 by omega]
        refine h6 _ ⟨L2 ++ [M], kvs ++ [(kk M, .bool true)], .v (T g), .v (T M), by simp, rfl, rfl, by simp [-po_comp, hkv], ?_, fun a ha => ?_, List.mem_append_left _ hZ2, ⟨more ++ [M], by rw [hm, List.append_assoc]⟩, fun g' hg' => ?_⟩
        · rw [List.nodup_append]
          refine ⟨hnd, by simp, fun a ha b hb e => ?_⟩
          rw [List.mem_singleton.mp hb] at e
          exact hM (e ▸ ha)
        · rcases List.mem_append.mp ha with ha | ha
          · exact hL2 a ha
          · rw [List.mem_singleton.mp ha]
            exact ⟨hmth, hmlam⟩
        · rcases List.mem_append.mp hg' with hg' | hg'
          · exact List.mem_append_left _ (hd g' hg')
          · rw [List.mem_singleton.mp hg', hMe]
            exact List.mem_append_right _ (List.mem_singleton_self _)
    · rintro r ⟨L2, kvs, s5, s6, rfl, q5, q6, hkv, hnd, hL2, hZ2, ⟨more, hm⟩, hd⟩
      refine h5 _ ?_
      simp [-po_comp]
      have hL2le := hM L2 hnd hL2
      refine ⟨BB - (at_ + 1), by omega, L2, kvs, at_ + 1, s5, s6, by simp, q5, q6, hkv, hnd, hL2, hZ2, fun i hi g hg => ?_, ?_, rfl⟩
      · rcases Nat.lt_or_ge i at_ with c2 | c2
        · obtain ⟨a, ha1, ha2⟩ := hcl i c2 g hg
          refine ⟨a, ?_, ?_⟩
          · rw [hm, List.getElem?_append_left (by omega)]
            exact ha1
          · rw [hm]
            exact List.mem_append_left _ ha2
        · have : i = at_ := by omega
          subst this
          refine ⟨b, ?_, hd g hg⟩
          rw [hm, List.getElem?_append_left c']
          exact hb
      · rw [hm, List.length_append]
        omega
  · rw [if_neg c]
    refine h4 _ ?_
    have hsl : L.length ≤ 1 ∨ ∀ a ∈ L, a ≠ [] := by
      by_cases hw : h.length = 0
      · left
        have : ∀ a ∈ L, a = [] := fun a ha => List.length_eq_zero_iff.mp (by rw [(hL a ha).1.1]; exact hw)
        have hL1 := St.things_le hnd fun a ha => (hL a ha).1
        have e : St.prd h = 1 := by
          rw [List.length_eq_zero_iff.mp hw]
          rfl
        omega
      · right
        intro a ha e
        have := (hL a ha).1.1
        rw [e] at this
        exact hw this.symm
    simp [-po_comp]
    rw [sort_T L hsl]
    simp [-po_comp]
    have hpm := List.mergeSort_perm L (PySem.W.dataLe false fun a => T a)
    refine hK _ _ _ rfl ⟨L.mergeSort (PySem.W.dataLe false fun a => T a), rfl, ?_, fun x => ?_, ?_, L, rfl⟩
    · exact hpm.nodup_iff.mpr hnd
    · rw [hpm.mem_iff]
      constructor
      · exact fun hx => hL x hx
      · rintro ⟨hx1, hx2⟩
        have := St.closed_all hp (G := G) (L := L) (by rw [hz]; exact hZ) (fun a ha g hg => ?_) (fun a ha => (hL a ha).1) hx2
        · rw [St.nrm_self hx1] at this
          exact this
        · obtain ⟨i, hi, e⟩ := List.mem_iff_getElem.mp ha
          obtain ⟨a', ha1, ha2⟩ := hcl i (by omega) g hg
          rw [List.getElem?_eq_getElem hi, e] at ha1
          cases ha1
          exact ha2
    · rw [hpm.length_eq]
      exact hLle
end K45

namespace K45
open PySem Pu L2
/-! ### rows told by looking at all that things come to -/
theorem intsOf_map : ∀ xs : List Int, intsOf (xs.map .int) = some xs
  | [] => rfl
  | x :: xs => by
    show (intsOf (xs.map .int)).map (x :: ·) = _
    rw [intsOf_map xs]
    rfl
theorem sumA_t (xs : List Int) : sumAD (.tuple (xs.map .int)) = some (.int xs.sum) := by
  show (intsOf (xs.map .int)).map _ = _
  rw [intsOf_map]
  rfl
theorem sum_nn : ∀ {xs : List Int}, (∀ x ∈ xs, 0 ≤ x) → 0 ≤ xs.sum ∧ (xs.sum = 0 ↔ ∀ x ∈ xs, x = 0)
  | [], _ => by simp [-po_comp]
  | x :: xs, h => by
    obtain ⟨h1, h2⟩ := sum_nn (xs := xs) fun y hy => h y (List.mem_cons_of_mem _ hy)
    have h3 := h x (List.mem_cons_self ..)
    rw [List.sum_cons]
    refine ⟨by omega, ?_⟩
    constructor
    · intro e y hy
      rcases List.mem_cons.mp hy with rfl | hy
      · omega
      · exact h2.mp (by omega) y hy
    · intro e
      have e1 := e x (List.mem_cons_self ..)
      have e2 := h2.mpr fun y hy => e y (List.mem_cons_of_mem _ hy)
      omega
theorem take_nn {a : List Int} {k : Nat} (hk : k ≤ a.length) (h : ∀ j, j < a.length → 0 ≤ St.vec a j) : 0 ≤ (a.take k).sum ∧ ((a.take k).sum = 0 ↔ ∀ j, j < k → St.vec a j = 0) := by
  obtain ⟨h1, h2⟩ := sum_nn (xs := a.take k) fun x hx => by
    obtain ⟨i, hi, e⟩ := List.mem_iff_getElem.mp hx
    rw [List.length_take] at hi
    have := h i (by omega)
    rw [St.vec_get (by omega)] at this
    rw [List.getElem_take] at e
    rw [← e]
    exact this
  refine ⟨h1, h2.trans ?_⟩
  constructor
  · intro q j hj
    have := q (St.vec a j) (List.mem_iff_getElem.mpr ⟨j, by rw [List.length_take]; omega, by rw [List.getElem_take, ← St.vec_get (by omega)]⟩)
    exact this
  · intro q x hx
    obtain ⟨i, hi, e⟩ := List.mem_iff_getElem.mp hx
    rw [List.length_take] at hi
    have := q i (by omega)
    rw [St.vec_get (by omega)] at this
    rw [List.getElem_take] at e
    rw [← e]
    exact this
theorem at_l {a : List Int} {k : Nat} (h : k < a.length) : atI (a.map PyData.int) (k : Int) = some (.int (St.vec a k)) := by
  rw [Pu.atI_nat, List.getElem?_map, get_vec h]
  rfl
theorem eq_nil (xs : List Int) : eqD (.list (xs.map .int)) (.list []) = some (.bool (decide (xs = []))) := by
  rw [eqD_ll (shaped_t xs) rfl]
  cases xs with
  | nil => rfl
  | cons x xs => rw [SeqAt.eqvAll_other_length (by simp [-po_comp])]; simp [-po_comp]
def Fits (a F : List Int) (w k : Nat) : Prop := (∀ j, j < k → St.vec a j = 0) ∧ St.vec a k = St.vec F k ∧ ∀ j, k < j → j < w → St.vec a j < St.vec F j
theorem fits_ok {X : Exn → En → Prop} {a F : List Int} {w k : Nat} (ha : a.length = w) (hF : F.length = w) (hk : k < w) (hw : w ≤ 1000) (hnn : ∀ j, j < a.length → 0 ≤ St.vec a j) : Wp X (m__law_fits [.v (T a), .v (.int k), .v (.list (F.map .int))]) fun rv _ => ∃ B : Bool, rv = .v (.bool B) ∧ (B = true ↔ Fits a F w k) := by
  refine po_fnK fun Y K hY hK _ => ?_
  unfold b__law_fits
  obtain ⟨s0, s1⟩ := take_nn (a := a) (k := k) (by omega) hnn
  refine po_step fun K1 h1 r1 _ _ => ?_
  have e1 := at_l (a := a) (k := k) (by omega)
  have e2 := at_l (a := F) (k := k) (by omega)
  have e3 := sumA_t (a.take k)
  rw [List.map_take, ← cutL_take] at e3
  simp [-po_comp, e1, e2, e3]
  by_cases c1 : 0 < (a.take k).sum
  · rw [if_pos c1]
    refine r1 _ _ (hK _ _ _ rfl ⟨false, rfl, ?_⟩)
    simp [-po_comp]
    intro q
    have := s1.mpr q.1
    omega
  · rw [if_neg c1]
    by_cases c2 : St.vec a k = St.vec F k
    · simp [-po_comp, c2]
      refine h1 _ ?_
      simp [-po_comp]
      refine po_LF1 (f := fun j : Nat => .int ((k : Int) + 1 + (j : Int))) (g := fun j : Nat => .int ((k : Int) + 1 + (j : Int))) (p := fun j : Nat => decide (St.vec F (k + 1 + j) ≤ St.vec a (k + 1 + j))) (List.range (w - (k + 1))) ?_ rfl (by simp [-po_comp]; omega) ?_ ?_
      · simp [-po_comp, ha, rng_map]
        refine ⟨by omega, ?_⟩
        rw [show ((w : Int) - ((k : Int) + 1)).toNat = w - (k + 1) by omega]
      · intro j hj
        have hj := List.mem_range.mp hj
        have e1 := at_l (a := a) (k := k + 1 + j) (by omega)
        have e2 := at_l (a := F) (k := k + 1 + j) (by omega)
        simp only [Int.natCast_add, Int.natCast_one] at e1 e2
        simp [-po_comp, e1, e2]
      · generalize hL : (List.range (w - (k + 1))).filter (fun j => decide (St.vec F (k + 1 + j) ≤ St.vec a (k + 1 + j))) = L
        have eL : L.map (fun j : Nat => PyData.int ((k : Int) + 1 + (j : Int))) = (L.map fun j : Nat => (k : Int) + 1 + (j : Int)).map .int := by simp [-po_comp]
        simp [-po_comp]
        rw [eL, eq_nil]
        simp [-po_comp]
        refine hK _ _ _ rfl ⟨decide (L = []), by simp, ?_⟩
        rw [decide_eq_true_iff, ← hL, List.filter_eq_nil_iff]
        constructor
        · intro q
          refine ⟨s1.mp (by omega), c2, fun j h1 h2 => ?_⟩
          have := q (j - (k + 1)) (List.mem_range.mpr (by omega))
          rw [show k + 1 + (j - (k + 1)) = j by omega] at this
          simpa using this
        · rintro ⟨_, _, q⟩ j hj
          have hj := List.mem_range.mp hj
          have := q (k + 1 + j) (by omega) (by omega)
          simpa using this
    · simp [-po_comp, c2]
      refine r1 _ _ (hK _ _ _ rfl ⟨false, rfl, ?_⟩)
      simp [-po_comp]
      exact fun q => c2 q.2.1
theorem minL_ints {ns : List Int} {m : Int} (hm : m ∈ ns) (hle : ∀ x ∈ ns, m ≤ x) : minL (.list (ns.map .int)) = some (.int m) := by
  cases ns with
  | nil => cases hm
  | cons x xs =>
    have key : ∀ (xs : List Int) (x : Int), xs.foldl (fun a y => min a y) x ∈ x :: xs ∧ ∀ y ∈ x :: xs, xs.foldl (fun a y => min a y) x ≤ y := by
      intro xs
      induction xs with
      | nil => intro x; simp [-po_comp]
      | cons y ys ih =>
        intro x
        obtain ⟨h1, h2⟩ := ih (min x y)
        rw [List.foldl_cons]
        constructor
        · rcases List.mem_cons.mp h1 with e | e
          · rw [e]
            rcases Int.le_total x y with c | c
            · rw [Int.min_eq_left c]
              simp [-po_comp]
            · rw [Int.min_eq_right c]
              simp [-po_comp]
          · simp [-po_comp, e]
        · have h3 := h2 (min x y) (List.mem_cons_self ..)
          intro z hz
          rcases List.mem_cons.mp hz with rfl | hz
          · omega
          · rcases List.mem_cons.mp hz with rfl | hz
            · omega
            · exact h2 z (List.mem_cons_of_mem _ hz)
    obtain ⟨h1, h2⟩ := key xs x
    have e : xs.foldl (fun a y => min a y) x = m := by
      have := h2 m hm
      have := hle _ h1
      omega
    show (intsOf ((x :: xs).map .int)).bind _ = _
    rw [intsOf_map]
    show some (PyData.int (xs.foldl (fun a y => min a y) x)) = _
    rw [e]
/-- the things that a full stair comes to -/
structure Tells (h : List Nat) (S C : List (List Int)) : Prop where
  F : St.Full h S
  le : C.length ≤ 1000
  mem : ∀ x, x ∈ C ↔ St.Th h x ∧ St.Sl (S.map St.vec) (St.vec x)
theorem Tells.srow {h : List Nat} {S C : List (List Int)} (t : Tells h S C) (hp : ∀ n ∈ h, 1 ≤ n) {k : Nat} (hk : k < h.length) (hlt : St.foot S k < ((h.getD k 0 : Nat) : Int)) : S.getD k [] ∈ C := by
  obtain ⟨l1, l2⟩ := t.F.feet hp
  refine (t.mem _).mpr ⟨⟨t.F.len _ (St.mem_getD (by omega)), fun j hj => ?_⟩, t.F.sl hp hk⟩
  have h1 := St.getD_pos hp hj
  rcases Nat.lt_trichotomy j k with c | c | c
  · rw [(l2 k hk).1 j c]
    omega
  · subst c
    have := t.F.fpos hp hk
    exact ⟨Int.le_of_lt this, hlt⟩
  · have h2 := t.F.above hp c hj
    have h3 := (t.F.fle hp hj).2
    omega
theorem Tells.rnd {h : List Nat} {S C : List (List Int)} (t : Tells h S C) (hp : ∀ n ∈ h, 1 ≤ n) {k : Nat} (hk : k < h.length) (he : St.foot S k = ((h.getD k 0 : Nat) : Int)) : St.rnd h k = S.getD k [] := by
  obtain ⟨l1, l2⟩ := t.F.feet hp
  refine St.vec_ext ((St.rnd_len ..).trans (t.F.len _ (St.mem_getD (by omega))).symm) ?_
  refine t.F.row hp hk (t.F.rd k hk) (fun i hi => by rw [St.vec_rnd, if_neg (by omega)]) (by rw [St.vec_rnd, if_pos ⟨rfl, hk⟩, he]) fun j h1 h2 => ?_
  rw [St.vec_rnd, if_neg (by omega)]
  exact ⟨Int.le_refl _, t.F.fpos hp h2⟩
def feetL (h : List Nat) (S : List (List Int)) (i : Nat) : List Int := (List.range i).map (St.foot S)
theorem vec_feet {h : List Nat} {S : List (List Int)} {i j : Nat} (hj : j < i) : St.vec (feetL h S i) j = St.foot S j := by
  rw [St.vec_get (by simp [-po_comp, feetL]; exact hj)]
  simp [-po_comp, feetL]
theorem Tells.fits {h : List Nat} {S C : List (List Int)} (t : Tells h S C) (hp : ∀ n ∈ h, 1 ≤ n) {k : Nat} (hk : k < h.length) {a : List Int} (ha : a ∈ C) : Fits a (feetL h S h.length) h.length k ↔ a = S.getD k [] := by
  obtain ⟨l1, l2⟩ := t.F.feet hp
  obtain ⟨ha1, ha2⟩ := (t.mem a).mp ha
  constructor
  · rintro ⟨h1, h2, h3⟩
    refine St.vec_ext (ha1.1.trans (t.F.len _ (St.mem_getD (by omega))).symm) (t.F.row hp hk ha2 h1 (h2.trans (vec_feet hk)) fun j q1 q2 => ?_)
    have := h3 j q1 q2
    rw [vec_feet q2] at this
    exact ⟨(ha1.2 j q2).1, this⟩
  · rintro rfl
    refine ⟨(l2 k hk).1, (vec_feet hk).symm, fun j q1 q2 => ?_⟩
    rw [vec_feet q2]
    exact (t.F.above hp q1 q2).2
def Fz (F : List Int) (s : Sl) : Prop := s = .o (.l (F.map .int)) ∨ s = .v (.list (F.map .int))
theorem law_rows_ok {X : Exn → En → Prop} {h : List Nat} {S C : List (List Int)} (t : Tells h S C) (hp : ∀ n ∈ h, 1 ≤ n) (h6 : h.length ≤ 6) : Wp X (m__law_rows [.v (T (hI h)), .v (.list (C.map fun a => T a))]) fun rv _ => rv = .v (TT S) := by
  refine po_fnK fun Y K hY hK _ => ?_
  unfold b__law_rows
  obtain ⟨l1, l2⟩ := t.F.feet hp
  have atH : ∀ {k : Nat}, k < h.length → atI ((hI h).map PyData.int) (k : Int) = some (.int ((h.getD k 0 : Nat) : Int)) := fun {k} hk => by
    rw [Pu.atI_nat]
    unfold hI
    rw [List.map_map, List.getElem?_map, List.getElem?_eq_getElem hk, List.getD_eq_getElem?_getD, List.getElem?_eq_getElem hk]
    rfl
  refine po_step fun K1 h1 _ _ _ => ?_
  simp [-po_comp, hI_len]
  refine h1 _ ?_
  refine po_step fun K2 h2 _ _ _ => ?_
  simp [-po_comp]
  refine h2 _ ?_
  refine po_step fun K3 h3 _ _ _ => ?_
  simp [-po_comp]
  refine ⟨by omega, ?_⟩
  refine po_rngK (fun i r => ∃ s4 s5 : Sl, r = [.v (T (hI h)), .v (.list (C.map fun a => T a)), .v (.int h.length), .o (.l ((feetL h S i).map .int)), s4, s5, .unk, .unk, .unk] ∧ s4.isIo = false ∧ s5.isIo = false) h.length _ ⟨.unk, .unk, by simp [-po_comp, feetL], rfl, rfl⟩ ?_ ?_
  · rintro i r hi ⟨s4, s5, rfl, q4, q5⟩
    refine ⟨[.v (T (hI h)), .v (.list (C.map fun a => T a)), .v (.int h.length), .o (.l ((feetL h S i).map .int)), .v (.int i), s5, .unk, .unk, .unk], by simp [-po_comp, q4], fun K4 h4 _ _ _ => ?_⟩
    refine po_step fun K5 h5 _ _ _ => ?_
    simp [-po_comp]
    refine po_LF1 (f := fun a : List Int => T a) (g := fun a => .int (St.vec a i)) (p := fun a => decide (0 < St.vec a i) && decide (∀ j, j < i → St.vec a j = 0)) C ?_ rfl (by have := t.le; omega) ?_ ?_
    · simp [-po_comp]
    · intro a ha
      obtain ⟨ha1, ha2⟩ := (t.mem a).mp ha
      have e1 := at_l (a := a) (k := i) (by rw [ha1.1]; exact hi)
      have e3 := sumA_t (a.take i)
      rw [List.map_take, ← cutL_take] at e3
      obtain ⟨s0, s1⟩ := take_nn (a := a) (k := i) (by rw [ha1.1]; omega) fun j hj => (ha1.2 j (by rw [← ha1.1]; exact hj)).1
      simp [-po_comp, e1, e3]
      by_cases c1 : 0 < St.vec a i
      · simp [-po_comp, c1]
        have e : decide ((a.take i).sum = 0) = decide (∀ j, j < i → St.vec a j = 0) := decide_eq_decide.mpr s1
        by_cases c2 : (a.take i).sum = 0
        · have c3 := s1.mp c2
          simp [-po_comp, c2, e1]
          exact c3
        · have c3 := fun q => c2 (s1.mpr q)
          simp [-po_comp, c2]
          simpa using c3
      · simp [-po_comp, c1]
    · generalize hL : C.filter (fun a : List Int => decide (0 < St.vec a i) && decide (∀ j, j < i → St.vec a j = 0)) = L
      have hLm : ∀ a, a ∈ L ↔ a ∈ C ∧ 0 < St.vec a i ∧ ∀ j, j < i → St.vec a j = 0 := fun a => by
        rw [← hL, List.mem_filter, Bool.and_eq_true, decide_eq_true_iff, decide_eq_true_iff]
      have hLl : L.length ≤ 1000 := by
        rw [← hL]
        exact Nat.le_trans (List.length_filter_le ..) t.le
      have hmin : minL (.list (L.map (fun a => PyData.int (St.vec a i)) ++ [.int ((h.getD i 0 : Nat) : Int)])) = some (.int (St.foot S i)) := by
        have e : L.map (fun a => PyData.int (St.vec a i)) ++ [.int ((h.getD i 0 : Nat) : Int)] = (L.map (fun a => St.vec a i) ++ [((h.getD i 0 : Nat) : Int)]).map .int := by simp [-po_comp]
        rw [e]
        refine minL_ints ?_ fun x hx => ?_
        · by_cases c : St.foot S i < ((h.getD i 0 : Nat) : Int)
          · refine List.mem_append_left _ (List.mem_map.mpr ⟨S.getD i [], (hLm _).mpr ⟨t.srow hp hi c, (l2 i hi).2, (l2 i hi).1⟩, rfl⟩)
          · have := (t.F.fle hp hi).2
            refine List.mem_append_right _ ?_
            rw [List.mem_singleton]
            omega
        · rcases List.mem_append.mp hx with hx | hx
          · obtain ⟨a, ha, rfl⟩ := List.mem_map.mp hx
            obtain ⟨g1, g2, g3⟩ := (hLm a).mp ha
            exact Int.le_of_dvd g2 (t.F.fdvd hp hi ((t.mem a).mp g1).2 g3)
          · rw [List.mem_singleton.mp hx]
            exact (t.F.fle hp hi).2
      have eat := atH hi
      generalize hx : (((h.getD i 0 : Nat) : Int)) = xh at *
      simp [-po_comp, q5]
      refine h5 _ ?_
      simp [-po_comp, eat, hmin, hLl]
      refine ⟨by omega, by simp [-po_comp, feetL]; omega, ?_⟩
      refine h4 _ ⟨.v (.int i), .v (.list (L.map fun a => .int (St.vec a i))), ?_, rfl, rfl⟩
      simp [-po_comp, feetL, List.range_succ]
  · rintro r ⟨s4, s5, rfl, q4, q5⟩
    refine h3 _ ?_
    refine po_step fun K6 h6 _ _ _ => ?_
    simp [-po_comp]
    refine h6 _ ?_
    refine po_step fun K7 h7 _ _ _ => ?_
    simp [-po_comp]
    refine ⟨by omega, ?_⟩
    refine po_rngK (fun i r => ∃ s3 s4 s7 s8 : Sl, Fz (feetL h S h.length) s3 ∧ r = [.v (T (hI h)), .v (.list (C.map fun a => T a)), .v (.int h.length), s3, s4, s5, .o (.l (((List.range i).map fun k => S.getD k []).map fun a => T a)), s7, s8] ∧ s4.isIo = false ∧ s7.isIo = false ∧ s8.isIo = false) h.length _ ⟨_, _, .unk, .unk, .inl rfl, by simp, q4, rfl, rfl⟩ ?_ ?_
    · rintro i r hi ⟨s3, s4, s7, s8, q3, rfl, q4, q7, q8⟩
      refine ⟨[.v (T (hI h)), .v (.list (C.map fun a => T a)), .v (.int h.length), s3, .v (.int i), s5, .o (.l (((List.range i).map fun k => S.getD k []).map fun a => T a)), s7, s8], by simp [-po_comp, q4], fun K8 h8 _ _ _ => ?_⟩
      refine po_step fun K9 h9 _ _ _ => ?_
      have er : List.replicate i (PyData.int 0) ++ PyData.int ((h[i]?.getD 0 : Nat) : Int) :: List.replicate (h.length - i - 1) (PyData.int 0) = (St.rnd h i).map .int := by
        apply List.ext_getElem
        · simp [-po_comp, St.rnd]
          omega
        · intro j h1 h2
          rw [List.getElem_map]
          have hj : j < h.length := by simpa [St.rnd] using h2
          have e : (St.rnd h i)[j]'(by simpa using h2) = if j = i then ((h.getD i 0 : Nat) : Int) else 0 := by simp [-po_comp, St.rnd]
          rw [e]
          rcases Nat.lt_trichotomy j i with c | c | c
          · rw [List.getElem_append_left (by simpa using c), if_neg (by omega)]
            simp [-po_comp]
          · subst c
            rw [List.getElem_append_right (by simp [-po_comp]), if_pos rfl]
            simp [-po_comp]
          · rw [List.getElem_append_right (by simp [-po_comp]; omega), if_neg (by omega)]
            have : ∃ q, j - i = q + 1 := ⟨j - i - 1, by omega⟩
            obtain ⟨q, hq⟩ := this
            simp [-po_comp, hq]
      simp [-po_comp, atH hi]
      rw [er]
      refine ⟨by omega, by omega, by omega, by omega, ?_⟩
      simp [-po_comp, q7]
      refine h9 _ ?_
      refine po_step fun K10 h10 _ _ _ => ?_
      simp [-po_comp]
      refine po_forK (fun done r => ∃ (rr : List Int) (s3 s8 : Sl), Fz (feetL h S h.length) s3 ∧ r = [.v (T (hI h)), .v (.list (C.map fun a => T a)), .v (.int h.length), s3, .v (.int i), s5, .o (.l (((List.range i).map fun k => S.getD k []).map fun a => T a)), .v (T rr), s8] ∧ s8.isIo = false ∧ (rr = St.rnd h i ∨ rr = S.getD i []) ∧ (S.getD i [] ∈ done → rr = S.getD i [])) C _ ⟨St.rnd h i, s3, s8, q3, by simp, q8, .inl rfl, fun z => by cases z⟩ ?_ ?_
      · rintro done a rest r hs ⟨rr, s3, s8, q3, rfl, q8, hr1, hr2⟩
        have ha : a ∈ C := by rw [hs]; simp [-po_comp]
        have ha1 := ((t.mem a).mp ha).1
        refine ⟨[.v (T (hI h)), .v (.list (C.map fun a => T a)), .v (.int h.length), s3, .v (.int i), s5, .o (.l (((List.range i).map fun k => S.getD k []).map fun a => T a)), .v (T rr), .v (T a)], by simp [-po_comp, q8], fun K11 h11 _ _ _ => ?_⟩
        have hfz : ∀ k : Fl → En → Prop, (∀ B : Bool, (B = true ↔ a = S.getD i []) → if B = true then k .nx [.v (T (hI h)), .v (.list (C.map fun a => T a)), .v (.int h.length), .v (.list ((feetL h S h.length).map .int)), .v (.int i), s5, .o (.l (((List.range i).map fun k => S.getD k []).map fun a => T a)), .v (T a), .v (T a)] else k .nx [.v (T (hI h)), .v (.list (C.map fun a => T a)), .v (.int h.length), .v (.list ((feetL h S h.length).map .int)), .v (.int i), s5, .o (.l (((List.range i).map fun k => S.getD k []).map fun a => T a)), .v (T rr), .v (T a)]) → Wp Y (frz 3 (sIf (tTru (frzM (cCall m__law_fits (aCons (getS 8) (aCons (getS 4) (aCons (getS 3) aNil)))))) (sSet 7 (getS 8)) sNil) [.v (T (hI h)), .v (.list (C.map fun a => T a)), .v (.int h.length), s3, .v (.int i), s5, .o (.l (((List.range i).map fun k => S.getD k []).map fun a => T a)), .v (T rr), .v (T a)]) k := by
          intro k hk
          rcases q3 with rfl | rfl <;>
          · simp [-po_comp]
            refine po_mono (fits_ok (a := a) (F := feetL h S h.length) (w := h.length) (k := i) ha1.1 (by simp [-po_comp, feetL]) hi (by omega) fun j hj => (ha1.2 j (by rw [← ha1.1]; exact hj)).1) ?_
            rintro _ _ ⟨B, rfl, hB⟩
            have hB := hB.trans (t.fits hp hi ha)
            simp [-po_comp]
            simpa using hk B hB
        refine hfz _ fun B hB => ?_
        split
        · rename_i c
          have ea := hB.mp c
          refine h11 _ ⟨a, _, _, .inr rfl, rfl, rfl, .inr ea, fun _ => ea⟩
        · rename_i c
          have ea : ¬ a = S.getD i [] := fun z => c (hB.mpr z)
          refine h11 _ ⟨rr, _, _, .inr rfl, rfl, rfl, hr1, fun z => ?_⟩
          rcases List.mem_append.mp z with z | z
          · exact hr2 z
          · exact absurd (List.mem_singleton.mp z).symm ea
      · rintro r ⟨rr, s3, s8, q3, rfl, q8, hr1, hr2⟩
        refine h10 _ ?_
        have er : rr = S.getD i [] := by
          by_cases c : St.foot S i < ((h.getD i 0 : Nat) : Int)
          · exact hr2 (t.srow hp hi c)
          · have := (t.F.fle hp hi).2
            rcases hr1 with e | e
            · rw [e]
              exact t.rnd hp hi (by omega)
            · exact e
        simp [-po_comp]
        refine ⟨by omega, h8 _ ⟨s3, .v (.int i), .v (T rr), s8, q3, ?_, rfl, rfl, q8⟩⟩
        rw [er]
        simp [-po_comp, List.range_succ]
    · rintro r ⟨s3, s4, s7, s8, q3, rfl, q4, q7, q8⟩
      refine h7 _ ?_
      have eS : ((List.range h.length).map fun k => S.getD k []).map (fun a => T a) = S.map fun a => T a := by
        apply List.ext_getElem
        · simp [-po_comp, l1]
        · intro j h1 h2
          simp [-po_comp] at h2
          simp [-po_comp, List.getElem?_eq_getElem h2]
      rcases q3 with rfl | rfl <;>
      · simp only [eS]
        simp [-po_comp]
        exact hK _ _ _ rfl rfl
end K45

namespace K45
open PySem Pu L2
structure Hs (h : List Nat) : Prop where
  pos : ∀ n ∈ h, 1 ≤ n
  len : h.length ≤ 6
  lt : ∀ n ∈ h, n ≤ 1000000
theorem le_prd {h : List Nat} (hp : ∀ n ∈ h, 1 ≤ n) {n : Nat} (hn : n ∈ h) : n ≤ St.prd h := by
  obtain ⟨i, hi, e⟩ := List.mem_iff_getElem.mp hn
  have h1 := St.dvd_prd h i hi
  rw [List.getD_eq_getElem?_getD, List.getElem?_eq_getElem hi] at h1
  simp [-po_comp, e] at h1
  exact Nat.le_of_dvd (St.prd_pos h hp) h1
end K45

namespace K45
open PySem Pu L2
/-! ### great houses; things of order twelve -/
theorem rnd_ok {X : Exn → En → Prop} {cs : List Int} {p : Ct} (hp : PenL cs p) : Wp X (m__law_round [.io p]) fun rv z => ∃ (n : Nat) (c : Ct) (t : List Sl), rv = .v (.int n) ∧ 1 ≤ n ∧ n ≤ 1000000 ∧ z = .io c :: t ∧ PenL cs c := by
  refine po_fnK fun Y K hY hK _ => ?_
  unfold b__law_round
  refine po_step fun K1 h1 r1 _ _ => ?_
  simp [-po_comp]
  refine po_mono (draw_ok hp (by decide)) ?_
  rintro _ _ ⟨w, c, t, rfl, w0, w1, rfl, hp⟩
  simp [-po_comp]
  refine h1 _ ?_
  refine po_step fun K2 h2 r2 _ _ => ?_
  by_cases c1 : w = 0
  · simp [-po_comp, c1]
    exact r2 _ _ (hK _ _ _ rfl ⟨1, c, _, rfl, by decide, by decide, rfl, hp⟩)
  simp [-po_comp, c1]
  refine h2 _ ?_
  refine po_step fun K3 h3 r3 _ _ => ?_
  by_cases c2 : w = 1
  · simp [-po_comp, c2]
    refine po_mono (draw_ok hp (by decide)) ?_
    rintro _ _ ⟨u, c, t, rfl, u0, u1, rfl, hp⟩
    simp [-po_comp]
    refine r3 _ _ (hK _ _ _ rfl ⟨(1000000 - u).toNat, c, _, ?_, by omega, by omega, rfl, hp⟩)
    congr 2
    omega
  simp [-po_comp, c2]
  refine h3 _ ?_
  refine po_step fun K4 h4 r4 _ _ => ?_
  by_cases c3 : w = 2
  · simp [-po_comp, c3]
    refine po_mono (draw_ok hp (by decide)) ?_
    rintro _ _ ⟨u, c, t, rfl, u0, u1, rfl, hp⟩
    simp [-po_comp]
    refine r4 _ _ (hK _ _ _ rfl ⟨(1 + u).toNat, c, _, ?_, by omega, by omega, rfl, hp⟩)
    congr 2
    omega
  simp [-po_comp, c3]
  refine h4 _ ?_
  refine po_step fun K5 h5 r5 _ _ => ?_
  by_cases c4 : w < 5
  · simp [-po_comp, c4]
    refine po_mono (draw_ok hp (by decide)) ?_
    rintro _ _ ⟨u, c, t, rfl, u0, u1, rfl, hp⟩
    obtain ⟨d, e1, n, rfl, n0, n1⟩ := atI_all (P := fun d : D => ∃ n : Nat, d = .int n ∧ 1 ≤ n ∧ n ≤ 1000000) (xs := [.int 524288, .int 531441, .int 390625, .int 994009, .int 999983, .int 720720, .int 4096, .int 27, .int 8, .int 36]) (n := u) u0 (by simp [-po_comp]; omega) (by
      intro d hd
      simp only [List.mem_cons, List.not_mem_nil, or_false] at hd
      rcases hd with rfl | rfl | rfl | rfl | rfl | rfl | rfl | rfl | rfl | rfl
      · exact ⟨524288, rfl, by decide, by decide⟩
      · exact ⟨531441, rfl, by decide, by decide⟩
      · exact ⟨390625, rfl, by decide, by decide⟩
      · exact ⟨994009, rfl, by decide, by decide⟩
      · exact ⟨999983, rfl, by decide, by decide⟩
      · exact ⟨720720, rfl, by decide, by decide⟩
      · exact ⟨4096, rfl, by decide, by decide⟩
      · exact ⟨27, rfl, by decide, by decide⟩
      · exact ⟨8, rfl, by decide, by decide⟩
      · exact ⟨36, rfl, by decide, by decide⟩)
    simp [-po_comp, e1]
    exact r5 _ _ (hK _ _ _ rfl ⟨n, c, _, rfl, n0, n1, rfl, hp⟩)
  simp [-po_comp, c4]
  refine h5 _ ?_
  simp [-po_comp]
  refine po_mono (draw_ok hp (by decide)) ?_
  rintro _ _ ⟨u, c, t, rfl, u0, u1, rfl, hp⟩
  simp [-po_comp]
  refine hK _ _ _ rfl ⟨(1 + u).toNat, c, _, ?_, by omega, by omega, rfl, hp⟩
  congr 2
  omega
theorem house_ok {X : Exn → En → Prop} {cs : List Int} {p : Ct} (hp : PenL cs p) : Wp X (m__law_house [.io p]) fun rv z => ∃ (h : List Nat) (c : Ct) (t : List Sl), rv = .v (T (hI h)) ∧ Hs h ∧ z = .io c :: t ∧ PenL cs c := by
  refine po_fnK fun Y K hY hK _ => ?_
  unfold b__law_house
  simp
  refine po_mono (draw_ok hp (by decide)) ?_
  rintro _ _ ⟨w, c, t, rfl, w0, w1, rfl, hp⟩
  obtain ⟨n, rfl⟩ := Int.eq_ofNat_of_zero_le w0
  simp [-po_comp]
  refine ⟨by omega, ?_⟩
  rw [rng_map]
  refine po_compC (fun acc r => ∃ (h : List Nat) (c : Ct) (s : Sl), acc = (hI h).map .int ∧ (∀ n ∈ h, 1 ≤ n ∧ n ≤ 1000000) ∧ r = [.io c, s] ∧ PenL cs c) (List.range n) _ ⟨[], c, _, rfl, by simp, rfl, hp⟩ (by simp [-po_comp]; omega) ?_ ?_
  · rintro i acc r hi ⟨h, c, s, rfl, hh, rfl, hp⟩
    refine ⟨[.io c, .v (.int i)], by simp, fun K1 h1 => ?_⟩
    simp [-po_comp]
    refine po_mono (rnd_ok hp) ?_
    rintro _ _ ⟨m, c, t, rfl, m0, m1, rfl, hp⟩
    simp [-po_comp]
    refine h1 _ _ ⟨h ++ [m], c, _, by simp [-po_comp, hI], ?_, rfl, hp⟩
    intro x hx
    rcases List.mem_append.mp hx with hx | hx
    · exact hh x hx
    · rw [List.mem_singleton.mp hx]
      exact ⟨m0, m1⟩
  · rintro acc r hl ⟨h, c, s, rfl, hh, rfl, hp⟩
    simp [-po_comp]
    refine hK _ _ _ rfl ⟨h, c, _, rfl, ⟨fun n hn => (hh n hn).1, ?_, fun n hn => (hh n hn).2⟩, rfl, hp⟩
    simp [-po_comp, hI] at hl
    omega
theorem turning_ok {X : Exn → En → Prop} {cs : List Int} {p : Ct} {h : List Nat} (hp : PenL cs p) (H : Hs h) : Wp X (m__law_turning [.io p, .v (T (hI h))]) fun rv z => ∃ (a : List Int) (c : Ct) (t : List Sl), rv = .v (T a) ∧ St.Th h a ∧ St.Tw h a ∧ z = .io c :: t ∧ PenL cs c := by
  have H6 := H.len
  refine po_fnK fun Y K hY hK _ => ?_
  unfold b__law_turning
  refine po_step fun K1 h1 _ _ _ => ?_
  simp [-po_comp]
  refine h1 _ ?_
  refine po_step fun K2 h2 _ _ _ => ?_
  simp [-po_comp]
  have eh : (hI h).map PyData.int = h.map fun n : Nat => .int (n : Int) := by simp [-po_comp, hI]
  rw [eh]
  refine po_forK (fun done r => ∃ (a : List Int) (c : Ct) (s3 s4 s5 : Sl), r = [.io c, .v (T (hI h)), .o (.l (a.map .int)), s3, s4, s5] ∧ PenL cs c ∧ s3.isIo = false ∧ s4.isIo = false ∧ s5.isIo = false ∧ a.length = done.length ∧ ∀ k, k < done.length → (0 ≤ St.vec a k ∧ St.vec a k < ((done.getD k 0 : Nat) : Int)) ∧ ((done.getD k 0 : Nat) : Int) ∣ 12 * St.vec a k) h _ ⟨[], p, .unk, .unk, .unk, by simp [-po_comp, hI], hp, rfl, rfl, rfl, rfl, fun k hk => by simp [-po_comp] at hk⟩ ?_ ?_
  · rintro done n rest r hs ⟨a, c, s3, s4, s5, rfl, hp, q3, q4, q5, hl, ha⟩
    have hn := H.pos n (by rw [hs]; simp [-po_comp])
    have hnle := H.lt n (by rw [hs]; simp [-po_comp])
    have hdl : done.length < 6 := by
      have := congrArg List.length hs
      simp [-po_comp] at this
      omega
    refine ⟨[.io c, .v (T (hI h)), .o (.l (a.map .int)), .v (.int n), s4, s5], by simp [-po_comp, q3], fun K3 h3 _ _ _ => ?_⟩
    refine po_step fun K4 h4 _ _ _ => ?_
    simp [-po_comp]
    refine po_mono (draw_ok hp (by decide)) ?_
    rintro _ _ ⟨v, c, t, rfl, v0, v1, rfl, hp⟩
    obtain ⟨d, e1, by', rfl, y0, y1, y2⟩ := atI_all (P := fun d : D => ∃ y : Nat, d = .int y ∧ 1 ≤ y ∧ y ∣ 12 ∧ y ≤ 12) (xs := [.int 1, .int 2, .int 3, .int 4, .int 12, .int 1]) (n := v) v0 (by simp [-po_comp]; omega) (by
      intro d hd
      simp only [List.mem_cons, List.not_mem_nil, or_false] at hd
      rcases hd with rfl | rfl | rfl | rfl | rfl | rfl
      · exact ⟨1, rfl, by decide, by decide, by decide⟩
      · exact ⟨2, rfl, by decide, by decide, by decide⟩
      · exact ⟨3, rfl, by decide, by decide, by decide⟩
      · exact ⟨4, rfl, by decide, by decide, by decide⟩
      · exact ⟨12, rfl, by decide, by decide, by decide⟩
      · exact ⟨1, rfl, by decide, by decide, by decide⟩)
    simp [-po_comp, e1, q4]
    refine h4 _ ?_
    refine po_step fun K5 h5 _ _ _ => ?_
    simp [-po_comp]
    refine po_mono (draw_ok hp (by omega)) ?_
    rintro _ _ ⟨u, c, t, rfl, u0, u1, rfl, hp⟩
    obtain ⟨u, rfl⟩ := Int.eq_ofNat_of_zero_le u0
    simp [-po_comp, q5]
    refine h5 _ ?_
    have hb0 : ¬ by' = 0 := by omega
    have hdv : (n : Int).fdiv by' = ((n / by' : Nat) : Int) := fdiv_nat n by'
    have hmd : (n : Int).fmod by' = ((n % by' : Nat) : Int) := by
      rw [Int.fmod_eq_emod_of_nonneg _ (by omega)]
      rfl
    have hle : n / by' ≤ 1000000 := Nat.le_trans (Nat.div_le_self _ _) hnle
    have hdm : by' * (n / by') + n % by' = n := Nat.div_add_mod n by'
    generalize n / by' = q at *
    generalize n % by' = m at *
    have fin : ∀ y : Int, (0 ≤ y ∧ y < n) → (n : Int) ∣ 12 * y → K3 .nx [.io c, .v (T (hI h)), .o (.l (a.map .int ++ [.int y])), .v (.int n), .v (.int by'), .v (.int (u : Nat))] := by
      intro y hy hd
      refine h3 _ ⟨a ++ [y], c, .v (.int n), .v (.int by'), .v (.int (u : Nat)), by simp, hp, rfl, rfl, rfl, by simp [-po_comp, hl], fun k hk => ?_⟩
      rw [vec_snoc]
      by_cases c1 : k < a.length
      · rw [if_pos c1]
        have := ha k (by omega)
        have e : (done ++ [n]).getD k 0 = done.getD k 0 := by
          simp [-po_comp, List.getElem?_append, show k < done.length by omega]
        rw [e]
        exact this
      · have ek : k = done.length := by
          simp [-po_comp] at hk
          omega
        rw [if_neg c1, if_pos (by omega), ek]
        simp [-po_comp]
        exact ⟨hy, hd⟩
    have hm1 : mulOk (q : Int) (u : Int) := mulOk_l ⟨by omega, by omega⟩
    have hsz : a.length < 16777216 := by omega
    by_cases c1 : m = 0
    · subst c1
      have hqu : q * u ≤ q * (by' - 1) := Nat.mul_le_mul_left _ (by omega)
      have hq2 : q * (by' - 1) + q = by' * q := by
        rw [Nat.mul_sub, Nat.mul_one, Nat.mul_comm by' q]
        have : q * 1 ≤ q * by' := Nat.mul_le_mul_left _ y0
        omega
      have hq1 : 1 ≤ q := by
        rcases Nat.eq_zero_or_pos q with z | z
        · rw [z] at hdm
          omega
        · exact z
      obtain ⟨z, hz⟩ := y1
      have f9 := fin ((q * u : Nat) : Int) ⟨by omega, by omega⟩ ⟨(z : Int) * u, by
        have e3 : 12 * (q * u) = n * (z * u) := by
          have e4 : n = by' * q := by omega
          rw [e4, hz]
          grind
        have := congrArg (fun x : Nat => (x : Int)) e3
        simpa using this⟩
      simp [-po_comp] at f9
      have hm2 : mulOk ((q : Int) * (u : Int)) 1 := mulOk_r ⟨by decide, by decide⟩
      simp [-po_comp, hb0, hdv, hmd, hm1, hm2, hsz]
      exact f9
    · have f9 := fin 0 ⟨by omega, by omega⟩ (by simp [-po_comp])
      have hm2 : mulOk ((q : Int) * (u : Int)) 0 := mulOk_r ⟨by decide, by decide⟩
      have c2 : ¬ (m : Int) = 0 := by omega
      simp [-po_comp, hb0, hdv, hmd, c1, c2, hm1, hm2, hsz]
      exact f9
  · rintro r ⟨a, c, s3, s4, s5, rfl, hp, q3, q4, q5, hl, ha⟩
    refine h2 _ ?_
    simp [-po_comp]
    exact hK _ _ _ rfl ⟨a, c, _, rfl, ⟨hl, fun k hk => (ha k hk).1⟩, fun k hk => (ha k hk).2, rfl, hp⟩
end K45

namespace K45
open PySem Pu L2
theorem hI_at {h : List Nat} {k : Nat} (hk : k < h.length) : (hI h)[k]? = some ((h.getD k 0 : Nat) : Int) := by
  unfold hI
  rw [List.getElem?_map, List.getElem?_eq_getElem hk, List.getD_eq_getElem?_getD, List.getElem?_eq_getElem hk]
  rfl
theorem by_rounds_ok {X : Exn → En → Prop} {h : List Nat} {xs : List Int} (H : Hs h) (hl : xs.length = h.length) : Wp X (m_by_rounds [.v (T (hI h)), .v (.list (xs.map .int))]) fun rv _ => rv = .v (T (St.nrm h (St.vec xs))) := by
  have H6 := H.len
  refine po_fnK fun Y K hY hK _ => ?_
  unfold b_by_rounds
  simp
  refine po_compM (g := fun p : Int × Nat => PyData.int (p.1 % ((h.getD p.2 0 : Nat) : Int))) (fun r => ∃ a b, r = [.v (T (hI h)), .v (.list (xs.map .int)), a, b]) (xs.zipIdx 0) [] _ ⟨_, _, rfl⟩ (by simp [-po_comp, hl]; omega) ?_ ?_
  · rintro p hp r ⟨a, b, rfl⟩
    have e1 := List.mem_zipIdx_iff_getElem?.mp hp
    have hk : p.2 < h.length := by rw [← hl]; exact (List.getElem?_eq_some_iff.mp e1).1
    have e2 := hI_at hk
    have h1 := St.getD_pos H.pos hk
    refine ⟨[.v (T (hI h)), .v (.list (xs.map .int)), .v (.int p.2), .v (.int p.1)], by simp, ?_⟩
    generalize h.getD p.2 0 = y at *
    have h0 : ¬ (y : Int) = 0 := by omega
    simp [-po_comp, Pu.atI_nat, e2, h0]
    refine ⟨by omega, ?_⟩
    exact Int.fmod_eq_emod_of_nonneg _ (by omega)
  · rintro r ⟨a, b, rfl⟩
    simp [-po_comp]
    refine hK _ _ _ rfl ?_
    have e : (xs.zipIdx.map fun p : Int × Nat => PyData.int (p.1 % ((h.getD p.2 0 : Nat) : Int))) = (St.nrm h (St.vec xs)).map .int := by
      apply List.ext_getElem
      · simp [-po_comp, hl, St.nrm_len]
      · intro i h1 h2
        have hi : i < xs.length := by simpa using h1
        simp [-po_comp, St.nrm]
        rw [St.vec_get hi]
    simp [-po_comp] at e
    simp [-po_comp, e]
theorem nought_ok {X : Exn → En → Prop} {h : List Nat} (H : Hs h) : Wp X (m_nought [.v (T (hI h))]) fun rv _ => rv = .v (T (St.nrm h fun _ => 0)) := by
  have H6 := H.len
  refine po_fnK fun Y K hY hK _ => ?_
  unfold b_nought
  simp
  refine po_compM (g := fun _ : Int => PyData.int 0) (fun r => ∃ a, r = [.v (T (hI h)), a]) (hI h) [] _ ⟨_, rfl⟩ (by simp [-po_comp, hI_len]; omega) ?_ ?_
  · rintro x hx r ⟨a, rfl⟩
    exact ⟨[.v (T (hI h)), .v (.int x)], by simp, by simp⟩
  · rintro r ⟨a, rfl⟩
    simp [-po_comp]
    refine hK _ _ _ rfl ?_
    have e : ((hI h).map fun _ => PyData.int 0) = (St.nrm h fun _ => 0).map .int := by
      apply List.ext_getElem
      · simp [-po_comp, St.nrm_len, hI_len]
      · intro i h1 h2
        simp [-po_comp, St.nrm]
    rw [e]
theorem prd_b : ∀ {h : List Nat}, (∀ n ∈ h, n ≤ 1000000) → St.prd h ≤ 1000000 ^ h.length
  | [], _ => Nat.le_refl _
  | n :: h, hb => by
    rw [St.prd_cons, List.length_cons, Nat.pow_succ, Nat.mul_comm]
    exact Nat.mul_le_mul (prd_b fun m hm => hb m (List.mem_cons_of_mem _ hm)) (hb n (List.mem_cons_self ..))
theorem prd_lt {h : List Nat} (h6 : h.length ≤ 6) (hb : ∀ n ∈ h, n ≤ 1000000) : St.prd h < 2 ^ 200 := Nat.lt_of_le_of_lt (Nat.le_trans (prd_b hb) (Nat.pow_le_pow_right (by decide) h6)) (by decide +kernel)
theorem size_ok {X : Exn → En → Prop} {h : List Nat} (H : Hs h) : Wp X (m_size [.v (T (hI h))]) fun rv _ => rv = .v (.int (St.prd h : Nat)) := by
  have H6 := H.len
  refine po_fnK fun Y K hY hK _ => ?_
  unfold b_size
  refine po_step fun K1 h1 _ _ _ => ?_
  simp [-po_comp]
  refine h1 _ ?_
  refine po_step fun K2 h2 _ _ _ => ?_
  simp [-po_comp]
  have e : (hI h).map PyData.int = h.map fun n : Nat => PyData.int (n : Int) := by simp [-po_comp, hI]
  rw [e]
  refine po_forK (fun done r => ∃ s, r = [.v (T (hI h)), .v (.int (St.prd done : Nat)), s] ∧ s.isIo = false) h _ ⟨.unk, by simp [-po_comp, St.prd], rfl⟩ ?_ ?_
  · rintro done x rest r e ⟨s, rfl, q⟩
    have hx := H.lt x (by rw [e]; simp [-po_comp])
    have hd : St.prd done < 2 ^ 200 := prd_lt (by have := congrArg List.length e; simp [-po_comp] at this; omega) fun n hn => H.lt n (by rw [e]; simp [-po_comp, hn])
    refine ⟨[.v (T (hI h)), .v (.int (St.prd done : Nat)), .v (.int x)], by simp [-po_comp, q], fun K3 h3 _ _ _ => ?_⟩
    have m1 : mulOk (St.prd done : Int) (x : Int) := mulOk_b (b := 200) (c := 20) (by rw [Int.natAbs_natCast]; exact hd) (by rw [Int.natAbs_natCast]; exact Nat.lt_of_le_of_lt hx (by decide)) (by decide)
    simp [-po_comp, m1]
    exact h3 _ ⟨.v (.int x), by rw [prd_snoc]; simp, rfl⟩
  · rintro r ⟨s, rfl, q⟩
    refine h2 _ ?_
    simp [-po_comp]
    exact hK _ _ _ rfl rfl
/-- how many things a part has -/
theorem part_size_ok {X : Exn → En → Prop} {h : List Nat} {S : List (List Int)} (H : Hs h) (F : St.Full h S) : Wp X (m_part_size [.v (T (hI h)), .v (TT S)]) fun rv _ => rv = .v (.int ((St.acc h S h.length).length : Nat)) := by
  have H6 := H.len
  obtain ⟨l1, l2⟩ := F.feet H.pos
  refine po_fnK fun Y K hY hK _ => ?_
  unfold b_part_size
  refine po_step fun K1 h1 _ _ _ => ?_
  simp [-po_comp]
  refine po_mono (size_ok H) ?_
  rintro _ _ rfl
  simp [-po_comp]
  refine h1 _ ?_
  refine po_step fun K2 h2 _ _ _ => ?_
  simp [-po_comp]
  refine po_forK (fun done r => ∃ s3 s4, r = [.v (T (hI h)), .v (TT S), .v (.int (((St.acc h S done.length).length * St.prd (h.drop done.length) : Nat) : Int)), s3, s4] ∧ s3.isIo = false ∧ s4.isIo = false) (S.zipIdx 0) _ ⟨.unk, .unk, by simp [-po_comp, St.acc], rfl, rfl⟩ ?_ ?_
  · rintro done p rest r e ⟨s3, s4, rfl, q3, q4⟩
    have hk : done.length < S.length := by
      have := congrArg List.length e
      simp [-po_comp] at this
      omega
    have ep : p = (S.getD done.length [], done.length) := by
      have h1 : (S.zipIdx 0)[done.length]? = some p := by rw [e, List.getElem?_append_right (Nat.le_refl _)]; simp [-po_comp]
      rw [List.getElem?_zipIdx, List.getElem?_eq_getElem hk] at h1
      have h2 := (Option.some.inj h1).symm
      rw [h2, List.getD_eq_getElem?_getD, List.getElem?_eq_getElem hk]
      simp [-po_comp]
    subst ep
    generalize hkk : done.length = k at *
    have hkh : k < h.length := by omega
    refine ⟨[.v (T (hI h)), .v (TT S), .v (.int (((St.acc h S k).length * St.prd (h.drop k) : Nat) : Int)), .v (.int k), .v (T (S.getD k []))], by simp [-po_comp, q3, q4], fun K3 h3 _ _ _ => ?_⟩
    obtain ⟨e1, f1, e2, g1⟩ := F.quo_eq H.pos hkh
    have er : (S.getD k [])[k]? = some (St.foot S k) := by
      rw [List.getElem?_eq_getElem (by rw [F.len _ (St.mem_getD (by omega))]; exact hkh), ← St.vec_get]
      rfl
    have ed : ((((St.acc h S k).length * St.prd (h.drop k) : Nat) : Int)).fdiv (St.foot S k) = (((St.acc h S (k + 1)).length * St.prd (h.drop (k + 1)) : Nat) : Int) := by
      rw [e1, St.prd_drop hkh, St.acc_len, e2]
      generalize (St.foot S k).toNat = f at *
      rw [fdiv_nat]
      congr 1
      rw [show (St.acc h S k).length * (St.quo h S k * f * St.prd (h.drop (k + 1))) = f * (St.quo h S k * (St.acc h S k).length * St.prd (h.drop (k + 1))) by grind]
      exact Nat.mul_div_cancel_left _ (by omega)
    generalize St.foot S k = f at *
    have f0 : ¬ f = 0 := by omega
    generalize S.getD k [] = row at *
    simp [-po_comp, Pu.atI_nat, er, f0]
    simp [-po_comp] at ed
    rw [ed]
    refine h3 _ ⟨.v (.int k), .v (T row), by simp [-po_comp, hkk], rfl, rfl⟩
  · rintro r ⟨s3, s4, rfl, q3, q4⟩
    refine h2 _ ?_
    simp [-po_comp]
    refine hK _ _ _ rfl ?_
    simp [-po_comp, l1, St.prd]
end K45

namespace K45
open PySem Pu L2
theorem things_bad {X : Exn → En → Prop} {kk : RV → List Sl → Prop} {h : List Nat} {S : List (List Int)} (H : Hs h) (F : St.Full h S) (hn : 400 < (St.acc h S h.length).length) (hX : ∀ z, X ⟨"TooGreat", []⟩ z) : Wp X (m_things_in [.v (T (hI h)), .v (TT S)]) kk := by
  refine po_fnK fun Y K hY hK _ => ?_
  unfold b_things_in
  refine po_step fun K1 h1 r1 _ _ => ?_
  simp [-po_comp]
  refine po_mono (part_size_ok H F) ?_
  rintro _ _ rfl
  simp [-po_comp]
  have : ((St.acc h S h.length).length : Int) > 400 := by omega
  simp [-po_comp, this]
  exact hY _ _ _ rfl (hX _)
theorem full_b {h : List Nat} {S : List (List Int)} (H : Hs h) (F : St.Full h S) : ∀ r ∈ S, ∀ e ∈ r, 0 ≤ e ∧ e ≤ 1000000 := by
  obtain ⟨l1, l2⟩ := F.feet H.pos
  intro r hr e he
  have hlr := F.len r hr
  obtain ⟨k, hk, rfl⟩ := List.mem_iff_getElem.mp hr
  obtain ⟨j, hj, rfl⟩ := List.mem_iff_getElem.mp he
  have hj2 : j < h.length := by rw [← hlr]; exact hj
  have hk2 : k < h.length := by omega
  have e1 : S.getD k [] = S[k] := by rw [List.getD_eq_getElem?_getD, List.getElem?_eq_getElem hk]; rfl
  rw [← St.vec_get hj, ← e1]
  have hlt := H.lt _ (show h.getD j 0 ∈ h from by
    rw [List.getD_eq_getElem?_getD, List.getElem?_eq_getElem hj2]
    exact List.getElem_mem hj2)
  have hf := (F.fle H.pos hj2).2
  have hp := F.fpos H.pos hj2
  rcases Nat.lt_trichotomy j k with c | c | c
  · rw [(l2 k hk2).1 j c]
    omega
  · subst c
    have e2 : St.vec (S.getD j []) j = St.foot S j := rfl
    omega
  · have := F.above H.pos c hj2
    omega
theorem enum_at {S : List (List Int)} {done rest : List (List Int × Nat)} {p : List Int × Nat} (e : S.zipIdx 0 = done ++ p :: rest) : done.length < S.length ∧ p = (S.getD done.length [], done.length) := by
  have hk : done.length < S.length := by
    have := congrArg List.length e
    simp [-po_comp] at this
    omega
  refine ⟨hk, ?_⟩
  have h1 : (S.zipIdx 0)[done.length]? = some p := by rw [e, List.getElem?_append_right (Nat.le_refl _)]; simp [-po_comp]
  rw [List.getElem?_zipIdx, List.getElem?_eq_getElem hk] at h1
  have h2 := (Option.some.inj h1).symm
  rw [h2, List.getD_eq_getElem?_getD, List.getElem?_eq_getElem hk]
  simp [-po_comp]
theorem acc_le {h : List Nat} {S : List (List Int)} (H : Hs h) (F : St.Full h S) {k : Nat} : ∀ n, k + n ≤ h.length → (St.acc h S k).length ≤ (St.acc h S (k + n)).length
  | 0, _ => Nat.le_refl _
  | n + 1, hn => by
    have := acc_le H F n (k := k) (by omega)
    rw [← Nat.add_assoc, St.acc_len]
    obtain ⟨_, _, _, q⟩ := F.quo_eq H.pos (k := k + n) (by omega)
    exact Nat.le_trans this (Nat.le_mul_of_pos_left _ q)
theorem flat_len (m : Nat) (L : List (List Int)) (g : Nat → List Int → List Int) : ((List.range m).flatMap fun m => L.map fun a => g m a).length = m * L.length := by
  rw [List.length_flatMap]
  simp only [List.length_map]
  generalize L.length = c
  induction m with
  | zero => simp [-po_comp]
  | succ n ih =>
    rw [List.range_succ, List.map_append, List.sum_append, ih]
    simp [-po_comp]
    rw [Nat.add_mul]
    omega
theorem acc_so {h : List Nat} {S : List (List Int)} (H : Hs h) (F : St.Full h S) : (St.acc h S h.length).length ≤ 1 ∨ ∀ a ∈ St.acc h S h.length, a ≠ [] := by
  cases h with
  | nil => exact .inl (by simp [-po_comp, St.acc])
  | cons n h =>
    refine .inr fun a ha e => ?_
    have := (St.acc_in F H.pos _ (Nat.le_refl _) a ha).1.1
    rw [e] at this
    simp [-po_comp] at this
theorem things_ok {X : Exn → En → Prop} {h : List Nat} {S : List (List Int)} (H : Hs h) (F : St.Full h S) (hn : (St.acc h S h.length).length ≤ 400) : Wp X (m_things_in [.v (T (hI h)), .v (TT S)]) fun rv _ => rv = .o (.l (((St.acc h S h.length).mergeSort fun p q => decide (p ≤ q)).map fun a => T a)) := by
  have H6 := H.len
  obtain ⟨l1, l2⟩ := F.feet H.pos
  refine po_fnK fun Y K hY hK _ => ?_
  unfold b_things_in
  refine po_step fun K1 h1 r1 _ _ => ?_
  simp [-po_comp]
  refine po_mono (part_size_ok H F) ?_
  rintro _ _ rfl
  simp [-po_comp]
  have : ¬ ((St.acc h S h.length).length : Int) > 400 := by omega
  simp [-po_comp, this]
  refine h1 _ ?_
  refine po_step fun K2 h2 _ _ _ => ?_
  simp [-po_comp]
  refine po_mono (nought_ok H) ?_
  rintro _ _ rfl
  simp [-po_comp]
  refine h2 _ ?_
  refine po_step fun K3 h3 _ _ _ => ?_
  simp [-po_comp]
  refine po_forK (fun done r => ∃ s3 s4 s5 s6 s7 , r = [.v (T (hI h)), .v (TT S), .o (.l ((St.acc h S done.length).map fun a => T a)), s3, s4, s5, s6, s7, .unk, .unk, .unk] ∧ s3.isIo = false ∧ s4.isIo = false ∧ s5.isIo = false ∧ s6.isIo = false ∧ s7.isIo = false) (S.zipIdx 0) _ ⟨.unk, .unk, .unk, .unk, .unk, by simp [-po_comp, St.acc], rfl, rfl, rfl, rfl, rfl⟩ ?_ ?_
  · rintro done p rest r e ⟨s3, s4, s5, s6, s7, rfl, q3, q4, q5, q6, q7⟩
    obtain ⟨hk, rfl⟩ := enum_at e
    generalize hkk : done.length = k at *
    have hkh : k < h.length := by omega
    have hle := acc_le H F (k := k) (h.length - k) (by omega)
    rw [show k + (h.length - k) = h.length by omega] at hle
    refine ⟨[.v (T (hI h)), .v (TT S), .o (.l ((St.acc h S k).map fun a => T a)), .v (.int k), .v (T (S.getD k [])), s5, s6, s7, .unk, .unk, .unk], by simp [-po_comp, q3, q4], fun K4 h4 _ _ _ => ?_⟩
    obtain ⟨e1, f1, e2, g1⟩ := F.quo_eq H.pos hkh
    have hlr := F.len _ (St.mem_getD (S := S) (k := k) (by omega))
    have er : (S.getD k [])[k]? = some (St.foot S k) := by
      rw [List.getElem?_eq_getElem (by rw [hlr]; exact hkh), ← St.vec_get]
      rfl
    have eh := hI_at hkh
    have hrb := full_b H F _ (St.mem_getD (S := S) (k := k) (by omega))
    have hq6 : St.quo h S k ≤ 1000000 := Nat.le_trans (Nat.div_le_self _ _) (H.lt _ (by
      rw [List.getD_eq_getElem?_getD, List.getElem?_eq_getElem hkh]
      exact List.getElem_mem hkh))
    have hlen := St.acc_len (h := h) (S := S) k
    have hle2 := acc_le H F (k := k + 1) (h.length - (k + 1)) (by omega)
    rw [show k + 1 + (h.length - (k + 1)) = h.length by omega] at hle2
    have hq : (((h.getD k 0 : Nat) : Int)).fdiv (St.foot S k) = ((St.quo h S k : Nat) : Int) := by
      rw [e1, fdiv_nat]
      rfl
    have hacc : St.acc h S (k + 1) = (List.range (St.quo h S k)).flatMap fun m => (St.acc h S k).map fun a => St.add' h a m (S.getD k []) := rfl
    have hin := St.acc_in F H.pos k (by omega)
    generalize hyy : h.getD k 0 = y at *
    generalize hff : St.foot S k = f at *
    generalize hqq : St.quo h S k = q at *
    have f0 : ¬ f = 0 := by omega
    generalize hrow : S.getD k [] = row at *
    refine po_step fun K5 h5 _ _ _ => ?_
    simp [-po_comp, q5]
    refine h5 _ ?_
    refine po_step fun K6 h6 _ _ _ => ?_
    simp [-po_comp, Pu.atI_nat, er, eh, f0, hq]
    refine ⟨by omega, ?_⟩
    refine po_rngK (fun m r => ∃ s2 s6 s7, r = [.v (T (hI h)), .v (TT S), s2, .v (.int k), .v (T row), .o (.l (((List.range m).flatMap fun m => (St.acc h S k).map fun a => St.add' h a m row).map fun a => T a)), s6, s7, .unk, .unk, .unk] ∧ (s2 = .o (.l ((St.acc h S k).map fun a => T a)) ∨ s2 = .v (.list ((St.acc h S k).map fun a => T a))) ∧ s6.isIo = false ∧ s7.isIo = false) _ _ ⟨_, s6, s7, by simp, .inl rfl, q6, q7⟩ ?_ ?_
    · rintro m r hm ⟨s2, s6, s7, rfl, hs2, q6, q7⟩
      refine ⟨[.v (T (hI h)), .v (TT S), s2, .v (.int k), .v (T row), .o (.l (((List.range m).flatMap fun m => (St.acc h S k).map fun a => St.add' h a m row).map fun a => T a)), .v (.int m), s7, .unk, .unk, .unk], by simp [-po_comp, q6], fun K7 h7 _ _ _ => ?_⟩
      refine po_step fun K8 h8 _ _ _ => ?_
      simp [-po_comp]
      refine po_LC1 (f := .int) (g := fun z : Int => .int ((m : Int) * z)) row (by simp [-po_comp]) (by simp [-po_comp, noOwn_cons]) (by rw [hlr]; omega) ?_ ?_
      · intro z hz
        have hb := hrb z hz
        have m1 : mulOk (m : Int) z := mulOk_b (b := 20) (c := 20) (by rw [Int.natAbs_natCast]; exact Nat.lt_of_lt_of_le hm (Nat.le_trans hq6 (by decide))) (Nat.lt_of_le_of_lt (m := 1000000) (by omega) (by decide)) (by decide)
        simp [-po_comp, m1]
      simp [-po_comp, q7]
      refine h8 _ ?_
      have hlm : (((List.range m).flatMap fun m => (St.acc h S k).map fun a => St.add' h a m row).length) + (St.acc h S k).length ≤ 16777216 := by
        have e3 := flat_len m (St.acc h S k) fun m a => St.add' h a m row
        have e4 : m * (St.acc h S k).length ≤ q * (St.acc h S k).length := Nat.mul_le_mul_right _ (by omega)
        omega
      obtain ⟨more, hmore⟩ : ∃ more, more = (List.range m).flatMap fun m => (St.acc h S k).map fun a => St.add' h a m row := ⟨_, rfl⟩
      rw [← hmore] at hlm ⊢
      have fin : K7 .nx [.v (T (hI h)), .v (TT S), .v (.list ((St.acc h S k).map fun a => T a)), .v (.int k), .v (T row), .o (.l (more.map (fun a => T a) ++ (St.acc h S k).map fun a => T (St.add' h a m row))), .v (.int m), .v (.list (row.map fun z => .int ((m : Int) * z))), .unk, .unk, .unk] := by
        refine h7 _ ⟨.v (.list ((St.acc h S k).map fun a => T a)), .v (.int m), .v (.list (row.map fun z => .int ((m : Int) * z))), ?_, .inr rfl, rfl, rfl⟩
        rw [hmore, List.range_succ, List.flatMap_append]
        simp [-po_comp]
      rcases hs2 with rfl | rfl <;> simp [-po_comp]
      all_goals
        refine po_LC1 (f := fun a => T a) (g := fun a => T (St.add' h a m row)) (St.acc h S k) (by simp [-po_comp]) (by simp [-po_comp, noOwn_cons]) (by omega) ?_ ?_
        · intro a ha
          have hal := (hin a ha).1.1
          simp [-po_comp]
          refine po_LC1 (f := fun i : Nat => .int i) (g := fun i : Nat => .int (St.vec a i + (m : Int) * St.vec row i)) (List.range h.length) (by simp [-po_comp, rng_map, hal]; omega) (by simp [-po_comp, noOwn_cons]) (by simp [-po_comp]; omega) ?_ ?_
          · intro i hi
            have hi := List.mem_range.mp hi
            have e5 : a[i]? = some (St.vec a i) := by rw [St.vec_get (by omega), List.getElem?_eq_getElem (by omega)]
            have e6 : row[i]? = some (St.vec row i) := by rw [St.vec_get (by omega), List.getElem?_eq_getElem (by omega)]
            generalize St.vec a i = x at *
            generalize St.vec row i = z at *
            simp [-po_comp, Pu.atI_nat, e5, e6]
          simp [-po_comp]
          have e7 : (List.range h.length).map (fun i : Nat => PyData.int (St.vec a i + (m : Int) * St.vec row i)) = ((List.range h.length).map fun i : Nat => St.vec a i + (m : Int) * St.vec row i).map .int := by simp [-po_comp]
          rw [e7]
          refine po_mono (by_rounds_ok H (by simp [-po_comp])) ?_
          rintro _ _ rfl
          simp [-po_comp]
          have e8 : St.nrm h (St.vec ((List.range h.length).map fun i : Nat => St.vec a i + (m : Int) * St.vec row i)) = St.add' h a m row := St.nrm_ext fun i hi => by
            rw [St.vec_get (by simpa using hi)]
            simp [-po_comp]
          simp [-po_comp, e8]
        simp [-po_comp]
        exact ⟨hlm, fin⟩
    · rintro r ⟨s2, s6, s7, rfl, hs2, q6, q7⟩
      have q2 : s2.isIo = false := by rcases hs2 with rfl | rfl <;> rfl
      refine h6 _ ?_
      simp [-po_comp, q2]
      exact h4 _ ⟨.v (.int k), .v (T row), .unk, s6, s7, by simp [-po_comp, hkk, hacc], rfl, rfl, rfl, q6, q7⟩
  · rintro r ⟨s3, s4, s5, s6, s7, rfl, q3, q4, q5, q6, q7⟩
    refine h3 _ ?_
    simp [-po_comp]
    rw [l1, sort_T (St.acc h S h.length) (acc_so H F)]
    simp [-po_comp]
    refine hK _ _ _ rfl ?_
    rw [dataLe_Tr]
end K45

namespace K45
open PySem Pu L2
theorem b_TooGreat_NoThing : isB "TooGreat" "NoThing" = false := by decide +kernel
theorem b_TooGreat_TooGreat : isB "TooGreat" "TooGreat" = true := by decide +kernel
theorem b_TooGreat_Endless : isB "TooGreat" "Endless" = false := by decide +kernel
theorem b_TooGreat_NoPaper : isB "TooGreat" "NoPaper" = false := by decide +kernel
theorem b_TooGreat_NoFit : isB "TooGreat" "NoFit" = false := by decide +kernel
theorem b_TooGreat_NoTable : isB "TooGreat" "NoTable" = false := by decide +kernel
theorem b_TooGreat_NoText : isB "TooGreat" "NoText" = false := by decide +kernel
theorem b_TooGreat_NoName : isB "TooGreat" "NoName" = false := by decide +kernel
theorem b_TooGreat_NoRow : isB "TooGreat" "NoRow" = false := by decide +kernel
theorem cnt_1 : countD (.list [PyData.bool false, PyData.bool true, PyData.bool false, PyData.bool false, PyData.bool false, PyData.bool false, PyData.bool false, PyData.bool false, PyData.bool false]) (.bool true) = some (.int 1) := by
  rw [countD_l _ _ ⟨rfl, rfl⟩]
  rfl
theorem idx_1 : indexD (.list [PyData.bool false, PyData.bool true, PyData.bool false, PyData.bool false, PyData.bool false, PyData.bool false, PyData.bool false, PyData.bool false, PyData.bool false]) (.bool true) = some (.int 1) := by
  rw [indexD_l _ _ ⟨rfl, rfl⟩]
  rfl
theorem word_great {X : Exn → En → Prop} : Wp X (m__law_word [.v (.dict [(.str "TooGreat", .none)])]) fun rv _ => rv = .v (.str "great") := by
  refine po_fnK fun Y K hY hK _ => ?_
  unfold b__law_word
  refine po_step fun K1 h1 _ _ _ => ?_
  simp [-po_comp, b_TooGreat_NoThing, b_TooGreat_TooGreat, b_TooGreat_Endless]
  refine h1 _ ?_
  refine po_step fun K2 h2 _ _ _ => ?_
  simp [-po_comp, b_TooGreat_NoPaper, b_TooGreat_NoFit, b_TooGreat_NoTable]
  refine h2 _ ?_
  refine po_step fun K3 h3 _ _ _ => ?_
  simp [-po_comp, b_TooGreat_NoText, b_TooGreat_NoName, b_TooGreat_NoRow]
  refine h3 _ ?_
  refine po_step fun K4 h4 _ _ _ => ?_
  have hx : Str.ofString "TooGreat" ∈ xn := by decide +kernel
  simp [-po_comp, cnt_1, hx]
  refine h4 _ ?_
  simp [-po_comp, idx_1]
  exact ⟨.str "great", rfl, hK _ _ _ rfl rfl⟩
theorem heard_great {k : Fl → En → Prop} (h : ∀ r, k (.rt (.v (.str "great"))) r) : Wp (fun _ _ => False) (b__law_heard [.unk, .v (.dict [(.str "TooGreat", .none)]), .unk]) k := by
  unfold b__law_heard
  refine po_step fun K1 h1 _ _ _ => ?_
  simp [-po_comp]
  refine h1 _ ?_
  simp [-po_comp]
  refine po_mono word_great ?_
  rintro _ _ rfl
  exact h _

theorem rq_Tm {r : List Int} (hl : r.length ≤ 6) (h : ∀ e ∈ r, e.natAbs < 2 ^ 1900) : Rq 2 6 (T r) := by
  have := Rq.tup (dp := 1) (bk := 0) (n := 6) (ds := r.map .int) (by simpa using hl) fun d hd => by
    obtain ⟨e, he, rfl⟩ := List.mem_map.mp hd
    exact Rq.int (h e he)
  exact this
theorem repr_ts {h : List Nat} {L : List (List Int)} (H : Hs h) (hl : L.length ≤ 400) (hL : ∀ a ∈ L, St.Th h a) : ∃ x, reprD (.list (L.map fun a => T a)) = some (.str x) := by
  refine (Rq.lst (dp := 2) (bk := 6) (n := 400) (ds := L.map fun a => T a) (by simpa using hl) fun d hd => ?_).repr (by decide) (by decide)
  obtain ⟨a, ha, rfl⟩ := List.mem_map.mp hd
  have t := hL a ha
  refine rq_Tm (by rw [t.1]; exact H.len) fun e he => ?_
  obtain ⟨k, hk, rfl⟩ := List.mem_iff_getElem.mp he
  have hk2 : k < h.length := by rw [← t.1]; exact hk
  have := t.2 k hk2
  rw [St.vec_get hk] at this
  have := H.lt (h.getD k 0) (by
    rw [List.getD_eq_getElem?_getD, List.getElem?_eq_getElem hk2]
    exact List.getElem_mem hk2)
  exact Nat.lt_of_le_of_lt (m := 1000000) (by omega) (by decide +kernel)
/-- the things of a part, rising -/
structure Due (h : List Nat) (S L : List (List Int)) : Prop where
  nd : L.Nodup
  so : L.Pairwise (· ≤ ·)
  mem : ∀ x, x ∈ L ↔ St.Th h x ∧ St.Sl (S.map St.vec) (St.vec x)
theorem Due.eq {h : List Nat} {S L : List (List Int)} (d : Due h S L) (H : Hs h) (F : St.Full h S) : (St.acc h S h.length).mergeSort (fun p q => decide (p ≤ q)) = L :=
  sort_uniq d.so (St.acc_nd F H.pos _ (Nat.le_refl _)) d.nd fun x => (St.acc_mem F H.pos x).trans (d.mem x).symm
theorem Due.len {h : List Nat} {S L : List (List Int)} (d : Due h S L) (H : Hs h) (F : St.Full h S) : (St.acc h S h.length).length = L.length := by
  rw [← d.eq H F, List.length_mergeSort]
theorem told_ok {X : Exn → En → Prop} {h : List Nat} {S L : List (List Int)} (H : Hs h) (F : St.Full h S) (d : Due h S L) (hl : L.length ≤ 100000) : Wp X (m__law_told [.v (T (hI h)), .v (TT S), .v (.list (L.map fun a => T a))]) fun rv _ => rv = .v (.bool true) := by
  have el := d.len H F
  refine po_fnK fun Y K hY hK _ => ?_
  unfold b__law_told
  refine po_step fun K1 h1 r1 _ _ => ?_
  simp [-po_comp]
  refine po_rngK (fun m r => ∃ s3 s4, r = [.v (T (hI h)), .v (TT S), .v (.list (L.map fun a => T a)), s3, s4] ∧ s3.isIo = false ∧ s4.isIo = false) 2 _ ⟨.unk, .unk, rfl, rfl, rfl⟩ ?_ ?_
  · rintro m r hm ⟨s3, s4, rfl, q3, q4⟩
    refine ⟨[.v (T (hI h)), .v (TT S), .v (.list (L.map fun a => T a)), .v (.int m), s4], by simp [-po_comp, q3], fun K2 h2 _ _ _ => ?_⟩
    refine po_step fun K3 h3 _ _ _ => ?_
    simp [-po_comp]
    refine po_mono (part_size_ok H F) ?_
    rintro _ _ rfl
    rw [el]
    obtain ⟨x, hx⟩ := (Rq.int (i := ((L.length : Nat) : Int)) (Nat.lt_of_le_of_lt (m := 100000) (by omega) (by decide +kernel))).repr (by decide) (by decide)
    simp [-po_comp, hx]
    refine h3 _ ?_
    simp [-po_comp]
    by_cases c : 400 < L.length
    · rw [if_pos (by omega)]
      refine things_bad H F (by omega) fun z => ?_
      simp [-po_comp]
      refine heard_great fun r => ?_
      simp [-po_comp]
      exact h2 _ ⟨_, _, rfl, rfl, q4⟩
    · rw [if_neg (by omega)]
      refine po_step fun K4 h4 _ _ _ => ?_
      simp [-po_comp]
      refine po_mono (things_ok H F (by omega)) ?_
      rintro _ _ rfl
      rw [d.eq H F]
      simp [-po_comp, q4]
      refine h4 _ ?_
      refine po_step fun K5 h5 _ _ _ => ?_
      obtain ⟨y, hy⟩ := repr_ts H (L := L) (by omega) fun a ha => ((d.mem a).mp ha).1
      simp [-po_comp, hy]
      refine h5 _ ?_
      refine po_step fun K6 h6 _ _ _ => ?_
      simp [-po_comp]
      refine h6 _ ?_
      simp [-po_comp]
      refine ⟨by omega, h2 _ ⟨_, _, rfl, rfl, rfl⟩⟩
  · rintro r ⟨s3, s4, rfl, q3, q4⟩
    refine h1 _ ?_
    simp [-po_comp]
    exact hK _ _ _ rfl rfl
theorem Clo.due {BB : Nat} {h : List Nat} {A C S : List (List Int)} (c : Clo BB h A C) (hS : ∀ x, St.Sl (S.map St.vec) x ↔ St.Lam h A x) : Due h S C := by
  refine ⟨c.nd, ?_, fun x => (c.mem x).trans ⟨fun q => ⟨q.1, (hS _).mpr q.2⟩, fun q => ⟨q.1, (hS _).mp q.2⟩⟩⟩
  obtain ⟨L, e⟩ := c.so
  rw [e, dataLe_Tr]
  exact sort_so L
theorem small_right_ok {X : Exn → En → Prop} {cs : List Int} {p : Ct} (hp : PenL cs p) : Wp X (m__law_small_right [.io p]) fun rv z => ∃ (c : Ct) (t : List Sl), rv = .v (.bool true) ∧ z = .io c :: t ∧ PenL cs c := by
  refine po_fnK fun Y K hY hK _ => ?_
  unfold b__law_small_right
  refine po_step fun K1 h1 _ _ _ => ?_
  simp [-po_comp]
  refine po_mono (small_ok hp (by decide : 1 ≤ 60)) ?_
  rintro _ _ ⟨hs, c, t, rfl, g1, g2, g3, rfl, hp⟩
  have H : Hs hs := ⟨g2, g1, fun n hn => Nat.le_trans (le_prd g2 hn) (Nat.le_trans g3 (by decide))⟩
  simp [-po_comp]
  refine h1 _ ?_
  refine po_step fun K5 h5 _ _ _ => ?_
  simp
  refine po_mono (draw_ok hp (by decide)) ?_
  rintro _ _ ⟨n, c, t, rfl, n0, n1, rfl, hp⟩
  obtain ⟨n, rfl⟩ := Int.eq_ofNat_of_zero_le n0
  simp [-po_comp]
  refine ⟨by omega, ?_⟩
  rw [rng_map]
  refine po_compC (fun acc r => ∃ (A : List (List Int)) (c : Ct) (s : Sl), acc = A.map (fun a => T a) ∧ (∀ a ∈ A, St.Th hs a) ∧ r = [.io c, .v (T (hI hs)), .unk, .unk, s] ∧ PenL cs c) (List.range n) _ ⟨[], c, _, rfl, by simp, rfl, hp⟩ (by simp [-po_comp]; omega) ?_ ?_
  · rintro j acc r hj ⟨A, c, s, rfl, hA, rfl, hp⟩
    refine ⟨[.io c, .v (T (hI hs)), .unk, .unk, .v (.int j)], by simp, fun K6 h6 => ?_⟩
    simp [-po_comp]
    refine po_mono (thing_ok hp H.pos H.len) ?_
    rintro _ _ ⟨a, c, t, rfl, ha, rfl, hp⟩
    simp [-po_comp]
    refine h6 _ _ ⟨A ++ [a], c, _, by simp, fun b hb => ?_, rfl, hp⟩
    rcases List.mem_append.mp hb with hb | hb
    · exact hA b hb
    · rw [List.mem_singleton.mp hb]
      exact ha
  · rintro acc r hl ⟨A, c, s, rfl, hA, rfl, hp⟩
    simp [-po_comp]
    refine h5 _ ?_
    refine po_step fun K6 h6 _ _ _ => ?_
    simp [-po_comp]
    refine po_mono (closure_ok H.pos H.len hA (fun L hn hL => Nat.le_trans (St.things_le hn fun a ha => (hL a ha).1) g3) (by decide)) ?_
    rintro _ _ ⟨C, rfl, hC⟩
    obtain ⟨S, FS, hS⟩ := St.lam_ex H.pos (A := A) fun a ha => (hA a ha).1
    have tl : Tells hs S C := ⟨FS, Nat.le_trans hC.le (by decide), fun x => (hC.mem x).trans ⟨fun q => ⟨q.1, (hS _).mpr q.2⟩, fun q => ⟨q.1, (hS _).mp q.2⟩⟩⟩
    simp [-po_comp]
    refine h6 _ ?_
    simp [-po_comp]
    refine po_mono (law_rows_ok tl H.pos H.len) ?_
    rintro _ _ rfl
    simp [-po_comp]
    refine po_mono (told_ok H FS (hC.due hS) (Nat.le_trans hC.le (by decide))) ?_
    rintro _ _ rfl
    exact hK _ _ _ rfl ⟨c, _, rfl, rfl, hp⟩
end K45

namespace K45
open PySem Pu L2
/-- rows of feet, numbers above feet in row i -/
def dgr (f : List Nat) (w i : Nat) (n : Nat → Int) (k : Nat) : List Int := (List.range w).map fun j => if j = k then ((f.getD k 0 : Nat) : Int) else if k = i ∧ i < j then n j else 0
def dgR (f : List Nat) (w i : Nat) (n : Nat → Int) : List (List Int) := (List.range w).map (dgr f w i n)
theorem dgr_len (f : List Nat) (w i : Nat) (n : Nat → Int) (k : Nat) : (dgr f w i n k).length = w := by simp [-po_comp, dgr]
theorem dgR_len (f : List Nat) (w i : Nat) (n : Nat → Int) : (dgR f w i n).length = w := by simp [-po_comp, dgR]
theorem dgr_vec (f : List Nat) (w i : Nat) (n : Nat → Int) {k j : Nat} (hj : j < w) : St.vec (dgr f w i n k) j = if j = k then ((f.getD k 0 : Nat) : Int) else if k = i ∧ i < j then n j else 0 := by
  rw [St.vec_get (by rw [dgr_len]; exact hj)]
  simp [-po_comp, dgr]
theorem dgR_get (f : List Nat) (w i : Nat) (n : Nat → Int) {k : Nat} (hk : k < w) : (dgR f w i n).getD k [] = dgr f w i n k := by
  rw [List.getD_eq_getElem?_getD, List.getElem?_eq_getElem (by rw [dgR_len]; exact hk)]
  simp [-po_comp, dgR]
theorem dgR_dg {h f : List Nat} {i : Nat} {n : Nat → Int} (hi : i < h.length) (hf : ∀ k, k < h.length → 1 ≤ f.getD k 0 ∧ f.getD k 0 ∣ h.getD k 0) (hn : ∀ j, 0 ≤ n j) : St.Dg h (fun k => f.getD k 0) i n (dgR f h.length i n) := by
  refine ⟨dgR_len .., fun r hr => ?_, hi, hf, fun k j hk hj => ?_, fun j _ _ => hn j⟩
  · obtain ⟨k, _, rfl⟩ := List.mem_map.mp hr
    exact dgr_len ..
  · rw [dgR_get _ _ _ _ hk, dgr_vec _ _ _ _ hj]
theorem dgr_zero (f : List Nat) (w i : Nat) {k : Nat} (hk : k < w) : List.replicate k (0 : Int) ++ ((f.getD k 0 : Nat) : Int) :: List.replicate (w - k - 1) 0 = dgr f w i (fun _ => 0) k := by
  refine List.ext_getElem (by simp [-po_comp, dgr]; omega) fun j h1 h2 => ?_
  simp [-po_comp, dgr, List.getElem_append, List.getElem_cons]
  split
  · rw [if_neg (by omega)]
  · by_cases e : j = k
    · subst e
      simp [-po_comp]
    · rw [if_neg e, if_neg (by omega)]
theorem dgr_upd (f : List Nat) (w i : Nat) (n : Nat → Int) {j : Nat} (x : Int) (hj : i < j) : (dgr f w i n i).set j x = dgr f w i (fun q => if q = j then x else n q) i := by
  refine List.ext_getElem (by simp [-po_comp, dgr]) fun q h1 h2 => ?_
  simp [-po_comp, dgr, List.getElem_set]
  by_cases e : j = q
  · subst e
    rw [if_pos rfl, if_neg (by omega), if_pos hj, if_pos rfl]
  · have e' : ¬ q = j := fun c => e c.symm
    rw [if_neg e]
    simp only [e', if_false]
theorem dgr_ne (f : List Nat) (w i : Nat) (n m : Nat → Int) {k : Nat} (hk : k ≠ i) : dgr f w i n k = dgr f w i m k := by
  unfold dgr
  refine List.map_congr_left fun j _ => ?_
  split
  · rfl
  · rw [if_neg (fun c => hk c.1), if_neg (fun c => hk c.1)]
theorem dgR_upd (f : List Nat) (w i : Nat) (n : Nat → Int) {j : Nat} (x : Int) (hj : i < j) : (dgR f w i n).set i (dgr f w i (fun q => if q = j then x else n q) i) = dgR f w i (fun q => if q = j then x else n q) := by
  refine List.ext_getElem (by simp [-po_comp, dgR]) fun k h1 h2 => ?_
  simp [-po_comp, dgR, List.getElem_set]
  by_cases e : i = k
  · subst e
    rw [if_pos rfl]
  · rw [if_neg e]
    exact dgr_ne _ _ _ _ _ (fun c => e c.symm)
end K45

namespace K45
open PySem Pu L2
theorem many_ok {X : Exn → En → Prop} {cs : List Int} {p : Ct} (hp : PenL cs p) : Wp X (m__law_many_rounds_right [.io p]) fun rv z => ∃ (c : Ct) (t : List Sl), rv = .v (.bool true) ∧ z = .io c :: t ∧ PenL cs c := by
  refine po_fnK fun Y K hY hK _ => ?_
  unfold b__law_many_rounds_right
  refine po_step fun K1 h1 _ _ _ => ?_
  simp [-po_comp]
  refine po_mono (house_ok hp) ?_
  rintro _ _ ⟨h, c, t, rfl, H, rfl, hp⟩
  simp [-po_comp]
  refine h1 _ ?_
  refine po_step fun K2 h2 _ _ _ => ?_
  simp [-po_comp]
  refine po_mono (turning_ok hp H) ?_
  rintro _ _ ⟨g1, c, t, rfl, g1a, g1b, rfl, hp⟩
  simp [-po_comp]
  refine po_mono (turning_ok hp H) ?_
  rintro _ _ ⟨g2, c, t, rfl, g2a, g2b, rfl, hp⟩
  simp [-po_comp]
  have hA : ∀ a ∈ [g1, g2], St.Th h a := by
    intro a ha
    simp only [List.mem_cons, List.not_mem_nil, or_false] at ha
    rcases ha with rfl | rfl
    · exact g1a
    · exact g2a
  refine po_mono (closure_ok (G := [g1, g2]) (BB := 144) H.pos H.len hA (fun L hn hL => St.tw_le g1b g2b hn hL) (by decide)) ?_
  rintro _ _ ⟨C, rfl, hC⟩
  obtain ⟨S, FS, hS⟩ := St.lam_ex H.pos (A := [g1, g2]) fun a ha => (hA a ha).1
  have tl : Tells h S C := ⟨FS, Nat.le_trans hC.le (by decide), fun x => (hC.mem x).trans ⟨fun q => ⟨q.1, (hS _).mpr q.2⟩, fun q => ⟨q.1, (hS _).mp q.2⟩⟩⟩
  simp [-po_comp]
  refine h2 _ ?_
  simp [-po_comp]
  refine po_mono (law_rows_ok tl H.pos H.len) ?_
  rintro _ _ rfl
  simp [-po_comp]
  refine po_mono (told_ok H FS (hC.due hS) (Nat.le_trans hC.le (by decide))) ?_
  rintro _ _ rfl
  exact hK _ _ _ rfl ⟨c, _, rfl, rfl, hp⟩
theorem due_of {h : List Nat} {S L : List (List Int)} (H : Hs h) (F : St.Full h S) (hs : L.Pairwise (· < ·)) (hm : ∀ x, x ∈ L ↔ x ∈ St.acc h S h.length) : Due h S L :=
  ⟨hs.imp fun {a b} h e => by subst e; exact List.lt_irrefl _ h, hs.imp fun {a b} h => List.le_of_lt h, fun x => (hm x).trans (St.acc_mem F H.pos x)⟩
theorem hs_one {n : Nat} (h1 : 1 ≤ n) (h2 : n ≤ 1000000) : Hs [n] := ⟨fun m hm => by rw [List.mem_singleton.mp hm]; exact h1, by simp, fun m hm => by rw [List.mem_singleton.mp hm]; exact h2⟩
theorem edge1 {m f : Nat} (m1 : 1 ≤ m) (f1 : 1 ≤ f) (hb : m * f ≤ 1000000) : Hs [m * f] ∧ St.Full [m * f] [[(f : Int)]] ∧ Due [m * f] [[(f : Int)]] ((List.range m).map fun k : Nat => [((k * f : Nat) : Int)]) := by
  have hmf : 1 ≤ m * f := Nat.mul_pos m1 f1
  have H := hs_one hmf hb
  have d : St.Dg [m * f] (fun _ => f) 0 (fun _ => 0) [[(f : Int)]] := by
    refine ⟨rfl, fun r hr => by rw [List.mem_singleton.mp hr]; rfl, by simp, fun k hk => ?_, fun k j hk hj => ?_, fun _ _ _ => Int.le_refl _⟩
    · have : k = 0 := by simp [-po_comp] at hk; exact hk
      subst this
      exact ⟨f1, Nat.dvd_mul_left _ _⟩
    · have : k = 0 := by simp [-po_comp] at hk; exact hk
      have : j = 0 := by simp [-po_comp] at hj; exact hj
      subst k j
      rfl
  have F : St.Full [m * f] [[(f : Int)]] := (d.full H.pos).mpr fun j h1 h2 => by simp [-po_comp] at h2; omega
  refine ⟨H, F, due_of H F ?_ fun x => ?_⟩
  · rw [List.pairwise_map]
    refine List.pairwise_lt_range.imp fun {a b} h => ?_
    have : a * f < b * f := Nat.mul_lt_mul_of_pos_right h (by omega)
    rw [List.cons_lt_cons_iff]
    exact .inl (by omega)
  · have hq : St.quo [m * f] [[(f : Int)]] 0 = m := by
      simp [-po_comp, St.quo, St.foot, St.vec]
      exact Nat.mul_div_cancel _ (by omega)
    have e : St.acc [m * f] [[(f : Int)]] 1 = (List.range m).map fun k : Nat => [((k * f : Nat) : Int)] := by
      show (List.range (St.quo [m * f] [[(f : Int)]] 0)).flatMap _ = _
      rw [hq]
      simp only [St.acc, List.map_cons, List.map_nil]
      rw [← List.map_eq_flatMap]
      refine List.map_congr_left fun k hk => ?_
      have hk := List.mem_range.mp hk
      have : k * f < m * f := Nat.mul_lt_mul_of_pos_right hk (by omega)
      simp [-po_comp, St.add', St.nrm, St.vec]
      rw [← Int.natCast_mul, ← Int.natCast_mul]
      exact Int.emod_eq_of_lt (by omega) (by omega)
    show x ∈ _ ↔ x ∈ St.acc [m * f] [[(f : Int)]] 1
    rw [e]
end K45

namespace K45
open PySem Pu L2
theorem edge2 {m f u : Nat} (m1 : 1 ≤ m) (f1 : 1 ≤ f) (hb : m * f ≤ 1000000) (hu : u < f) (hd : f ∣ 2 * u) : Hs [2, m * f] ∧ St.Full [2, m * f] [[1, (u : Int)], [0, (f : Int)]] ∧ Due [2, m * f] [[1, (u : Int)], [0, (f : Int)]] (((List.range m).map fun k : Nat => [0, ((k * f : Nat) : Int)]) ++ (List.range m).map fun k : Nat => [1, ((u + k * f : Nat) : Int)]) := by
  have hmf : 1 ≤ m * f := Nat.mul_pos m1 f1
  have H : Hs [2, m * f] := ⟨fun x hx => by simp [-po_comp] at hx; omega, by simp, fun x hx => by simp [-po_comp] at hx; omega⟩
  have d : St.Dg [2, m * f] (fun k => if k = 0 then 1 else f) 0 (fun _ => (u : Int)) [[1, (u : Int)], [0, (f : Int)]] := by
    refine ⟨rfl, fun r hr => ?_, by simp, fun k hk => ?_, fun k j hk hj => ?_, fun _ _ _ => Int.natCast_nonneg _⟩
    · simp [-po_comp] at hr
      rcases hr with rfl | rfl <;> rfl
    · have hk : k = 0 ∨ k = 1 := by simp [-po_comp] at hk; omega
      rcases hk with rfl | rfl
      · exact ⟨Nat.le_refl _, Nat.one_dvd _⟩
      · exact ⟨f1, Nat.dvd_mul_left _ _⟩
    · have hk : k = 0 ∨ k = 1 := by simp [-po_comp] at hk; omega
      have hj : j = 0 ∨ j = 1 := by simp [-po_comp] at hj; omega
      rcases hk with rfl | rfl <;> rcases hj with rfl | rfl <;> rfl
  have F : St.Full [2, m * f] [[1, (u : Int)], [0, (f : Int)]] := (d.full H.pos).mpr fun j h1 h2 => by
    have hj : j = 1 := by simp [-po_comp] at h2; omega
    subst hj
    refine ⟨by simp [-po_comp]; omega, ?_⟩
    show ((f : Nat) : Int) ∣ ((2 / 1 : Nat) : Int) * (u : Int)
    obtain ⟨c, hc⟩ := hd
    exact ⟨(c : Int), by simp [-po_comp]; omega⟩
  refine ⟨H, F, due_of H F ?_ fun x => ?_⟩
  · rw [List.pairwise_append]
    refine ⟨?_, ?_, ?_⟩
    · rw [List.pairwise_map]
      refine List.pairwise_lt_range.imp fun {a b} h => ?_
      have : a * f < b * f := Nat.mul_lt_mul_of_pos_right h (by omega)
      rw [List.cons_lt_cons_iff]
      refine .inr ⟨rfl, ?_⟩
      rw [List.cons_lt_cons_iff]
      exact .inl (by omega)
    · rw [List.pairwise_map]
      refine List.pairwise_lt_range.imp fun {a b} h => ?_
      have : a * f < b * f := Nat.mul_lt_mul_of_pos_right h (by omega)
      rw [List.cons_lt_cons_iff]
      refine .inr ⟨rfl, ?_⟩
      rw [List.cons_lt_cons_iff]
      exact .inl (by omega)
    · intro a ha b hb
      obtain ⟨i, _, rfl⟩ := List.mem_map.mp ha
      obtain ⟨j, _, rfl⟩ := List.mem_map.mp hb
      rw [List.cons_lt_cons_iff]
      exact .inl (by omega)
  · have q0 : St.quo [2, m * f] [[1, (u : Int)], [0, (f : Int)]] 0 = 2 := by simp [-po_comp, St.quo, St.foot, St.vec]
    have q1 : St.quo [2, m * f] [[1, (u : Int)], [0, (f : Int)]] 1 = m := by
      simp [-po_comp, St.quo, St.foot, St.vec]
      exact Nat.mul_div_cancel _ (by omega)
    have hfm : f ≤ m * f := Nat.le_mul_of_pos_left _ m1
    have a1 : St.acc [2, m * f] [[1, (u : Int)], [0, (f : Int)]] 1 = [[0, 0], [1, (u : Int)]] := by
      show (List.range (St.quo [2, m * f] [[1, (u : Int)], [0, (f : Int)]] 0)).flatMap _ = _
      rw [q0]
      have e : (u : Int) % ((m : Int) * (f : Int)) = (u : Int) := by
        rw [← Int.natCast_mul]
        exact Int.emod_eq_of_lt (by omega) (by omega)
      simp [-po_comp, St.acc, List.range_succ, St.add', St.nrm, St.vec, e]
    have a2 : St.acc [2, m * f] [[1, (u : Int)], [0, (f : Int)]] 2 = (List.range m).flatMap fun k : Nat => [[0, ((k * f : Nat) : Int)], [1, ((u + k * f : Nat) : Int)]] := by
      show (List.range (St.quo [2, m * f] [[1, (u : Int)], [0, (f : Int)]] 1)).flatMap _ = _
      rw [q1, a1]
      unfold List.flatMap
      congr 1
      refine List.map_congr_left fun k hk => ?_
      have hk := List.mem_range.mp hk
      have h1 : k * f + f ≤ m * f := by
        have := Nat.mul_le_mul_right f (show k + 1 ≤ m by omega)
        rw [Nat.add_mul] at this
        omega
      have e1 : ((k : Int) * (f : Int)) % ((m : Int) * (f : Int)) = (k : Int) * (f : Int) := by
        rw [← Int.natCast_mul, ← Int.natCast_mul]
        exact Int.emod_eq_of_lt (by omega) (by omega)
      have e2 : ((u : Int) + (k : Int) * (f : Int)) % ((m : Int) * (f : Int)) = (u : Int) + (k : Int) * (f : Int) := by
        rw [← Int.natCast_mul, ← Int.natCast_mul]
        exact Int.emod_eq_of_lt (by omega) (by omega)
      simp [-po_comp, St.add', St.nrm, St.vec, List.range_succ, e1, e2]
    show x ∈ _ ↔ x ∈ St.acc [2, m * f] [[1, (u : Int)], [0, (f : Int)]] 2
    rw [a2, List.mem_append, List.mem_map, List.mem_map, List.mem_flatMap]
    constructor
    · rintro (⟨k, hk, rfl⟩ | ⟨k, hk, rfl⟩)
      · exact ⟨k, hk, by simp⟩
      · exact ⟨k, hk, by simp⟩
    · rintro ⟨k, hk, hx⟩
      simp only [List.mem_cons, List.not_mem_nil, or_false] at hx
      rcases hx with rfl | rfl
      · exact .inl ⟨k, hk, rfl⟩
      · exact .inr ⟨k, hk, rfl⟩
theorem edge_ok {X : Exn → En → Prop} {cs : List Int} {p : Ct} (hp : PenL cs p) : Wp X (m__law_edge_right [.io p]) fun rv z => ∃ (c : Ct) (t : List Sl), rv = .v (.bool true) ∧ z = .io c :: t ∧ PenL cs c := by
  refine po_fnK fun Y K hY hK _ => ?_
  unfold b__law_edge_right
  refine po_step fun K1 h1 _ _ _ => ?_
  simp [-po_comp]
  refine po_mono (draw_ok hp (by decide)) ?_
  rintro _ _ ⟨d0', c, t, rfl, d0, d1, rfl, hp⟩
  simp [-po_comp]
  refine h1 _ ?_
  refine po_step fun K2 h2 _ _ _ => ?_
  simp [-po_comp]
  refine po_mono (draw_ok hp (by decide)) ?_
  rintro _ _ ⟨u, c, t, rfl, u0, u1, rfl, hp⟩
  simp [-po_comp]
  refine po_mono (draw_ok hp (by decide)) ?_
  rintro _ _ ⟨q, c, t, rfl, q0, q1, rfl, hp⟩
  obtain ⟨dd, e3, m, rfl, m1, m2⟩ := atI_all (P := fun d : D => ∃ x : Nat, d = .int x ∧ 1 ≤ x ∧ x ≤ 405) (xs := [.int (396 + d0'), .int (396 + d0'), .int 400, .int 401, .int (1 + u), .int 402]) (n := q) q0 (by simp [-po_comp]; omega) (by
    intro z hz
    simp only [List.mem_cons, List.not_mem_nil, or_false] at hz
    rcases hz with rfl | rfl | rfl | rfl | rfl | rfl
    · exact ⟨(396 + d0').toNat, by congr 1; omega, by omega, by omega⟩
    · exact ⟨(396 + d0').toNat, by congr 1; omega, by omega, by omega⟩
    · exact ⟨400, rfl, by omega, by omega⟩
    · exact ⟨401, rfl, by omega, by omega⟩
    · exact ⟨(1 + u).toNat, by congr 1; omega, by omega, by omega⟩
    · exact ⟨402, rfl, by omega, by omega⟩)
  simp [-po_comp, e3]
  refine h2 _ ?_
  refine po_step fun K3 h3 _ _ _ => ?_
  simp [-po_comp]
  refine po_mono (draw_ok hp (by decide)) ?_
  rintro _ _ ⟨g, c, t, rfl, g0, g1, rfl, hp⟩
  obtain ⟨f, hf, f1, f2⟩ : ∃ f : Nat, 1 + g = (f : Int) ∧ 1 ≤ f ∧ f ≤ 2400 := ⟨(1 + g).toNat, by omega, by omega, by omega⟩
  simp [-po_comp]
  rw [hf]
  refine h3 _ ?_
  refine po_step fun K4 h4 r4 _ _ => ?_
  simp [-po_comp]
  refine po_mono (draw_ok hp (by decide)) ?_
  rintro _ _ ⟨w, c, t, rfl, w0, w1, rfl, hp⟩
  simp [-po_comp]
  have hmf : m * f ≤ 405 * 2400 := Nat.mul_le_mul m2 f2
  by_cases c1 : w = 0
  · rw [if_pos c1]
    obtain ⟨H, F, d⟩ := edge1 m1 f1 (by omega)
    have mo : ∀ k : Nat, k ≤ 405 → mulOk (k : Int) (f : Int) := fun k hk => mulOk_b (b := 12) (c := 12) (by rw [Int.natAbs_natCast]; omega) (by rw [Int.natAbs_natCast]; omega) (by decide)
    refine ⟨mo m m2, ?_⟩
    refine po_LC1 (f := fun k : Nat => .int k) (g := fun k : Nat => T [((k * f : Nat) : Int)]) (List.range m) (by simp [-po_comp, rng_map]; omega) (by simp [-po_comp, noOwn_cons]) (by simp [-po_comp]; omega) ?_ ?_
    · intro k hk
      have hk := List.mem_range.mp hk
      have := mo k (by omega)
      simp [-po_comp, this]
    simp [-po_comp]
    have ed : (List.range m).map (fun k : Nat => T [(k : Int) * (f : Int)]) = ((List.range m).map fun k : Nat => [((k * f : Nat) : Int)]).map fun a => T a := by simp [-po_comp]
    have eh : (PyData.tuple [PyData.int ((m : Int) * (f : Int))]) = T (hI [m * f]) := by simp [-po_comp, hI]
    have es : (PyData.tuple [PyData.tuple [PyData.int (f : Int)]]) = TT [[(f : Int)]] := by simp [-po_comp]
    rw [ed, eh, es]
    refine po_mono (told_ok H F d (by simp [-po_comp]; omega)) ?_
    rintro _ _ rfl
    exact r4 _ _ (hK _ _ _ rfl ⟨c, _, rfl, rfl, hp⟩)
  · rw [if_neg c1]
    refine h4 _ ?_
    obtain ⟨n, hn, n1, n2⟩ : ∃ n : Nat, ((m : Int) + 1).fdiv 2 = (n : Int) ∧ 1 ≤ n ∧ n ≤ 203 := ⟨(m + 1) / 2, fdiv_nat (m + 1) 2, by omega, by omega⟩
    have mo : ∀ k : Nat, k ≤ 405 → mulOk (k : Int) (f : Int) := fun k hk => mulOk_b (b := 12) (c := 12) (by rw [Int.natAbs_natCast]; omega) (by rw [Int.natAbs_natCast]; omega) (by decide)
    have e2 : (f : Int).fdiv 2 = ((f / 2 : Nat) : Int) := fdiv_nat f 2
    have e5 : (f : Int).fmod 2 = ((f % 2 : Nat) : Int) := by
      rw [Int.fmod_eq_emod_of_nonneg _ (by omega)]
      rfl
    obtain ⟨u, hu, u1, u2⟩ : ∃ u : Nat, u = f / 2 * (if f % 2 = 0 then 1 else 0) ∧ u < f ∧ f ∣ 2 * u := by
      refine ⟨_, rfl, ?_, ?_⟩
      · split <;> omega
      · split
        · exact ⟨1, by omega⟩
        · simp [-po_comp]
    have hnf : n * f ≤ 203 * 2400 := Nat.mul_le_mul n2 f2
    obtain ⟨H, F, d⟩ := edge2 n1 f1 (by omega) u1 u2
    refine po_step fun K5 h5 _ _ _ => ?_
    simp [-po_comp, hn]
    refine h5 _ ?_
    refine po_step fun K6 h6 _ _ _ => ?_
    simp [-po_comp]
    refine ⟨mo n (by omega), h6 _ ?_⟩
    refine po_step fun K7 h7 _ _ _ => ?_
    simp [-po_comp, e2, e5]
    have fin : K7 .nx [.io c, .v (.int (396 + d0')), .v (.int n), .v (.int f), .v (.tuple [.int 2, .int ((n : Int) * (f : Int))]), .v (.int u), .unk, .unk] := by
      refine h7 _ ?_
      refine po_step fun K8 h8 _ _ _ => ?_
      simp [-po_comp]
      refine po_LC1 (f := fun k : Nat => .int k) (g := fun k : Nat => T [0, ((k * f : Nat) : Int)]) (List.range n) (by simp [-po_comp, rng_map]; omega) (by simp [-po_comp, noOwn_cons]) (by simp [-po_comp]; omega) ?_ ?_
      · intro k hk
        have hk := List.mem_range.mp hk
        have := mo k (by omega)
        simp [-po_comp, this]
      simp [-po_comp]
      refine po_LC1 (f := fun k : Nat => .int k) (g := fun k : Nat => T [1, ((u + k * f : Nat) : Int)]) (List.range n) (by simp [-po_comp, rng_map]; omega) (by simp [-po_comp, noOwn_cons]) (by simp [-po_comp]; omega) ?_ ?_
      · intro k hk
        have hk := List.mem_range.mp hk
        have := mo k (by omega)
        simp [-po_comp, this]
      simp [-po_comp]
      refine ⟨by omega, h8 _ ?_⟩
      generalize hdue : (((List.range n).map fun k : Nat => [0, ((k * f : Nat) : Int)]) ++ (List.range n).map fun k : Nat => [1, ((u + k * f : Nat) : Int)]) = due at d
      have ed : (List.range n).map (fun k : Nat => T [0, (k : Int) * (f : Int)]) ++ (List.range n).map (fun k : Nat => T [1, (u : Int) + (k : Int) * (f : Int)]) = due.map fun a => T a := by
        rw [← hdue, List.map_append, List.map_map, List.map_map]
        simp [-po_comp, Function.comp_def]
      have eh : (PyData.tuple [PyData.int 2, PyData.int ((n : Int) * (f : Int))]) = T (hI [2, n * f]) := by simp [-po_comp, hI]
      have es : (PyData.tuple [PyData.tuple [PyData.int 1, PyData.int (u : Int)], PyData.tuple [PyData.int 0, PyData.int (f : Int)]]) = TT [[1, (u : Int)], [0, (f : Int)]] := by simp [-po_comp]
      rw [ed]
      simp [-po_comp]
      rw [eh, es]
      refine po_mono (told_ok H F d (by rw [← hdue]; simp [-po_comp]; omega)) ?_
      rintro _ _ rfl
      exact hK _ _ _ rfl ⟨c, _, rfl, rfl, hp⟩
    have e6 : ((f : Int) % 2 = 0) ↔ f % 2 = 0 := by omega
    by_cases c2 : f % 2 = 0
    · have c3 : (f : Int) % 2 = 0 := e6.mpr c2
      have e7 : decide ((f : Int) % 2 = 0) = true := decide_eq_true c3
      have ei : intD (.bool true) = some (.int 1) := rfl
      have e8 : (f : Int) / 2 = (u : Int) := by rw [hu, if_pos c2]; omega
      have m9 : mulOk (u : Int) 1 := mulOk_b (b := 12) (c := 1) (by rw [Int.natAbs_natCast]; omega) (by decide) (by decide)
      rw [e7, ei, e8]
      simp [-po_comp, m9]
      exact fin
    · have c3 : ¬ (f : Int) % 2 = 0 := fun e => c2 (e6.mp e)
      have e7 : decide ((f : Int) % 2 = 0) = false := decide_eq_false c3
      have ei : intD (.bool false) = some (.int 0) := rfl
      have e8 : u = 0 := by rw [hu, if_neg c2, Nat.mul_zero]
      have m9 : mulOk ((f : Int) / 2) 0 := mulOk_b (b := 12) (c := 1) (by omega) (by decide) (by decide)
      rw [e7, ei]
      subst e8
      simp [-po_comp, m9]
      exact fin
end K45

namespace K45
open PySem Pu L2
def pq (h F : List Nat) : Nat → Nat
  | 0 => 1
  | k + 1 => pq h F k * (h.getD k 0 / F.getD k 0)
theorem pq_app (h F : List Nat) (f : Nat) : ∀ k, k ≤ F.length → pq h (F ++ [f]) k = pq h F k
  | 0, _ => rfl
  | k + 1, hk => by
    show pq h (F ++ [f]) k * (h.getD k 0 / (F ++ [f]).getD k 0) = pq h F k * (h.getD k 0 / F.getD k 0)
    rw [pq_app h F f k (by omega)]
    have e : (F ++ [f]).getD k 0 = F.getD k 0 := by rw [List.getD_eq_getElem?_getD, List.getElem?_append_left (by omega), ← List.getD_eq_getElem?_getD]
    rw [e]
theorem pq_le {h F : List Nat} (H : Hs h) : ∀ k, k ≤ h.length → pq h F k ≤ 1000000 ^ k
  | 0, _ => Nat.le_refl _
  | k + 1, hk => by
    have h1 := pq_le (F := F) H k (by omega)
    have h2 : h.getD k 0 / F.getD k 0 ≤ 1000000 := Nat.le_trans (Nat.div_le_self _ _) (H.lt _ (by
      rw [List.getD_eq_getElem?_getD, List.getElem?_eq_getElem (by omega)]
      exact List.getElem_mem _))
    exact Nat.mul_le_mul h1 h2
theorem dgr_app (F : List Nat) (f w : Nat) {k : Nat} (hk : k < F.length) : dgr (F ++ [f]) w 0 (fun _ => 0) k = dgr F w 0 (fun _ => 0) k := by
  have e : (F ++ [f]).getD k 0 = F.getD k 0 := by rw [List.getD_eq_getElem?_getD, List.getElem?_append_left hk, ← List.getD_eq_getElem?_getD]
  unfold dgr
  rw [e]
theorem acc_pq {h F : List Nat} {i : Nat} {n : Nat → Int} : ∀ k, k ≤ h.length → (St.acc h (dgR F h.length i n) k).length = pq h F k
  | 0, _ => rfl
  | k + 1, hk => by
    rw [St.acc_len, acc_pq k (by omega)]
    have e : St.quo h (dgR F h.length i n) k = h.getD k 0 / F.getD k 0 := by
      unfold St.quo St.foot
      rw [dgR_get _ _ _ _ (by omega), dgr_vec _ _ _ _ (by omega), if_pos rfl]
      rfl
    rw [e, Nat.mul_comm]
    rfl
theorem great_ok {X : Exn → En → Prop} {cs : List Int} {p : Ct} (hp : PenL cs p) : Wp X (m__law_great_right [.io p]) fun rv z => ∃ (c : Ct) (t : List Sl), rv = .v (.bool true) ∧ z = .io c :: t ∧ PenL cs c := by
  refine po_fnK fun Y K hY hK _ => ?_
  unfold b__law_great_right
  refine po_step fun K1 h1 _ _ _ => ?_
  simp [-po_comp]
  refine po_mono (house_ok hp) ?_
  rintro _ _ ⟨h, c, t, rfl, H, rfl, hp⟩
  have H6 := H.len
  simp [-po_comp]
  refine h1 _ ?_
  refine po_step fun K2 h2 _ _ _ => ?_
  simp [-po_comp, hI_len]
  refine h2 _ ?_
  refine po_step fun K3 h3 _ _ _ => ?_
  simp [-po_comp]
  refine h3 _ ?_
  refine po_step fun K4 h4 _ _ _ => ?_
  simp [-po_comp]
  refine h4 _ ?_
  refine po_step fun K5 h5 _ _ _ => ?_
  simp [-po_comp]
  refine ⟨by omega, ?_⟩
  refine po_rngK (fun k r => ∃ (F : List Nat) (c : Ct) (s5 s6 s7 : Sl), r = [.io c, .v (T (hI h)), .v (.int (h.length : Nat)), .o (.l ((List.range k).map fun i => T (dgr F h.length 0 (fun _ => 0) i))), .v (.int (pq h F k : Nat)), s5, s6, s7] ∧ F.length = k ∧ (∀ i, i < k → 1 ≤ F.getD i 0 ∧ F.getD i 0 ∣ h.getD i 0) ∧ PenL cs c ∧ s5.isIo = false ∧ s6.isIo = false ∧ s7.isIo = false) _ _ ⟨[], c, .unk, .unk, .unk, by simp [-po_comp, pq], rfl, fun i hi => by omega, hp, rfl, rfl, rfl⟩ ?_ ?_
  · rintro k r hk ⟨F, c, s5, s6, s7, rfl, hFl, hF, hp, q5, q6, q7⟩
    have hkh : k < h.length := by omega
    refine ⟨[.io c, .v (T (hI h)), .v (.int (h.length : Nat)), .o (.l ((List.range k).map fun i => T (dgr F h.length 0 (fun _ => 0) i))), .v (.int (pq h F k : Nat)), .v (.int k), s6, s7], by simp [-po_comp, q5], fun K6 h6 _ _ _ => ?_⟩
    refine po_step fun K7 h7 _ _ _ => ?_
    simp [-po_comp]
    refine po_mono (draw_ok hp (by decide)) ?_
    rintro _ _ ⟨d, c, t, rfl, d0, d1, rfl, hp⟩
    obtain ⟨s, hs, s1⟩ : ∃ s : Nat, 1 + d = (s : Int) ∧ 1 ≤ s := ⟨(1 + d).toNat, by omega, by omega⟩
    simp [-po_comp, q6]
    rw [hs]
    refine h7 _ ?_
    refine po_step fun K8 h8 _ _ _ => ?_
    have eh := hI_at hkh
    have hp1 := St.getD_pos H.pos hkh
    have hp2 := H.lt (h.getD k 0) (by
      rw [List.getD_eq_getElem?_getD, List.getElem?_eq_getElem hkh]
      exact List.getElem_mem hkh)
    generalize hy : h.getD k 0 = y at *
    simp [-po_comp, Pu.atI_nat, eh]
    refine po_mono (draw_ok hp (by decide)) ?_
    rintro _ _ ⟨q, c, t, rfl, q0, q1, rfl, hp⟩
    obtain ⟨dd, e3, f, rfl, f1⟩ := atI_all (P := fun d : D => ∃ x : Nat, d = .int x ∧ 1 ≤ x) (xs := [.int 1, .int y, .int s, .int y, .int 1]) (n := q) q0 (by simp [-po_comp]; omega) (by
      intro z hz
      simp only [List.mem_cons, List.not_mem_nil, or_false] at hz
      rcases hz with rfl | rfl | rfl | rfl | rfl
      · exact ⟨1, rfl, by omega⟩
      · exact ⟨y, rfl, by omega⟩
      · exact ⟨s, rfl, by omega⟩
      · exact ⟨y, rfl, by omega⟩
      · exact ⟨1, rfl, by omega⟩)
    simp [-po_comp, e3, q7]
    refine h8 _ ?_
    refine po_step fun K9 h9 _ _ _ => ?_
    have f0 : ¬ (f : Int) = 0 := by omega
    have hm : (y : Int).fmod f = ((y % f : Nat) : Int) := by
      rw [Int.fmod_eq_emod_of_nonneg _ (by omega)]
      rfl
    have fin : ∀ g : Nat, 1 ≤ g → g ∣ y → K9 .nx [.io c, .v (T (hI h)), .v (.int (h.length : Nat)), .o (.l ((List.range k).map fun i => T (dgr F h.length 0 (fun _ => 0) i))), .v (.int (pq h F k : Nat)), .v (.int k), .v (.int s), .v (.int g)] := by
      intro g g1 gd
      refine h9 _ ?_
      refine po_step fun K10 h10 _ _ _ => ?_
      simp [-po_comp]
      refine ⟨by omega, by omega, by omega, by omega, by omega, ?_⟩
      refine h10 _ ?_
      have g0 : ¬ (g : Int) = 0 := by omega
      have g0' : ¬ g = 0 := by omega
      have e2 : (y : Int).fdiv g = ((y / g : Nat) : Int) := fdiv_nat y g
      have hpl := pq_le (F := F) H k (by omega)
      have mo : mulOk (pq h F k : Int) ((y / g : Nat) : Int) := mulOk_b (b := 200) (c := 20) (by
        rw [Int.natAbs_natCast]
        exact Nat.lt_of_le_of_lt (Nat.le_trans hpl (Nat.pow_le_pow_right (by decide) (show k ≤ 6 by omega))) (by decide +kernel)) (by
        rw [Int.natAbs_natCast]
        exact Nat.lt_of_le_of_lt (Nat.le_trans (Nat.div_le_self _ _) hp2) (by decide)) (by decide)
      simp [-po_comp, Pu.atI_nat, eh, g0, g0', e2]
      refine ⟨mo, ?_⟩
      have eg : (F ++ [g]).getD k 0 = g := by rw [List.getD_eq_getElem?_getD, List.getElem?_append_right (by omega), hFl]; simp [-po_comp]
      have er : PyData.tuple (List.replicate k (PyData.int 0) ++ PyData.int (g : Int) :: List.replicate (h.length - k - 1) (PyData.int 0)) = T (dgr (F ++ [g]) h.length 0 (fun _ => 0) k) := by
        rw [← dgr_zero (F ++ [g]) h.length 0 hkh, eg]
        simp [-po_comp]
      have er2 : (List.range k).map (fun i => T (dgr F h.length 0 (fun _ => 0) i)) ++ [T (dgr (F ++ [g]) h.length 0 (fun _ => 0) k)] = (List.range (k + 1)).map fun i => T (dgr (F ++ [g]) h.length 0 (fun _ => 0) i) := by
        rw [List.range_succ, List.map_append]
        refine congrArg (· ++ _) (List.map_congr_left fun i hi => ?_)
        rw [dgr_app F g h.length (by have := List.mem_range.mp hi; omega)]
      have e9 : (pq h F k : Int) * ((y : Int) / (g : Int)) = ((pq h (F ++ [g]) (k + 1) : Nat) : Int) := by
        show _ = ((pq h (F ++ [g]) k * (h.getD k 0 / (F ++ [g]).getD k 0) : Nat) : Int)
        rw [pq_app h F g k (by omega), eg, hy]
        simp [-po_comp]
      rw [er, er2, e9]
      refine h6 _ ⟨F ++ [g], c, .v (.int k), .v (.int s), .v (.int g), rfl, by simp [-po_comp, hFl], fun i hi => ?_, hp, rfl, rfl, rfl⟩
      by_cases ik : i = k
      · subst ik
        rw [eg, hy]
        exact ⟨g1, gd⟩
      · have e : (F ++ [g]).getD i 0 = F.getD i 0 := by rw [List.getD_eq_getElem?_getD, List.getElem?_append_left (by omega), ← List.getD_eq_getElem?_getD]
        rw [e]
        exact hF i (by omega)
    have f0' : ¬ f = 0 := by omega
    by_cases c1 : y % f = 0
    · simp [-po_comp, Pu.atI_nat, eh, f0, f0', hm, c1]
      exact fin f f1 (Nat.dvd_of_mod_eq_zero c1)
    · have c3 : ¬ (y : Int) % (f : Int) = 0 := fun e => c1 (by omega)
      simp [-po_comp, Pu.atI_nat, eh, f0, f0', hm, c1]
      rw [if_neg c3]
      exact fin y hp1 (Nat.dvd_refl y)
  · rintro r ⟨F, c, s5, s6, s7, rfl, hFl, hF, hp, q5, q6, q7⟩
    refine h5 _ ?_
    have eS : (List.range h.length).map (fun i => T (dgr F h.length 0 (fun _ => 0) i)) = (dgR F h.length 0 fun _ => 0).map fun r => T r := by
      unfold dgR
      rw [List.map_map]
      rfl
    rw [eS]
    have FS : St.Full h (dgR F h.length 0 fun _ => 0) := by
      rcases Nat.eq_zero_or_pos h.length with z | z
      · have : h = [] := List.length_eq_zero_iff.mp z
        subst this
        exact ⟨fun r hr => by simp [-po_comp, dgR] at hr, .nil, fun k hk => by simp [-po_comp] at hk⟩
      · exact ((dgR_dg (n := fun _ => 0) z (fun k hk => hF k hk) (fun j => Int.le_refl _)).full H.pos).mpr fun j h1 h2 => ⟨by have := (hF j h2).1; omega, by simp⟩
    have hal := acc_pq (h := h) (F := F) (i := 0) (n := fun _ => 0) h.length (Nat.le_refl _)
    have hpl := pq_le (F := F) H h.length (Nat.le_refl _)
    refine po_step fun K6 h6 _ _ _ => ?_
    simp [-po_comp]
    refine po_mono (part_size_ok H FS) ?_
    rintro _ _ rfl
    rw [hal]
    obtain ⟨x, hx⟩ := (Rq.int (i := ((pq h F h.length : Nat) : Int)) (by
      rw [Int.natAbs_natCast]
      exact Nat.lt_of_le_of_lt (Nat.le_trans hpl (Nat.pow_le_pow_right (by decide) H6)) (by decide +kernel))).repr (by decide) (by decide)
    simp [-po_comp, hx]
    refine h6 _ ?_
    simp [-po_comp]
    by_cases c1 : pq h F h.length ≤ 400
    · rw [if_pos (by omega)]
      exact hK _ _ _ rfl ⟨c, _, rfl, rfl, hp⟩
    · rw [if_neg (by omega)]
      refine things_bad H FS (by omega) fun z => ?_
      simp [-po_comp]
      refine heard_great fun r => ?_
      simp [-po_comp]
      exact hK _ _ _ rfl ⟨c, _, rfl, rfl, hp⟩
theorem pen_ok {X : Exn → En → Prop} (ns : List Int) : Wp X (m__law_pen [.v (.list (ns.map .int))]) fun rv _ => ∃ cs c, rv = .o c ∧ PenL cs c := by
  refine po_fn ?_
  unfold b__law_pen
  simp [-po_comp]
  rw [show (63 : Int) = ((63 : Nat) : Int) from rfl, cutL_take]
  exact ⟨ns.take 63, 0, 0, by simp, by decide, by decide⟩
theorem law_true (ns : List Int) (h : ns.length ≤ 63) (hb : ∀ z ∈ ns, Builtin.Int.intBits z ≤ 1048576) : ∃ r, m_law [.v (.list (ns.map .int))] = .ok (.v (.bool true)) r := by
  refine po_true ?_
  refine po_fnK fun Y K hY hK _ => ?_
  unfold b_law
  refine po_step fun K1 h1 _ _ _ => ?_
  simp [-po_comp]
  refine po_mono (pen_ok ns) ?_
  rintro _ _ ⟨cs, c, rfl, hp⟩
  simp [-po_comp]
  refine h1 _ ?_
  refine po_step fun K2 h2 _ _ _ => ?_
  simp [-po_comp]
  refine po_rngK (fun i r => ∃ (c : Ct) (s2 : Sl), r = [.v (.list (ns.map .int)), .o c, s2] ∧ PenL cs c ∧ s2.isIo = false) 2 _ ⟨c, .unk, rfl, hp, rfl⟩ ?_ ?_
  · rintro i r hi ⟨c, s2, rfl, hp, q2⟩
    refine ⟨[.v (.list (ns.map .int)), .o c, .v (.int i)], by simp [-po_comp, q2], fun K3 h3 _ _ _ => ?_⟩
    refine po_step fun K4 h4 _ _ _ => ?_
    simp [-po_comp]
    refine po_mono (small_right_ok hp) ?_
    rintro _ _ ⟨c, t, rfl, rfl, hp⟩
    simp [-po_comp]
    refine po_mono (edge_ok hp) ?_
    rintro _ _ ⟨c, t, rfl, rfl, hp⟩
    simp [-po_comp]
    refine po_mono (great_ok hp) ?_
    rintro _ _ ⟨c, t, rfl, rfl, hp⟩
    simp [-po_comp]
    refine h4 _ ?_
    simp [-po_comp]
    refine po_mono (many_ok hp) ?_
    rintro _ _ ⟨c, t, rfl, rfl, hp⟩
    simp [-po_comp]
    exact h3 _ ⟨c, _, rfl, hp, rfl⟩
  · rintro r ⟨c, s2, rfl, hp, q2⟩
    refine h2 _ ?_
    have H : Hs [] := ⟨by simp, by simp, by simp⟩
    have FS : St.Full [] [] := ⟨fun r hr => by simp [-po_comp] at hr, .nil, fun k hk => by simp [-po_comp] at hk⟩
    have t1 : ∀ X : Exn → En → Prop, Wp X (m_part_size [.v (.tuple []), .v (.tuple [])]) fun rv _ => rv = .v (.int 1) := fun X => by
      have := part_size_ok (X := X) H FS
      simp [-po_comp, hI, St.acc] at this
      exact this
    have t2 : ∀ X : Exn → En → Prop, Wp X (m_things_in [.v (.tuple []), .v (.tuple [])]) fun rv _ => rv = .o (.l [.tuple []]) := fun X => by
      have := things_ok (X := X) H FS (by simp [-po_comp, St.acc])
      simp [-po_comp, hI, St.acc, St.nrm] at this
      exact this
    simp [-po_comp]
    refine po_mono (t1 _) ?_
    rintro _ _ rfl
    simp [-po_comp]
    refine po_mono (t2 _) ?_
    rintro _ _ rfl
    have ee : eqD (.list [.tuple []]) (.list [.tuple []]) = some (.bool true) := rfl
    simp [-po_comp, ee]
    exact hK _ _ _ rfl rfl
end K45

open PySem PySem.W PySem.Calls PyProof.Rows
theorem PySem.Challenge.cw_commonhouse_k45_sizes_and_things_holds : PySem.Challenge.rw_commonhouse_k45_sizes_and_things.Holds := by
  w_on; o_law
  refine HandSHeadRun.head_any (r := OpenLaw.row PySem.Challenge.rw_commonhouse_k45_sizes_and_things) (q := view (OpenLaw.row PySem.Challenge.rw_commonhouse_k45_sizes_and_things).prog [37]) (H := K45.hk) (ob := K45.ob) (M := 24800) (loose := K45.lo) (d := HandSHeadRun.topDef (OpenLaw.row PySem.Challenge.rw_commonhouse_k45_sizes_and_things).prog 37) (kwd := []) K45.ob_eq
    (by kernel_rfl) (fun s => by kernel_rfl) K45.run (by kernel_rfl) (by kernel_rfl) (by kernel_rfl) (by rfl) (by first | assumption | decide +kernel) (by decide +kernel) ⟨rfl, rfl, rfl, rfl, rfl, by decide +kernel⟩ ?hw ?hc
  case hw => w_witness2
  case hc =>
    refine Pu.walk_ofP (l := PySem.Challenge.rw_commonhouse_k45_sizes_and_things) (n := 63) (k := 8) (x := "_law_script") rfl (by decide) (by kernel_rfl) ⟨⟨rfl, by decide, by decide⟩, rfl, by decide⟩ (by kernel_rfl) ?F
    intro w mg fa h Y G hmg0
    obtain ⟨K, KX, c, l⟩ := Y
    have hmg : mg ("law" : PySem.Str) = some (.ref fa) := by
      have e : (HandSHeadRun.topDef (OpenLaw.row PySem.Challenge.rw_commonhouse_k45_sizes_and_things).prog 37).name = ("law" : PySem.Str) := by kernel_rfl
      rw [← e]
      exact hmg0
    obtain ⟨fd, hb, hF⟩ := K45.facts (P := (PySem.Challenge.rw_commonhouse_k45_sizes_and_things).prog) (w := w) KX G hmg (by rfl) c l
    have cs := l.cs KX
    exact ⟨K, fd, Pu.csN K45.ln K, _, KX, cs.1, cs.2.1, cs.2.2, hb, fun H a ns hl hb hH hS => K45.sp_law (K45.law_true ns hl hb) H a hS (Pu.tabs_start hH), hF⟩
