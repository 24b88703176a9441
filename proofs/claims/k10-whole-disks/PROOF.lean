import PyProof.Rows.All
import Wide.All
import OpenK.AllK
import Wide.FinOn
import KE.KStateDown
import Lean
import HandS.ForMost
import HandS.More
import HandS.WordsExc
import HandS.Defaults
import HandS.Head0
import HandS.Head1
import HandS.Head2
import HandS.HeadEnd
import HandS.HeadHook1
import HandS.HeadHook2
import HandS.HeadHook3
import HandS.HeadHook4
import HandS.Walk
import HandS.IsInst
import HandS.Evl
import HandS.StrMore
import HandS.TupAny
import HandS.TupMul
import HandS.TupLe
import HandS.Deep
import HandS.Zip
import HandS.Conv
import HandS.NoneIn
import HandS.Lambda
import HandS.HotCalls
import HandS.SuiteRaise
import HandS.ExcIs
import HandS.TryOnly
import HandS.ExcOwn
import HandS.CallRecv
import HandS.Codes
import HandS.SortInts
import HandS.SetKeys
import HandS.Strs
import HandS.DictComp
import HandS.ListItems
import HandS.WrittenGet
import HandS.Small
import HandS.Flow
import HandS.Style
import HandS.RaiseMore
import HandS.Wide
import HandS.EndTab
import HandS.HeadWalk
import HandS.SetFor
import HandS.Replace
import PyProof.Rows.SortShellAny
import PyProof.Draws
import KE.GoesZip
import KE.GoesMore
import HandS.MakeKwOnly
import HandS.CallSlots
import HandS.SetBool
import HandS.TupSets
import PyProof.SeqIndex
import PySem.Challenge.RW_leafroom_k10_whole_disks
set_option Elab.async false
set_option linter.all false
set_option maxRecDepth 100000
set_option maxHeartbeats 4000000
/-! ### a head by facts over a part of the heap that is named by its addresses (own work) -/
namespace LR
open PySem PySem.Spec PyProof.Rows L2
abbrev AlA : Type := Bool × List He.FnW × Bool
/-- what is looked at: the facts, the defs, and one more Bool -/
def okA (as : List Addr) (fa : List He.Fa) (g : Addr → Option Obj) : Bool := fa.all fun f => f.ok (He.frG g as)
def okD (as : List Addr) (fn : List He.DefD) (g : Addr → Option Obj) : Bool := fn.all fun d => d.ok (He.frG g as)
def fnA (as : List Addr) (fn : List He.DefD) (g : Addr → Option Obj) : List He.FnW := fn.map fun d => He.fnW (He.frG g as) d.at_
def emptyAt (g : Addr → Option Obj) (a : Addr) : Bool := match g a with
  | some o => He.emptyTab o
  | none => false
/-- the tables of code objects: empty, not among the addresses -/
def tabA (as : List Addr) (tf : List He.Defn) (g : Addr → Option Obj) : Bool := tf.all fun p => PySem.W.codeHdIn (He.frG g as) (He.cT (He.frG g as) p).1 (He.cT (He.frG g as) p).2 && (emptyAt g (He.cT (He.frG g as) p).2 && !(as.contains (He.cT (He.frG g as) p).2))
structure SaysA (as : List Addr) (fa : List He.Fa) (fn : List He.DefD) (tf : List He.Defn) (ex : PySem.W.Frag → Bool) (ts : List He.Tab) (w : World) (h : Heap) (K : PySem.W.Frag) : Prop where
  fact : ∀ f ∈ fa, f.ok K = true
  defs : ∀ d ∈ fn, d.ok K = true ∧ He.fnW K d.at_ = d.val
  more : ex K = true
  hd : ∀ p ∈ tf, PySem.W.codeHdIn K (He.cT K p).1 (He.cT K p).2 = true
  out : ∀ p ∈ tf, K.lookup (He.cT K p).2 = none
  empty : ∀ p ∈ tf, h.get? (He.cT K p).2 = some { cls := .none, data := .fields #[] }
  dic : ts.map (fun t => He.dicW K (t.1 K)) = ts.map fun t => some (He.keysIn w.params t.2)
abbrev ObA : Type := Bool × Bool × List He.FnW × Bool × List (Option (List (Option (Str × Int))))
/-- the top's dicts, as they stand -/
def dicA (as : List Addr) (ts : List He.Tab) (g : Addr → Option Obj) : List (Option (List (Option (Str × Int)))) := ts.map fun t => He.dicW (He.frG g as) (t.1 (He.frG g as))
def obsA (as : List Addr) (fa : List He.Fa) (fn : List He.DefD) (tf : List He.Defn) (ex : PySem.W.Frag → Bool) (ts : List He.Tab) (g : Addr → Option Obj) : ObA := (okA as fa g, okD as fn g, fnA as fn g, ex (He.frG g as) && tabA as tf g, dicA as ts g)
def valA (fn : List He.DefD) (ts : List He.Tab) (w : World) : ObA := (true, true, fn.map He.DefD.val, true, ts.map fun t => some (He.keysIn w.params t.2))
theorem frG_none {g : Addr → Option Obj} {a : Addr} : ∀ {as : List Addr}, as.contains a = false → (He.frG g as).lookup a = none
  | [], _ => rfl
  | b :: r, h => by
    have h2 : (a == b) = false ∧ r.contains a = false := by
      rw [List.contains_cons] at h
      exact Bool.or_eq_false_iff.mp h
    unfold He.frG
    rw [List.filterMap_cons]
    cases hb : g b with
    | none => exact frG_none h2.2
    | some o =>
      show (match a == b with | true => some o | false => (He.frG g r).lookup a) = none
      rw [h2.1]
      exact frG_none h2.2
theorem saysA_of {as : List Addr} {fa : List He.Fa} {fn : List He.DefD} {tf : List He.Defn} {ex : PySem.W.Frag → Bool} {ts : List He.Tab} {w : World} {h : Heap} (e : obsA as fa fn tf ex ts h.get? = valA fn ts w) : SaysA as fa fn tf ex ts w h (He.frG h.get? as) := by
  have e1 : okA as fa h.get? = true := congrArg (fun z : ObA => z.1) e
  have e2 : okD as fn h.get? = true := congrArg (fun z : ObA => z.2.1) e
  have e3 : fnA as fn h.get? = fn.map He.DefD.val := congrArg (fun z : ObA => z.2.2.1) e
  have e4 : (ex (He.frG h.get? as) && tabA as tf h.get?) = true := congrArg (fun z : ObA => z.2.2.2.1) e
  obtain ⟨e5, e6⟩ := He.ba e4
  have key : ∀ p ∈ tf, PySem.W.codeHdIn (He.frG h.get? as) (He.cT (He.frG h.get? as) p).1 (He.cT (He.frG h.get? as) p).2 = true ∧ emptyAt h.get? (He.cT (He.frG h.get? as) p).2 = true ∧ as.contains (He.cT (He.frG h.get? as) p).2 = false := fun p hp => by
    obtain ⟨a, b⟩ := He.ba (List.all_eq_true.mp e6 p hp)
    obtain ⟨b, c⟩ := He.ba b
    exact ⟨a, b, by simpa using c⟩
  refine ⟨fun f hf => List.all_eq_true.mp e1 f hf, fun d hd => ⟨List.all_eq_true.mp e2 d hd, ?_⟩, e5, fun p hp => (key p hp).1, fun p hp => frG_none (key p hp).2.2, fun p hp => ?_, congrArg (fun z : ObA => z.2.2.2.2) e⟩
  · obtain ⟨i, hi, rfl⟩ := List.mem_iff_getElem.mp hd
    have z : (fnA as fn h.get?)[i]? = (fn.map He.DefD.val)[i]? := by rw [e3]
    unfold fnA at z
    rw [List.getElem?_map, List.getElem?_map, List.getElem?_eq_getElem hi] at z
    exact Option.some.inj z
  · have b := (key p hp).2.1
    unfold emptyAt at b
    cases q : h.get? (He.cT (He.frG h.get? as) p).2 with
    | none =>
      rw [q] at b
      cases b
    | some o =>
      rw [q] at b
      rw [He.emptyTab_eq b]
def hookA (as : List Addr) (fa : List He.Fa) (fn : List He.DefD) (tf : List He.Defn) (ex : PySem.W.Frag → Bool) (ts : List He.Tab) : PySem.W.Hook where
  α := ObA
  obs := fun s => obsA as fa fn tf ex ts s.heap.get?
  val := fun w => valA fn ts w
  says := fun w h => ∃ K : PySem.W.Frag, K.In h ∧ SaysA as fa fn tf ex ts w h K
  of := fun _ _ e => ⟨_, He.frG_in, saysA_of e⟩
  keeps := fun _ _ _ ⟨K, hK, c⟩ k => ⟨K, PySem.W.Frag.In.keeps hK k, ⟨c.fact, c.defs, c.more, c.hd, c.out, fun p hp => k _ _ (c.empty p hp), c.dic⟩⟩
theorem obsA_eq {as : List Addr} {fa : List He.Fa} {fn : List He.DefD} {tf : List He.Defn} {ex : PySem.W.Frag → Bool} {ts : List He.Tab} {g : Addr → Option Obj} {s : Shared} (h : ∀ a, g a = s.heap.get? a) : obsA as fa fn tf ex ts g = (hookA as fa fn tf ex ts).obs s := by
  have e : g = s.heap.get? := funext h
  rw [e] <;> rfl
section
variable {as : List Addr} {fa : List He.Fa} {fn : List He.DefD} {tf : List He.Defn} {ex : PySem.W.Frag → Bool} {ts : List He.Tab} {w : World} {h : Heap} {K : PySem.W.Frag}
/-- d[k] of a dict of the top -/
theorem SaysA.tab (c : SaysA as fa fn tf ex ts w h K) (i : Nat) {t : He.Tab} (ht : ts[i]? = some t) {kvs : List (Str × He.Dv)} (hv : He.valsB K (t.1 K) kvs = true) : ∀ q ∈ kvs, KDct K w (t.1 K) q.1 (q.2.v K) := fun q hq => by
  have e2 : (ts.map fun t => He.dicW K (t.1 K))[i]? = (ts.map fun t => some (He.keysIn w.params t.2))[i]? := by rw [c.dic]
  rw [List.getElem?_map, List.getElem?_map, ht] at e2
  obtain ⟨es, n, hl, hk, _⟩ := He.dicW_ok (Option.some.inj e2)
  obtain ⟨u, hu, ru⟩ := He.valsB_ok hv hq
  exact ⟨es, n, u, hl, hk, hu, ru⟩
theorem SaysA.fnAt (c : SaysA as fa fn tf ex ts w h K) (i : Nat) {d : He.DefD} (hd : fn[i]? = some d) : ∃ fd, FunD K d.name d.qual d.params d.body d.scope (d.dvs K) (d.kws K) (He.fAd K d.at_) fd :=
  He.DefD.funD (c.defs d (List.mem_of_getElem? hd)).2 (c.defs d (List.mem_of_getElem? hd)).1
theorem SaysA.faAt (c : SaysA as fa fn tf ex ts w h K) (i : Nat) {f : He.Fa} (hf : fa[i]? = some f) : f.ok K = true := c.fact f (List.mem_of_getElem? hf)
theorem SaysA.free (c : SaysA as fa fn tf ex ts w h K) {mg : Str → Option Value} (X : K.In h) (G : h.Ns mainGlobals mg) (i : Nat) {x : Str} (hf : fa[i]? = some (.free x)) : mg x = none := He.free_ok X G (c.faAt i hf)
theorem SaysA.glo (c : SaysA as fa fn tf ex ts w h K) {mg : Str → Option Value} (X : K.In h) (G : h.Ns mainGlobals mg) (i : Nat) {x : Str} (hf : fa[i]? = some (.glo x)) : mg x = some (.ref (He.ga K x)) := He.glo_ok X G (c.faAt i hf)
theorem SaysA.int (c : SaysA as fa fn tf ex ts w h K) {mg : Str → Option Value} (X : K.In h) (G : h.Ns mainGlobals mg) (i : Nat) {x : Str} {z : Int} (hf : fa[i]? = some (.int x z)) : ∃ u, mg x = some u ∧ RelV (.int z) u := by
  obtain ⟨t, e⟩ := He.int_ok X G (c.faAt i hf)
  exact ⟨_, e, t, rfl⟩
theorem SaysA.str (c : SaysA as fa fn tf ex ts w h K) {mg : Str → Option Value} (X : K.In h) (G : h.Ns mainGlobals mg) (i : Nat) {x z : Str} (hf : fa[i]? = some (.str x z)) : ∃ u, mg x = some u ∧ RelV (.str z) u := by
  obtain ⟨t, e⟩ := He.str_ok X G (c.faAt i hf)
  exact ⟨_, e, t, rfl⟩
end
/-- the run in parts: each look by a kernel run of its own -/
theorem map_pair {α β γ : Type} {x : Option α} {f : α → β} {g : α → γ} {a : β} {b : γ} (h1 : x.map f = some a) (h2 : x.map g = some b) : x.map (fun s => (f s, g s)) = some (a, b) := by
  cases x with
  | none => cases h1
  | some s =>
    have e1 : f s = a := Option.some.inj h1
    have e2 : g s = b := Option.some.inj h2
    rw [← e1, ← e2] <;> rfl
end LR

/-! ### data: what pure code reckons (own work). H: what is known (a logical heap); the heap that runs is any that holds H -/
namespace LR
open PySem PySem.Spec PyProof.Rows L2 Evl
/-- H' is H with objects that are new (not in H1) -/
structure Ext (H H1 H' : Hp) : Prop where
  ex : Ex H H'
  fresh : ∀ b o, H' b = some o → H b = some o ∨ (H1 b = none ∧ ∀ ps, o ≠ .tbl ps)
theorem Ext.refl (H H1 : Hp) : Ext H H1 H := ⟨Ex.refl H, fun _ _ h => .inl h⟩
theorem Ext.trans {H H1 H' H2 H'' : Hp} (a : Ext H H1 H') (e : Ex H1 H2) (b : Ext H' H2 H'') : Ext H H1 H'' :=
  ⟨a.ex.trans b.ex, fun c o h => by
    rcases b.fresh c o h with z | z
    · exact a.fresh c o z
    · exact .inr ⟨fresh_back e z.1, z.2⟩⟩
theorem Ext.off {H H1 H' : Hp} (a : Ext H H1 H') {l : Addr} {o : HO} (h : H l = none) (h1 : H1 l = some o) : H' l = none := by
  cases q : H' l with
  | none => rfl
  | some u =>
    rcases a.fresh l u q with z | z
    · rw [h] at z
      cases z
    · rw [h1] at z
      cases z.1
theorem Ext.new {H H1 : Hp} {p : Addr} {o : HO} (e : Ex H H1) (h : H1 p = none) (ht : ∀ ps, o ≠ .tbl ps := by intro ps z; cases z) : Ext H H1 (upd H p o) :=
  ⟨Ex.new (fresh_back e h), fun b u q => by
    by_cases z : b = p
    · subst z
      rw [upd_same] at q
      cases q
      exact .inr ⟨h, ht⟩
    · rw [upd_ne z] at q
      exact .inl q⟩
/-- both heaps get the same new object -/
theorem ex_upd {H H1 : Hp} {p : Addr} {o : HO} (e : Ex H H1) : Ex (upd H p o) (upd H1 p o) := fun b u q => by
  by_cases z : b = p
  · subst z
    rw [upd_same] at q ⊢
    exact q
  · rw [upd_ne z] at q ⊢
    exact e b u q
/-- an object that H does not know is changed -/
theorem ex_off {H H1 : Hp} {p : Addr} {o : HO} (e : Ex H H1) (h : H p = none) : Ex H (upd H1 p o) := fun b u q => by
  rw [upd_ne (ne_of_none q h)]
  exact e b u q
/-! data at an address: lists that are tracked, tuples, numbers, texts -/
mutual
inductive Dt (K : PySem.W.Frag) (H : Hp) : V → PyData → Prop
  | non : Dt K H .non .none
  | bl (b : Bool) : Dt K H (.bl b) (.bool b)
  | int (i : Int) : Dt K H (.int i) (.int i)
  | str (x : Str) : Dt K H (.str x) (.str x)
  | lst {a : Addr} {xs : List V} {ds : List PyData} : H a = some (.lst xs) → DtAll K H xs ds → Dt K H (.ref a) (.list ds)
  | tup {a : Addr} {xs : List V} {ds : List PyData} : SqT K H a xs → DtAll K H xs ds → Dt K H (.ref a) (.tuple ds)
  /-- the law's script: a list that is read alone -/
  | scr {a : Addr} (ns : List Int) : SqL K H a (ns.map V.int) → Dt K H (.ref a) (.dict (ns.map fun i => (.int i, .none)))
inductive DtAll (K : PySem.W.Frag) (H : Hp) : List V → List PyData → Prop
  | nil : DtAll K H [] []
  | cons {v : V} {vs : List V} {d : PyData} {ds : List PyData} : Dt K H v d → DtAll K H vs ds → DtAll K H (v :: vs) (d :: ds)
end
section
variable {K : PySem.W.Frag} {H H' : Hp}
mutual
theorem Dt.ex (e : Ex H H') : ∀ {v : V} {d : PyData}, Dt K H v d → Dt K H' v d
  | _, _, .non => .non
  | _, _, .bl b => .bl b
  | _, _, .int i => .int i
  | _, _, .str x => .str x
  | _, _, .lst h r => .lst (e _ _ h) (DtAll.ex e r)
  | _, _, .tup h r => .tup (ex_t e h) (DtAll.ex e r)
  | _, _, .scr ns h => .scr ns (ex_l e h)
theorem DtAll.ex (e : Ex H H') : ∀ {vs : List V} {ds : List PyData}, DtAll K H vs ds → DtAll K H' vs ds
  | _, _, .nil => .nil
  | _, _, .cons a b => .cons (Dt.ex e a) (DtAll.ex e b)
end
mutual
theorem Dt.dp : ∀ {v : V} {d : PyData}, Dt K H v d → d.canLay0 = true → L2.Dp K H v d
  | _, _, .non, _ => .non
  | _, _, .bl b, _ => .bl b
  | _, _, .int i, _ => .int i
  | _, _, .str x, _ => .str x
  | _, _, .lst h r, c => .lst (sq_of h) (DtAll.dp r (by simpa [PyData.canLay0] using c))
  | _, _, .tup h r, c => .tup h (DtAll.dp r (by simpa [PyData.canLay0] using c))
  | _, _, .scr _ _, c => by simp [PyData.canLay0] at c
theorem DtAll.dp : ∀ {vs : List V} {ds : List PyData}, DtAll K H vs ds → PyData.canLayAll0 ds = true → L2.DpAll K H vs ds
  | _, _, .nil, _ => .nil
  | _, _, .cons a b, c => by
    simp only [PyData.canLayAll0, Bool.and_eq_true] at c
    exact .cons (Dt.dp a c.1) (DtAll.dp b c.2)
end
/-- the script as data -/
def scrD (ns : List Int) : PyData := .dict (ns.map fun i => (.int i, .none))
theorem scr_map_inj : ∀ {ns ms : List Int}, ns.map (fun i => ((.int i, .none) : PyData × PyData)) = ms.map (fun i => (.int i, .none)) → ns = ms
  | [], [], _ => rfl
  | [], _ :: _, h => by cases h
  | _ :: _, [], h => by cases h
  | a :: r, b :: q, h => by
    rw [List.map_cons, List.map_cons] at h
    injection h with h1 h2
    injection h1 with h3 _
    injection h3 with h4
    rw [h4, scr_map_inj h2]
theorem Dt.scr_eq {v : V} {ns : List Int} (h : Dt K H v (scrD ns)) : ∃ a, v = .ref a ∧ SqL K H a (ns.map V.int) := by
  unfold scrD at h
  generalize e : (PyData.dict (ns.map fun i => (.int i, .none))) = d at h
  cases h with
  | scr ms h =>
    injection e with e
    rw [scr_map_inj e]
    exact ⟨_, rfl, h⟩
  | _ => cases e
theorem DtAll.length : ∀ {vs : List V} {ds : List PyData}, DtAll K H vs ds → vs.length = ds.length
  | _, _, .nil => rfl
  | _, _, .cons _ b => congrArg Nat.succ (DtAll.length b)
theorem DtAll.get : ∀ {vs : List V} {ds : List PyData} {i : Nat} {d : PyData}, DtAll K H vs ds → ds[i]? = some d → ∃ v, vs[i]? = some v ∧ Dt K H v d
  | _, _, _, _, .nil, e => by simp at e
  | _, _, 0, _, .cons a _, e => by
    simp at e
    subst e
    exact ⟨_, rfl, a⟩
  | _, _, i + 1, d, .cons _ b, e => by
    obtain ⟨v, h1, h2⟩ := DtAll.get (i := i) (d := d) b (by simpa using e)
    exact ⟨v, by simpa using h1, h2⟩
theorem DtAll.get' {vs : List V} {ds : List PyData} {i : Nat} {v : V} (h : DtAll K H vs ds) (e : vs[i]? = some v) : ∃ d, ds[i]? = some d ∧ Dt K H v d := by
  have hl : i < ds.length := by rw [← h.length]; exact (List.getElem?_eq_some_iff.mp e).1
  obtain ⟨w, h1, h2⟩ := h.get (i := i) (d := ds[i]) (List.getElem?_eq_getElem hl)
  rw [e] at h1
  cases h1
  exact ⟨_, List.getElem?_eq_getElem hl, h2⟩
theorem DtAll.append : ∀ {vs ws : List V} {ds es : List PyData}, DtAll K H vs ds → DtAll K H ws es → DtAll K H (vs ++ ws) (ds ++ es)
  | _, _, _, _, .nil, b => b
  | _, _, _, _, .cons a r, b => .cons a (DtAll.append r b)
theorem DtAll.take : ∀ {vs : List V} {ds : List PyData} (n : Nat), DtAll K H vs ds → DtAll K H (vs.take n) (ds.take n)
  | _, _, 0, _ => .nil
  | _, _, _ + 1, .nil => .nil
  | _, _, n + 1, .cons a r => .cons a (DtAll.take n r)
theorem DtAll.drop : ∀ {vs : List V} {ds : List PyData} (n : Nat), DtAll K H vs ds → DtAll K H (vs.drop n) (ds.drop n)
  | _, _, 0, r => r
  | _, _, _ + 1, .nil => .nil
  | _, _, n + 1, .cons _ r => DtAll.drop n r
/-- what is a whole number, a text .. stands alone -/
theorem Dt.int_eq {v : V} {i : Int} (h : Dt K H v (.int i)) : v = .int i := by cases h; rfl
theorem Dt.str_eq {v : V} {x : Str} (h : Dt K H v (.str x)) : v = .str x := by cases h; rfl
theorem Dt.bl_eq {v : V} {b : Bool} (h : Dt K H v (.bool b)) : v = .bl b := by cases h; rfl
theorem Dt.non_eq {v : V} (h : Dt K H v .none) : v = .non := by cases h; rfl
theorem Dt.tup_eq {v : V} {ds : List PyData} (h : Dt K H v (.tuple ds)) : ∃ a xs, v = .ref a ∧ SqT K H a xs ∧ DtAll K H xs ds := by
  cases h with
  | tup h r => exact ⟨_, _, rfl, h, r⟩
theorem Dt.lst_eq {v : V} {ds : List PyData} (h : Dt K H v (.list ds)) : ∃ a xs, v = .ref a ∧ H a = some (.lst xs) ∧ DtAll K H xs ds := by
  cases h with
  | lst h r => exact ⟨_, _, rfl, h, r⟩
theorem dp_strs : ∀ (l : List Str), DtAll K H (l.map V.str) (l.map PyData.str)
  | [] => .nil
  | x :: r => .cons (.str x) (dp_strs r)
theorem dp_ints : ∀ (l : List Int), DtAll K H (l.map V.int) (l.map PyData.int)
  | [] => .nil
  | x :: r => .cons (.int x) (dp_ints r)
theorem strs_dp : ∀ {l : List Str} {vs : List V}, DtAll K H vs (l.map PyData.str) → vs = l.map V.str
  | [], _, .nil => rfl
  | x :: r, _, .cons a b => by rw [a.str_eq, strs_dp b]; rfl
theorem ints_dp : ∀ {l : List Int} {vs : List V}, DtAll K H vs (l.map PyData.int) → vs = l.map V.int
  | [], _, .nil => rfl
  | x :: r, _, .cons a b => by rw [a.int_eq, ints_dp b]; rfl
theorem bls_dp : ∀ {l : List Bool} {vs : List V}, DtAll K H vs (l.map PyData.bool) → vs = l.map V.bl
  | [], _, .nil => rfl
  | x :: r, _, .cons a b => by rw [a.bl_eq, bls_dp b]; rfl
end

/-! ### what evaluates to data -/
/-- two heaps as one -/
def unH (A B : Hp) : Hp := fun b => match A b with
  | some o => some o
  | none => B b
theorem unH_l {A B : Hp} {b : Addr} {o : HO} (h : A b = some o) : unH A B b = some o := by
  unfold unH
  rw [h]
theorem unH_r {A B : Hp} {b : Addr} (h : A b = none) : unH A B b = B b := by
  unfold unH
  rw [h]
theorem unH_ex {A B H2 : Hp} (ea : Ex A H2) (eb : Ex B H2) : Ex (unH A B) H2 := fun b o hb => by
  cases z : A b with
  | some u =>
    rw [unH_l z] at hb
    cases hb
    exact ea b _ z
  | none =>
    rw [unH_r z] at hb
    exact eb b o hb
theorem ex_unH {A B H2 : Hp} (ea : Ex A H2) (eb : Ex B H2) : Ex B (unH A B) := fun b o hb => by
  cases z : A b with
  | some u =>
    have h1 := ea b _ z
    rw [eb b o hb] at h1
    cases h1
    exact unH_l z
  | none =>
    rw [unH_r z]
    exact hb
theorem ext_unH {A B H H1 : Hp} (e : Ex H A) (x : Ext H H1 B) : Ext A H1 (unH A B) := ⟨fun b o hb => unH_l hb, fun b o hb => by
  cases z : A b with
  | some u =>
    rw [unH_l z] at hb
    exact .inl hb
  | none =>
    rw [unH_r z] at hb
    rcases x.fresh b o hb with y | y
    · rw [e b o y] at z
      cases z
    · exact .inr y⟩
/-- what follows an evaluation: the heap has grown, H' holds the answer -/
abbrev KD (K : PySem.W.Frag) (H H1 : Hp) (d : PyData) (Q : VK) : Prop := ∀ v H2 H', Ex H1 H2 → Ex H' H2 → Ext H H1 H' → Dt K H' v d → Q v H2
def EvD (K : PySem.W.Frag) (te : TE) (σ : L2.St) (H : Hp) (d : PyData) : Prop := ∀ H1, Ex H H1 → ∀ Q : VK, KD K H H1 d Q → te σ H1 Q
def EvB (tt : TT) (σ : L2.St) (H : Hp) (b : Bool) : Prop := ∀ H1, Ex H H1 → ∀ Q : Bool → Hp → Prop, (∀ H2, Ex H1 H2 → Q b H2) → tt σ H1 Q
def EvDs (K : PySem.W.Frag) (ta : TA) (σ : L2.St) (H : Hp) (ds : List PyData) : Prop := ∀ H1, Ex H H1 → ∀ Q : List V → Hp → Prop, (∀ vs H2 H', Ex H1 H2 → Ex H' H2 → Ext H H1 H' → DtAll K H' vs ds → Q vs H2) → ta σ H1 Q
/-- a slot's part -/
def EvO (to : TO) (σ : L2.St) (H : Hp) (o : Option Int) : Prop := ∀ H1, Ex H H1 → ∀ Q : Option Int → Hp → Prop, (∀ H2, Ex H1 H2 → Q o H2) → to σ H1 Q
/-- an operation on data -/
def RD2 (K : PySem.W.Frag) (r : R2) (d e : PyData) (H : Hp) (z : PyData) : Prop := ∀ H' x y, Ex H H' → Dt K H' x d → Dt K H' y e → ∀ H1, Ex H' H1 → ∀ Q : VK, KD K H' H1 z Q → r x y H1 Q
def RDU (K : PySem.W.Frag) (r : V → Hp → VK → Prop) (d : PyData) (H : Hp) (z : PyData) : Prop := ∀ H' x, Ex H H' → Dt K H' x d → ∀ H1, Ex H' H1 → ∀ Q : VK, KD K H' H1 z Q → r x H1 Q
def RDC (K : PySem.W.Frag) (r : List V → Hp → VK → Prop) (ds : List PyData) (H : Hp) (z : PyData) : Prop := ∀ H' vs, Ex H H' → DtAll K H' vs ds → ∀ H1, Ex H' H1 → ∀ Q : VK, KD K H' H1 z Q → r vs H1 Q
section
variable {K : PySem.W.Frag} {σ : L2.St} {H H' H1 : Hp} {ta tb te tc : TE} {t u : TT} {d e z : PyData}
theorem KD.now {v : V} {Q : VK} (q : KD K H H1 d Q) (e : Ex H H1) (h : Dt K H v d) : Q v H1 := q v H1 H (Ex.refl _) e (Ext.refl _ _) h
/-- a new object is laid: the answer -/
theorem KD.new {p : Addr} {o : HO} {Q : VK} (q : KD K H H1 d Q) (e : Ex H H1) (h : H1 p = none) (hd : Dt K (upd H p o) (.ref p) d) (ht : ∀ ps, o ≠ .tbl ps := by intro ps z; cases z) : Q (.ref p) (upd H1 p o) :=
  q _ _ (upd H p o) (Ex.new h) (ex_upd e) (Ext.new e h ht) hd
theorem EvD.mono (h : EvD K te σ H d) (e : Ex H H') : EvD K te σ H' d := fun H1 e1 Q q => h H1 (e.trans e1) Q fun v H2 H'' e2 e3 x hd =>
  q v H2 (unH H' H'') e2 (unH_ex (e1.trans e2) e3) (ext_unH e x) (Dt.ex (ex_unH (e1.trans e2) e3) hd)
theorem EvB.mono {b : Bool} (h : EvB t σ H b) (e : Ex H H') : EvB t σ H' b := fun H1 e1 Q q => h H1 (e.trans e1) Q q
theorem EvDs.mono {ta : TA} {ds : List PyData} (h : EvDs K ta σ H ds) (e : Ex H H') : EvDs K ta σ H' ds := fun H1 e1 Q q => h H1 (e.trans e1) Q fun v H2 H'' e2 e3 x hd =>
  q v H2 (unH H' H'') e2 (unH_ex (e1.trans e2) e3) (ext_unH e x) (DtAll.ex (ex_unH (e1.trans e2) e3) hd)
theorem ed_var {i : Nat} {v : V} (h : σ[i]? = some (some v)) (hd : Dt K H v d) : EvD K (tVar i) σ H d := fun H1 e Q q => ⟨v, h, KD.now q e hd⟩
theorem ed_c {v : V} (hd : Dt K H v d) : EvD K (tC v) σ H d := fun H1 e Q q => KD.now q e hd
theorem ed_op {r : R2} (ha : EvD K ta σ H d) (hb : EvD K tb σ H e) (hr : RD2 K r d e H z) : EvD K (tOp r ta tb) σ H z := fun H1 e1 Q q =>
  ha H1 e1 _ fun x H2 Ha e2 ea xa da => (hb.mono xa.ex) H2 ea _ fun y H3 Hb e3 eb xb db => hr Hb x y (xa.ex.trans xb.ex) (Dt.ex xb.ex da) db H3 eb Q fun v H4 Hc e4 ec xc dc =>
    q v H4 Hc ((e2.trans e3).trans e4) ec ((xa.trans e2 xb).trans (e2.trans e3) xc) dc
theorem ed_un {r : V → Hp → VK → Prop} (ha : EvD K ta σ H d) (hr : RDU K r d H z) : EvD K (tUn r ta) σ H z := fun H1 e1 Q q =>
  ha H1 e1 _ fun x H2 Ha e2 ea xa da => hr Ha x xa.ex da H2 ea Q fun v H4 Hc e4 ec xc dc => q v H4 Hc (e2.trans e4) ec (xa.trans e2 xc) dc
theorem ed_cb {r : List V → Hp → VK → Prop} {ta : TA} {ds : List PyData} (ha : EvDs K ta σ H ds) (hr : RDC K r ds H z) : EvD K (tCB r ta) σ H z := fun H1 e1 Q q =>
  ha H1 e1 _ fun x H2 Ha e2 ea xa da => hr Ha x xa.ex da H2 ea Q fun v H4 Hc e4 ec xc dc => q v H4 Hc (e2.trans e4) ec (xa.trans e2 xc) dc
theorem eds_nil : EvDs K tNil σ H [] := fun H1 e Q q => q [] H1 H (Ex.refl _) e (Ext.refl _ _) .nil
theorem eds_cons {tr : TA} {ds : List PyData} (ha : EvD K ta σ H d) (hr : EvDs K tr σ H ds) : EvDs K (tCons ta tr) σ H (d :: ds) := fun H1 e1 Q q =>
  ha H1 e1 _ fun x H2 Ha e2 ea xa da => (hr.mono xa.ex) H2 ea _ fun ys H3 Hb e3 eb xb db => q (x :: ys) H3 Hb (e2.trans e3) eb (xa.trans e2 xb) (.cons (Dt.ex xb.ex da) db)
theorem ed_tup {ta : TA} {ds : List PyData} (ha : EvDs K ta σ H ds) (hl : ds.length ≤ 100000) : EvD K (tTup ta) σ H (.tuple ds) := fun H1 e1 Q q =>
  ha H1 e1 _ fun xs H2 Ha e2 ea xa da => ⟨by rw [da.length]; exact sz_of hl, fun p hp => q _ _ (upd Ha p (.tup xs)) (e2.trans (Ex.new hp)) (ex_upd ea) (xa.trans e2 (Ext.new ea hp)) (.tup (st_of upd_same) (DtAll.ex (Ex.new (fresh_back ea hp)) da))⟩
theorem ed_lst {ta : TA} {ds : List PyData} (ha : EvDs K ta σ H ds) (hl : ds.length ≤ 100000) : EvD K (tLst ta) σ H (.list ds) := fun H1 e1 Q q =>
  ha H1 e1 _ fun xs H2 Ha e2 ea xa da => ⟨by rw [da.length]; exact sz_of hl, fun p hp => q _ _ (upd Ha p (.lst xs)) (e2.trans (Ex.new hp)) (ex_upd ea) (xa.trans e2 (Ext.new ea hp)) (.lst upd_same (DtAll.ex (Ex.new (fresh_back ea hp)) da))⟩
theorem ed_is {w : PyData} (h : EvD K te σ H d) (e : d = w) : EvD K te σ H w := e ▸ h
/-! tests -/
theorem eb_test {b : Bool} (h : EvD K te σ H (.bool b)) : EvB (tTest te) σ H b := fun H1 e _ q => h H1 e _ fun v H2 _ e2 _ _ dv => ⟨b, dv.bl_eq, q H2 e2⟩
theorem eb_B {b : Bool} (h : EvD K te σ H (.bool b)) : EvB (tB te) σ H b := fun H1 e _ q => h H1 e _ fun v H2 _ e2 _ _ dv => ⟨b, dv.bl_eq, q H2 e2⟩
theorem eb_and {a b : Bool} (h1 : EvB t σ H a) (h2 : a = true → EvB u σ H b) : EvB (tAnd t u) σ H (a && b) := fun H1 e Q q => h1 H1 e _ fun H2 e2 => by
  cases a with
  | true => exact h2 rfl H2 (e.trans e2) Q fun H3 e3 => q H3 (e2.trans e3)
  | false => exact q H2 e2
theorem eb_or {a b : Bool} (h1 : EvB t σ H a) (h2 : a = false → EvB u σ H b) : EvB (tOr t u) σ H (a || b) := fun H1 e Q q => h1 H1 e _ fun H2 e2 => by
  cases a with
  | true => exact q H2 e2
  | false => exact h2 rfl H2 (e.trans e2) Q fun H3 e3 => q H3 (e2.trans e3)
theorem eb_not {a : Bool} (h1 : EvB t σ H a) : EvB (tNot t) σ H (!a) := fun H1 e _ q => h1 H1 e _ fun H2 e2 => q H2 e2
theorem eb_is {a b : Bool} (h : EvB t σ H a) (e : a = b) : EvB t σ H b := e ▸ h
theorem ed_and {a b : Bool} (h1 : EvD K ta σ H (.bool a)) (h2 : a = true → EvD K tb σ H (.bool b)) : EvD K (tAndV ta tb) σ H (.bool (a && b)) := fun H1 e Q q => h1 H1 e _ fun v H2 Ha e2 ea xa dv => ⟨a, dv.bl_eq, by
  cases a with
  | true => exact (h2 rfl).mono xa.ex H2 ea Q fun v H3 Hb e3 eb xb db => q v H3 Hb (e2.trans e3) eb (xa.trans e2 xb) db
  | false => exact q _ H2 Ha e2 ea xa (.bl false)⟩
theorem ed_or {a b : Bool} (h1 : EvD K ta σ H (.bool a)) (h2 : a = false → EvD K tb σ H (.bool b)) : EvD K (tOrV ta tb) σ H (.bool (a || b)) := fun H1 e Q q => h1 H1 e _ fun v H2 Ha e2 ea xa dv => ⟨a, dv.bl_eq, by
  cases a with
  | true => exact q _ H2 Ha e2 ea xa (.bl true)
  | false => exact (h2 rfl).mono xa.ex H2 ea Q fun v H3 Hb e3 eb xb db => q v H3 Hb (e2.trans e3) eb (xa.trans e2 xb) db⟩
theorem ed_not {a : Bool} (h1 : EvD K ta σ H (.bool a)) : EvD K (tNotV ta) σ H (.bool (!a)) := fun H1 e Q q => h1 H1 e _ fun v H2 Ha e2 ea xa dv => ⟨a, dv.bl_eq, q _ H2 Ha e2 ea xa (.bl _)⟩
theorem ed_if {b : Bool} (h : EvB t σ H b) (h1 : b = true → EvD K ta σ H d) (h2 : b = false → EvD K tb σ H d) : EvD K (tIf t ta tb) σ H d := fun H1 e Q q => h H1 e _ fun H2 e2 => by
  cases b with
  | true => exact h1 rfl H2 (e.trans e2) Q fun v H3 Hb e3 eb xb db => q v H3 Hb (e2.trans e3) eb ⟨xb.ex, fun b o hb => (xb.fresh b o hb).imp id fun z => ⟨fresh_back e2 z.1, z.2⟩⟩ db
  | false => exact h2 rfl H2 (e.trans e2) Q fun v H3 Hb e3 eb xb db => q v H3 Hb (e2.trans e3) eb ⟨xb.ex, fun b o hb => (xb.fresh b o hb).imp id fun z => ⟨fresh_back e2 z.1, z.2⟩⟩ db
/-- a < b < c -/
theorem ed_chain {r r' : R2} {a b : Bool} {f : PyData} (ha : EvD K ta σ H d) (hb : EvD K tb σ H e) (hr : RD2 K r d e H (.bool a)) (hc : a = true → EvD K tc σ H f) (hr' : a = true → RD2 K r' e f H (.bool b)) : EvD K (tChain r r' ta tb tc) σ H (.bool (a && b)) := fun H1 e1 Q q =>
  ha H1 e1 _ fun x H2 Ha e2 ea xa da => (hb.mono xa.ex) H2 ea _ fun y H3 Hb e3 eb xb db => hr Hb x y (xa.ex.trans xb.ex) (Dt.ex xb.ex da) db H3 eb _ fun v H4 Hc e4 ec xc dc => ⟨a, dc.bl_eq, by
    cases a with
    | true => exact ((hc rfl).mono ((xa.ex.trans xb.ex).trans xc.ex)) H4 ec _ fun z H5 Hd e5 ed xd dd => hr' rfl Hd y z (((xa.ex.trans xb.ex).trans xc.ex).trans xd.ex) (Dt.ex (xc.ex.trans xd.ex) db) dd H5 ed Q fun v H6 He e6 ee xe de => q v H6 He ((((e2.trans e3).trans e4).trans e5).trans e6) ee ((((xa.trans e2 xb).trans (e2.trans e3) xc).trans ((e2.trans e3).trans e4) xd).trans (((e2.trans e3).trans e4).trans e5) xe) de
    | false => exact q _ H4 Hc ((e2.trans e3).trans e4) ec ((xa.trans e2 xb).trans (e2.trans e3) xc) (.bl false)⟩
end
end LR

/-! ### operations on data (own work) -/
namespace LR
open PySem PySem.Spec PyProof.Rows L2 Evl
section
variable {X : Cx}
/-! text times a number -/
def rRepS : R2 := fun x y H Q => ∃ (z : Str) (k : Int), x = .str z ∧ y = .int k ∧ -(2 ^ 60) ≤ k ∧ k ≤ 1000 ∧ z.length ≤ 1000 ∧ Q (.str ⟨(List.replicate k.toNat z.cps.toList).flatten.toArray⟩) H
theorem foldl_app (l : List (Array Nat)) : ∀ a : Array Nat, l.foldl (· ++ ·) a = (a.toList ++ (l.map Array.toList).flatten).toArray := by
  induction l with
  | nil => intro a; simp
  | cons x r ih =>
    intro a
    rw [List.foldl_cons, ih, List.map_cons, List.flatten_cons]
    apply Array.toList_inj.mp
    simp
theorem op_repS : OpR X (binaryOp .Mult) rRepS := by
  intro pins s σ H x y v u Q I rx ry h
  obtain ⟨z, k, rfl, rfl, h1, h2, h3, q⟩ := h
  obtain ⟨t, rfl⟩ := rx
  obtain ⟨t', rfl⟩ := ry
  have e0 : ∀ m : Nat, (List.replicate m z.cps).foldl (· ++ ·) #[] = (List.replicate m z.cps.toList).flatten.toArray := fun m => by
    rw [foldl_app]
    simp
  refine PySem.P.mul_str ?_ (fun a b => ?_) (fun a b => ?_) ?_
  · have a1 : ¬ k < -(2 ^ 63) := by omega
    have a2 : ¬ k ≥ 2 ^ 63 := by omega
    rw [decide_eq_false a1, decide_eq_false a2]
    rfl
  · have : (2 ^ 63 - 1) / k ≥ 1000 := by
      have : (1000 : Int) * k ≤ 2 ^ 63 - 1 := by omega
      exact (Int.le_ediv_iff_mul_le (by omega)).mpr this
    omega
  · have hk : k.toNat ≤ 1000 := by omega
    have : z.length * k.toNat ≤ 1000 * 1000 := Nat.mul_le_mul h3 hk
    unfold Builtin.Str.tooLong
    simp only [decide_eq_false_iff_not, Nat.not_lt, gt_iff_lt]
    exact Nat.le_trans this (by decide)
  · by_cases c1 : k < 1
    · rw [if_pos c1]
      have e1 : k.toNat = 0 := by omega
      rw [e1] at q
      exact ⟨by decide, .str Str.empty, H, I.tok _, ⟨_, rfl⟩, q⟩
    · rw [if_neg c1]
      by_cases c2 : (k == 1 || z.length == 0) = true
      · rw [if_pos c2]
        have e1 : (⟨(List.replicate k.toNat z.cps.toList).flatten.toArray⟩ : Str) = z := by
          apply Str.ext'
          rcases Bool.or_eq_true_iff.mp c2 with c | c
          · have : k = 1 := by simpa using c
            subst this
            simp
          · have hz : z.cps = #[] := by
              have : z.cps.size = 0 := by simpa [Str.length] using c
              exact Array.eq_empty_of_size_eq_zero this
            rw [hz]
            simp
        rw [e1] at q
        exact ⟨.str z, H, I, ⟨_, rfl⟩, q⟩
      · rw [if_neg c2]
        rw [← e0] at q
        refine ⟨?_, .str _, H, I.tok _, ⟨_, rfl⟩, q⟩
        have hk : k.toNat ≤ 1000 := by omega
        have h5 : z.length * k.toNat ≤ 1000 * 1000 := Nat.mul_le_mul h3 hk
        rw [e0]
        have h6 : (⟨(List.replicate k.toNat z.cps.toList).flatten.toArray⟩ : Str).length = z.length * k.toNat := by
          simp [Str.length, Nat.mul_comm]
        rw [h6]
        exact Nat.le_trans h5 (by decide)
/-! the universal operators -/
def rAddU (K : PySem.W.Frag) : R2 := fun x y H Q => (rI0 fun i j => .int (i + j)) x y H Q ∨ ((∃ i j, x = .str i ∧ y = .str j ∧ i.length + j.length ≤ sizeLine ∧ Q (.str (i ++ j)) H) ∨ (rCat x y H Q ∨ rCatA K x y H Q))
theorem op_addU : OpR X (binaryOp .Add) (rAddU X.K) := op_add.or (op_add_str.or (op_cat.or op_catA))
def rMulU (K : PySem.W.Frag) : R2 := fun x y H Q => (rI CMul fun i j => .int (i * j)) x y H Q ∨ (rRepS x y H Q ∨ (rRep x y H Q ∨ rRepT K x y H Q))
theorem op_mulU : OpR X (binaryOp .Mult) (rMulU X.K) := op_mul.or (op_repS.or (op_rep.or op_repT))
def rEqU (K : PySem.W.Frag) : R2 := fun x y H Q => rEq x y H Q ∨ rEqD K x y H Q
theorem op_eqU (hu : X.A.units + 64 < cLine) : OpR X (compareOp .Eq) (rEqU X.K) := op_eq.or (op_eqD hu)
def rNeU (K : PySem.W.Frag) : R2 := fun x y H Q => rNe x y H Q ∨ rNeD K x y H Q
theorem op_neU (hu : X.A.units + 64 < cLine) : OpR X (compareOp .NotEq) (rNeU X.K) := op_ne.or (op_neD hu)
def rLtU : R2 := fun x y H Q => (rI0 fun i j => .bl (decide (i < j))) x y H Q ∨ (∃ i j, x = .str i ∧ y = .str j ∧ Q (.bl (decide (i.cps.toList < j.cps.toList))) H)
theorem op_ltU : OpR X (compareOp .Lt) rLtU := op_lt.or op_lt_str
end
section
variable {K : PySem.W.Frag} {H : Hp}
/-- a value that needs no new object -/
theorem KD.val {d : PyData} {v : V} {H1 : Hp} {Q : VK} (q : KD K H H1 d Q) (e : Ex H H1) (h : ∀ H, Dt K H v d) : Q v H1 := q v H1 H (Ex.refl _) e (Ext.refl _ _) (h H)
theorem rd_I0 {g : Int → Int → Int} {i j : Int} : RD2 K (rI0 fun i j => .int (g i j)) (.int i) (.int j) H (.int (g i j)) := fun H' x y _ dx dy H1 e1 Q q =>
  ⟨i, j, dx.int_eq, dy.int_eq, q.val e1 fun _ => .int _⟩
theorem rd_IB {g : Int → Int → Bool} {i j : Int} : RD2 K (rI0 fun i j => .bl (g i j)) (.int i) (.int j) H (.bool (g i j)) := fun H' x y _ dx dy H1 e1 Q q =>
  ⟨i, j, dx.int_eq, dy.int_eq, q.val e1 fun _ => .bl _⟩
theorem rd_I {C : Int → Int → Prop} {g : Int → Int → Int} {i j : Int} (hc : C i j) : RD2 K (rI C fun i j => .int (g i j)) (.int i) (.int j) H (.int (g i j)) := fun H' x y _ dx dy H1 e1 Q q =>
  ⟨i, j, dx.int_eq, dy.int_eq, hc, q.val e1 fun _ => .int _⟩
theorem rd_addI {i j : Int} : RD2 K (rAddU K) (.int i) (.int j) H (.int (i + j)) := fun H' x y e dx dy H1 e1 Q q => .inl (rd_I0 (g := fun i j => i + j) H' x y e dx dy H1 e1 Q q)
theorem rd_addS {a b : Str} (h : a.length + b.length ≤ sizeLine) : RD2 K (rAddU K) (.str a) (.str b) H (.str (a ++ b)) := fun H' x y _ dx dy H1 e1 Q q =>
  .inr (.inl ⟨a, b, dx.str_eq, dy.str_eq, h, q.val e1 fun _ => .str _⟩)
theorem rd_addL {ds es : List PyData} (h : ds.length + es.length ≤ 100000) : RD2 K (rAddU K) (.list ds) (.list es) H (.list (ds ++ es)) := fun H' x y _ dx dy H1 e1 Q q => by
  obtain ⟨a, xs, rfl, ha, ra⟩ := dx.lst_eq
  obtain ⟨b, ys, rfl, hb, rb⟩ := dy.lst_eq
  refine .inr (.inr (.inl ⟨a, b, xs, ys, rfl, rfl, e1 a _ ha, e1 b _ hb, ?_, fun p hp => ?_⟩))
  · rw [ra.length, rb.length]
    exact sz_of h
  · exact q.new e1 hp (.lst upd_same (DtAll.ex (Ex.new (fresh_back e1 hp)) (ra.append rb)))
theorem rd_addT {ds es : List PyData} (h : ds.length + es.length ≤ 100000) : RD2 K (rAddU K) (.tuple ds) (.tuple es) H (.tuple (ds ++ es)) := fun H' x y _ dx dy H1 e1 Q q => by
  obtain ⟨a, xs, rfl, ha, ra⟩ := dx.tup_eq
  obtain ⟨b, ys, rfl, hb, rb⟩ := dy.tup_eq
  refine .inr (.inr (.inr ⟨a, b, xs, ys, rfl, rfl, ex_t e1 ha, ex_t e1 hb, ?_, fun z => ?_, fun z1 z2 => ?_, fun _ _ p hp => ?_⟩))
  · rw [ra.length, rb.length]
    exact sz_of h
  · subst z
    cases ra
    exact q.now e1 (.tup hb rb)
  · subst z2
    cases rb
    rw [List.append_nil] at q
    exact q.now e1 (.tup ha ra)
  · exact q.new e1 hp (.tup (st_of upd_same) (DtAll.ex (Ex.new (fresh_back e1 hp)) (ra.append rb)))
theorem rd_mulI {i j : Int} (h : CMul i j) : RD2 K (rMulU K) (.int i) (.int j) H (.int (i * j)) := fun H' x y e dx dy H1 e1 Q q => .inl (rd_I (g := fun i j => i * j) h H' x y e dx dy H1 e1 Q q)
theorem rd_mulS {z : Str} {k : Int} (h1 : -(2 ^ 60) ≤ k) (h2 : k ≤ 1000) (h3 : z.length ≤ 1000) : RD2 K (rMulU K) (.str z) (.int k) H (.str ⟨(List.replicate k.toNat z.cps.toList).flatten.toArray⟩) := fun H' x y e dx dy H1 e1 Q q =>
  .inr (.inl ⟨z, k, dx.str_eq, dy.int_eq, h1, h2, h3, q.val e1 fun _ => .str _⟩)
theorem rd_ltS {a b : Str} : RD2 K rLtU (.str a) (.str b) H (.bool (decide (a.cps.toList < b.cps.toList))) := fun H' x y _ dx dy H1 e1 Q q => .inr ⟨a, b, dx.str_eq, dy.str_eq, q.val e1 fun _ => .bl _⟩
theorem rd_ltI {i j : Int} : RD2 K rLtU (.int i) (.int j) H (.bool (decide (i < j))) := fun H' x y e dx dy H1 e1 Q q => .inl (rd_IB (g := fun i j => decide (i < j)) H' x y e dx dy H1 e1 Q q)
theorem rd_eqD {d e : PyData} (h1 : SeqAt.shaped d = true) (h2 : SeqAt.shaped e = true) : RD2 K (rEqD K) d e H (.bool (PyData.eqv d e)) := fun H' x y _ dx dy H1 e1 Q q =>
  ⟨d, e, (Dt.ex e1 dx).dp (SeqAt.canLay_of_shaped h1), (Dt.ex e1 dy).dp (SeqAt.canLay_of_shaped h2), h1, h2, q.val e1 fun _ => .bl _⟩
theorem rd_neD {d e : PyData} (h1 : SeqAt.shaped d = true) (h2 : SeqAt.shaped e = true) : RD2 K (rNeD K) d e H (.bool (!PyData.eqv d e)) := fun H' x y _ dx dy H1 e1 Q q =>
  ⟨d, e, (Dt.ex e1 dx).dp (SeqAt.canLay_of_shaped h1), (Dt.ex e1 dy).dp (SeqAt.canLay_of_shaped h2), h1, h2, q.val e1 fun _ => .bl _⟩
theorem rd_eqU {d e : PyData} (h1 : SeqAt.shaped d = true) (h2 : SeqAt.shaped e = true) : RD2 K (rEqU K) d e H (.bool (PyData.eqv d e)) := fun H' x y ex dx dy H1 e1 Q q => .inr (rd_eqD h1 h2 H' x y ex dx dy H1 e1 Q q)
theorem rd_neU {d e : PyData} (h1 : SeqAt.shaped d = true) (h2 : SeqAt.shaped e = true) : RD2 K (rNeU K) d e H (.bool (!PyData.eqv d e)) := fun H' x y ex dx dy H1 e1 Q q => .inr (rd_neD h1 h2 H' x y ex dx dy H1 e1 Q q)
theorem rd_eqI {i j : Int} : RD2 K (rEqU K) (.int i) (.int j) H (.bool (decide (i = j))) := fun H' x y ex dx dy H1 e1 Q q => by
  rw [dx.int_eq, dy.int_eq]
  refine .inl ⟨rfl, ?_⟩
  have e : decide (V.int i = V.int j) = decide (i = j) := decide_eq_decide.mpr ⟨fun h => V.int.inj h, fun h => by rw [h]⟩
  rw [e]
  exact q.val e1 fun _ => .bl _
theorem rd_neI {i j : Int} : RD2 K (rNeU K) (.int i) (.int j) H (.bool (!decide (i = j))) := fun H' x y ex dx dy H1 e1 Q q => by
  rw [dx.int_eq, dy.int_eq]
  refine .inl ⟨rfl, ?_⟩
  have e : decide (V.int i = V.int j) = decide (i = j) := decide_eq_decide.mpr ⟨fun h => V.int.inj h, fun h => by rw [h]⟩
  rw [e]
  exact q.val e1 fun _ => .bl _
theorem rd_eqS {i j : Str} : RD2 K (rEqU K) (.str i) (.str j) H (.bool (decide (i = j))) := fun H' x y ex dx dy H1 e1 Q q => by
  rw [dx.str_eq, dy.str_eq]
  refine .inl ⟨rfl, ?_⟩
  have e : decide (V.str i = V.str j) = decide (i = j) := decide_eq_decide.mpr ⟨fun h => V.str.inj h, fun h => by rw [h]⟩
  rw [e]
  exact q.val e1 fun _ => .bl _
theorem rd_neS {i j : Str} : RD2 K (rNeU K) (.str i) (.str j) H (.bool (!decide (i = j))) := fun H' x y ex dx dy H1 e1 Q q => by
  rw [dx.str_eq, dy.str_eq]
  refine .inl ⟨rfl, ?_⟩
  have e : decide (V.str i = V.str j) = decide (i = j) := decide_eq_decide.mpr ⟨fun h => V.str.inj h, fun h => by rw [h]⟩
  rw [e]
  exact q.val e1 fun _ => .bl _
theorem rd_eqB {i j : Bool} : RD2 K (rEqU K) (.bool i) (.bool j) H (.bool (decide (i = j))) := fun H' x y ex dx dy H1 e1 Q q => by
  rw [dx.bl_eq, dy.bl_eq]
  refine .inl ⟨rfl, ?_⟩
  have e : decide (V.bl i = V.bl j) = decide (i = j) := decide_eq_decide.mpr ⟨fun h => V.bl.inj h, fun h => by rw [h]⟩
  rw [e]
  exact q.val e1 fun _ => .bl _
theorem rd_neB {i j : Bool} : RD2 K (rNeU K) (.bool i) (.bool j) H (.bool (!decide (i = j))) := fun H' x y ex dx dy H1 e1 Q q => by
  rw [dx.bl_eq, dy.bl_eq]
  refine .inl ⟨rfl, ?_⟩
  have e : decide (V.bl i = V.bl j) = decide (i = j) := decide_eq_decide.mpr ⟨fun h => V.bl.inj h, fun h => by rw [h]⟩
  rw [e]
  exact q.val e1 fun _ => .bl _
/-- is True, is False -/
theorem rd_isB {a b : Bool} : RD2 K (fun x y H Q => ∃ a b, x = .bl a ∧ y = .bl b ∧ Q (.bl (decide (a = b))) H) (.bool a) (.bool b) H (.bool (decide (a = b))) := fun H' x y ex dx dy H1 e1 Q q => ⟨a, b, dx.bl_eq, dy.bl_eq, q.val e1 fun _ => .bl _⟩
theorem rd_isnotB {a b : Bool} : RD2 K (fun x y H Q => ∃ a b, x = .bl a ∧ y = .bl b ∧ Q (.bl (!decide (a = b))) H) (.bool a) (.bool b) H (.bool (!decide (a = b))) := fun H' x y ex dx dy H1 e1 Q q => ⟨a, b, dx.bl_eq, dy.bl_eq, q.val e1 fun _ => .bl _⟩
theorem dp_intsD : ∀ l : List Int, L2.DpAll K H (l.map V.int) (l.map .int)
  | [] => .nil
  | n :: r => .cons (.int n) (dp_intsD r)
theorem lay_ints : ∀ l : List Int, PyData.canLayAll0 (l.map .int) = true
  | [] => rfl
  | n :: r => by simp only [List.map_cons, PyData.canLayAll0, PyData.canLay0, Bool.true_and, lay_ints r]
theorem depth_ints : ∀ l : List Int, PyData.depthAll (l.map .int) = 0
  | [] => rfl
  | n :: r => by simp only [List.map_cons, PyData.depthAll, PyData.depth, depth_ints r]; rfl
/-- script != [] -/
theorem rd_neScr {ns : List Int} : RD2 K (rNeU K) (scrD ns) (.list []) H (.bool (!ns.isEmpty)) := fun H' x y ex dx dy H1 e1 Q q => by
  obtain ⟨a, rfl, h⟩ := dx.scr_eq
  refine .inr ⟨.list (ns.map .int), .list [], .lst (ex_l e1 h) (dp_intsD ns), (Dt.ex e1 dy).dp rfl, ?_, rfl, ?_⟩
  · unfold SeqAt.shaped
    simp only [PyData.canLay0, lay_ints, PyData.depth, depth_ints, Bool.true_and]
    rfl
  · have e : PyData.eqv (.list (ns.map .int)) (.list []) = ns.isEmpty := by
      cases ns <;> rfl
    rw [e]
    exact q.val e1 fun _ => .bl _
/-- script[i] -/
theorem rd_ixScr {ns : List Int} {i : Int} {n : Int} (h : atI ns i = some n) : RD2 K (rIx K) (scrD ns) (.int i) H (.int n) := fun H' x y _ dx dy H1 e1 Q q => by
  obtain ⟨a, rfl, ha⟩ := dx.scr_eq
  unfold atI at h
  obtain ⟨j, hj, hd⟩ := Option.bind_eq_some_iff.mp h
  refine .inl ⟨a, _, i, .int n, rfl, dy.int_eq, ex_l e1 ha, ?_, q.val e1 fun _ => .int _⟩
  unfold atI
  rw [List.length_map, hj]
  show (ns.map V.int)[j]? = some (V.int n)
  rw [List.getElem?_map, hd]
  rfl
theorem rd_ixT {ds : List PyData} {i : Int} {d : PyData} (h : atI ds i = some d) : RD2 K (rIx K) (.tuple ds) (.int i) H d := fun H' x y _ dx dy H1 e1 Q q => by
  obtain ⟨a, xs, rfl, ha, ra⟩ := dx.tup_eq
  unfold atI at h
  rw [← ra.length] at h
  obtain ⟨j, hj, hd⟩ := Option.bind_eq_some_iff.mp h
  obtain ⟨v, hv, dv⟩ := ra.get hd
  refine .inr (.inl ⟨a, xs, i, v, rfl, dy.int_eq, ex_t e1 ha, ?_, q.now e1 dv⟩)
  unfold atI
  rw [hj]
  exact hv
theorem rd_ixL {ds : List PyData} {i : Int} {d : PyData} (h : atI ds i = some d) : RD2 K (rIx K) (.list ds) (.int i) H d := fun H' x y _ dx dy H1 e1 Q q => by
  obtain ⟨a, xs, rfl, ha, ra⟩ := dx.lst_eq
  unfold atI at h
  rw [← ra.length] at h
  obtain ⟨j, hj, hd⟩ := Option.bind_eq_some_iff.mp h
  obtain ⟨v, hv, dv⟩ := ra.get hd
  refine .inl ⟨a, xs, i, v, rfl, dy.int_eq, sq_of (e1 a _ ha), ?_, q.now e1 dv⟩
  unfold atI
  rw [hj]
  exact hv
theorem rd_ixS {z : Str} {i : Int} {c : Nat} (hl : z.length ≤ 100000) (h : atI z.cps.toList i = some c) : RD2 K (rIx K) (.str z) (.int i) H (.str ⟨#[c]⟩) := fun H' x y _ dx dy H1 e1 Q q =>
  .inr (.inr ⟨z, i, c, dx.str_eq, dy.int_eq, sz_of hl, h, q.val e1 fun _ => .str _⟩)
/-- isinstance of a built-in class -/
def tyD : PyData → String
  | .none => "NoneType"
  | .bool _ => "bool"
  | .int _ => "int"
  | .str _ => "str"
  | .list _ => "list"
  | .tuple _ => "tuple"
  | .dict _ => "list"
theorem Dt.ty {v : V} {d : PyData} (h : Dt K H v d) : TyX K H v (.type (tyD d)) := by
  cases h with
  | non => exact .base .non
  | bl b => exact .base (.bl b)
  | int i => exact .base (.int i)
  | str x => exact .base (.str x)
  | lst h _ => exact .base (.lst h)
  | tup h _ =>
    rcases h with (h | ⟨o, h⟩) | ⟨o, its, n, h1, h2, _⟩
    · exact .base (.tup h)
    · exact .fTuple h
    · exact .kTuple h1 h2
  | scr ns h =>
    rcases h with (h | ⟨o, h⟩) | ⟨o, its, n, h1, h2, _⟩
    · exact .base (.lst h)
    · exact .base (.frz h)
    · exact .kList h1 h2
theorem rdc_isi {d : PyData} {n : String} {b : Bool} (h : kitB (tyD d) n = some b) : ∀ H' vs, Ex H H' → ∀ v, Dt K H' v d → vs = [v, V.ty n] → ∀ H1, Ex H' H1 → ∀ Q : VK, KD K H' H1 (.bool b) Q → rIsi K vs H1 Q := fun H' vs _ v dv hv H1 e1 Q q =>
  ⟨v, .ty n, .type (tyD d), .type n, b, hv, .ty n, (Dt.ex e1 dv).ty, kit_ty h, q.val e1 fun _ => .bl _⟩
end
section
variable {K : PySem.W.Frag} {σ : L2.St} {H : Hp} {ta te : TE} {d : PyData}
/-- isinstance(e, T) -/
theorem ed_isi {n : String} {b : Bool} (ha : EvD K ta σ H d) (h : kitB (tyD d) n = some b) : EvD K (tCB (rIsi K) (tCons ta (tCons (tC (.ty n)) tNil))) σ H (.bool b) := fun H1 e1 Q q =>
  ha H1 e1 _ fun x H2 Ha e2 ea xa da => rdc_isi (H := H) h Ha _ xa.ex x da rfl H2 ea Q fun v H4 Hc e4 ec xc dc => q v H4 Hc (e2.trans e4) ec (xa.trans e2 xc) dc
/-- len -/
def lenR (K : PySem.W.Frag) : List V → Hp → VK → Prop := fun xs H Q => ∃ x n, xs = [x] ∧ LenV K x H n ∧ Q (.int n) H
theorem ed_lenS {z : Str} (ha : EvD K ta σ H (.str z)) (h : z.length ≤ sizeLine) : EvD K (tCB (lenR K) (tCons ta tNil)) σ H (.int z.length) := fun H1 e1 Q q =>
  ha H1 e1 _ fun x H2 Ha e2 ea xa da => by
    rw [da.str_eq]
    exact ⟨_, _, rfl, ⟨h, rfl⟩, q _ H2 Ha e2 ea xa (.int _)⟩
theorem ed_lenL {ds : List PyData} (ha : EvD K ta σ H (.list ds)) : EvD K (tCB (lenR K) (tCons ta tNil)) σ H (.int ds.length) := fun H1 e1 Q q =>
  ha H1 e1 _ fun x H2 Ha e2 ea xa da => by
    obtain ⟨a, xs, rfl, h, r⟩ := da.lst_eq
    refine ⟨_, _, rfl, .inl ⟨xs, sq_of (ea a _ h), rfl⟩, ?_⟩
    rw [r.length]
    exact q _ H2 Ha e2 ea xa (.int _)
theorem ed_lenT {ds : List PyData} (ha : EvD K ta σ H (.tuple ds)) : EvD K (tCB (lenR K) (tCons ta tNil)) σ H (.int ds.length) := fun H1 e1 Q q =>
  ha H1 e1 _ fun x H2 Ha e2 ea xa da => by
    obtain ⟨a, xs, rfl, h, r⟩ := da.tup_eq
    refine ⟨_, _, rfl, .inr ⟨xs, ex_t ea h, rfl⟩, ?_⟩
    rw [r.length]
    exact q _ H2 Ha e2 ea xa (.int _)
theorem ed_lenScr {ns : List Int} (ha : EvD K ta σ H (scrD ns)) : EvD K (tCB (lenR K) (tCons ta tNil)) σ H (.int ns.length) := fun H1 e1 Q q =>
  ha H1 e1 _ fun x H2 Ha e2 ea xa da => by
    obtain ⟨a, rfl, h⟩ := da.scr_eq
    refine ⟨_, _, rfl, .inl ⟨_, ex_l ea h, rfl⟩, ?_⟩
    rw [List.length_map]
    exact q _ H2 Ha e2 ea xa (.int _)
/-- all, any of a list of truths -/
theorem ed_all {bs : List Bool} (ha : EvD K ta σ H (.list (bs.map .bool))) : EvD K (tCB (rAll K) (tCons ta tNil)) σ H (.bool (bs.all id)) := fun H1 e1 Q q =>
  ha H1 e1 _ fun x H2 Ha e2 ea xa da => by
    obtain ⟨a, xs, rfl, h, r⟩ := da.lst_eq
    refine ⟨a, bs, rfl, sq_of ?_, q _ H2 Ha e2 ea xa (.bl _)⟩
    rw [← bls_dp r]
    exact ea a _ h
theorem ed_any {bs : List Bool} (ha : EvD K ta σ H (.list (bs.map .bool))) : EvD K (tCB (rAny K) (tCons ta tNil)) σ H (.bool (bs.any id)) := fun H1 e1 Q q =>
  ha H1 e1 _ fun x H2 Ha e2 ea xa da => by
    obtain ⟨a, xs, rfl, h, r⟩ := da.lst_eq
    refine ⟨a, bs, rfl, sq_of ?_, q _ H2 Ha e2 ea xa (.bl _)⟩
    rw [← bls_dp r]
    exact ea a _ h
/-- one sign in a text -/
def rInS : R2 := fun x y H Q => ∃ (c : Nat) (z : Str), x = .str ⟨#[c]⟩ ∧ y = .str z ∧ Q (.bl (decide (c ∈ z.cps.toList))) H
theorem rd_inS {c : Nat} {z : Str} : RD2 K rInS (.str ⟨#[c]⟩) (.str z) H (.bool (decide (c ∈ z.cps.toList))) := fun H' x y _ dx dy H1 e1 Q q => ⟨c, z, dx.str_eq, dy.str_eq, q.val e1 fun _ => .bl _⟩
/-- parts of a slice -/
theorem eo_none : EvO tNoPart σ H none := fun H1 _ _ q => q H1 (Ex.refl H1)
theorem eo_some {i : Int} (h : EvD K te σ H (.int i)) : EvO (tPart te) σ H (some i) := fun H1 e _ q => h H1 e _ fun v H2 _ e2 _ _ dv => ⟨i, dv.int_eq, q H2 e2⟩
theorem EvO.mono {to : TO} {o : Option Int} {H' : Hp} (h : EvO to σ H o) (e : Ex H H') : EvO to σ H' o := fun H1 e1 Q q => h H1 (e.trans e1) Q q
/-- slices: a text, a list, a tuple -/
def rSlU (K : PySem.W.Frag) : V → Option Int → Option Int → Hp → VK → Prop := fun x lo hi H Q => rSlS x lo hi H Q ∨ (rSlL K x lo hi H Q ∨ rSlA K x lo hi H Q)
theorem sl_U {X : Cx} : SlR X (rSlU X.K) := sl_str.or (sl_list.or sl_tupA)
theorem ed_slS {z : Str} {tl th : TO} {lo hi : Option Int} (ha : EvD K ta σ H (.str z)) (h1 : EvO tl σ H lo) (h2 : EvO th σ H hi) (hl : z.length ≤ 100000) : EvD K (tSl (rSlU K) ta tl th) σ H (.str (cutS z lo hi)) := fun H1 e1 Q q =>
  ha H1 e1 _ fun x H2 Ha e2 ea xa da => (h1.mono xa.ex) H2 ea _ fun H3 e3 => (h2.mono xa.ex) H3 (ea.trans e3) _ fun H4 e4 =>
    .inl ⟨z, da.str_eq, sz_of hl, q _ H4 Ha ((e2.trans e3).trans e4) ((ea.trans e3).trans e4) xa (.str _)⟩
def cutD (ds : List PyData) (lo hi : Option Int) : List PyData := (ds.drop (HT.sIx ds.length 0 lo)).take (HT.sIx ds.length ds.length hi - HT.sIx ds.length 0 lo)
theorem cut_dt {xs : List V} {ds : List PyData} (r : DtAll K H xs ds) (lo hi : Option Int) : DtAll K H (cutV xs lo hi) (cutD ds lo hi) := by
  unfold cutV cutD
  rw [r.length]
  exact (r.drop _).take _
theorem ed_slL {ds : List PyData} {tl th : TO} {lo hi : Option Int} (ha : EvD K ta σ H (.list ds)) (h1 : EvO tl σ H lo) (h2 : EvO th σ H hi) : EvD K (tSl (rSlU K) ta tl th) σ H (.list (cutD ds lo hi)) := fun H1 e1 Q q =>
  ha H1 e1 _ fun x H2 Ha e2 ea xa da => (h1.mono xa.ex) H2 ea _ fun H3 e3 => (h2.mono xa.ex) H3 (ea.trans e3) _ fun H4 e4 => by
    obtain ⟨a, xs, rfl, h, r⟩ := da.lst_eq
    refine .inr (.inl ⟨a, xs, rfl, sq_of (((ea.trans e3).trans e4) a _ h), fun p hp => ?_⟩)
    exact q _ _ (upd Ha p _) (((e2.trans e3).trans e4).trans (Ex.new hp)) (ex_upd ((ea.trans e3).trans e4)) (xa.trans ((e2.trans e3).trans e4) (Ext.new ((ea.trans e3).trans e4) hp)) (.lst upd_same (DtAll.ex (Ex.new (fresh_back ((ea.trans e3).trans e4) hp)) (cut_dt r lo hi)))
theorem cut_all {xs : List V} {lo hi : Option Int} (h1 : HT.sIx xs.length 0 lo = 0) (h2 : HT.sIx xs.length xs.length hi = xs.length) {ds : List PyData} (hl : xs.length = ds.length) : cutD ds lo hi = ds := by
  unfold cutD
  rw [← hl, h1, h2, List.drop_zero, Nat.sub_zero, hl, List.take_length]
theorem ed_slT {ds : List PyData} {tl th : TO} {lo hi : Option Int} (ha : EvD K ta σ H (.tuple ds)) (h1 : EvO tl σ H lo) (h2 : EvO th σ H hi) : EvD K (tSl (rSlU K) ta tl th) σ H (.tuple (cutD ds lo hi)) := fun H1 e1 Q q =>
  ha H1 e1 _ fun x H2 Ha e2 ea xa da => (h1.mono xa.ex) H2 ea _ fun H3 e3 => (h2.mono xa.ex) H3 (ea.trans e3) _ fun H4 e4 => by
    obtain ⟨a, xs, rfl, h, r⟩ := da.tup_eq
    refine .inr (.inr ⟨a, xs, rfl, ex_t ((ea.trans e3).trans e4) h, fun z => ?_, fun _ p hp => ?_⟩)
    · rw [cut_all z.1 z.2 r.length] at q
      exact q _ H4 Ha ((e2.trans e3).trans e4) ((ea.trans e3).trans e4) xa (.tup h r)
    · exact q _ _ (upd Ha p _) (((e2.trans e3).trans e4).trans (Ex.new hp)) (ex_upd ((ea.trans e3).trans e4)) (xa.trans ((e2.trans e3).trans e4) (Ext.new ((ea.trans e3).trans e4) hp)) (.tup (st_of upd_same) (DtAll.ex (Ex.new (fresh_back ((ea.trans e3).trans e4) hp)) (cut_dt r lo hi)))
end
end LR

/-! ### slots, statements, loops over data (own work) -/
namespace LR
open PySem PySem.Spec PyProof.Rows L2 Evl
/-- what is known of a slot: data, a value itself, nothing -/
inductive SD where
  | dat (d : PyData)
  | val (v : V)
  | unk
def SdOk (K : PySem.W.Frag) (H : Hp) : Option V → SD → Prop
  | some v, .dat d => Dt K H v d
  | some v, .val w => v = w
  | _, .unk => True
  | none, .dat _ => False
  | none, .val _ => False
/-- the slots as they are known -/
inductive Sl (K : PySem.W.Frag) (H : Hp) : L2.St → List SD → Prop
  | nil : Sl K H [] []
  | cons {o : Option V} {σ : L2.St} {s : SD} {ss : List SD} : SdOk K H o s → Sl K H σ ss → Sl K H (o :: σ) (s :: ss)
section
variable {K : PySem.W.Frag} {H H' : Hp} {σ : L2.St} {ss : List SD}
theorem SdOk.ex (e : Ex H H') {o : Option V} {s : SD} (h : SdOk K H o s) : SdOk K H' o s := by
  cases o with
  | none => cases s <;> exact h
  | some v =>
    cases s with
    | dat d => exact Dt.ex e h
    | val w => exact h
    | unk => trivial
theorem Sl.ex (e : Ex H H') : ∀ {σ : L2.St} {ss : List SD}, Sl K H σ ss → Sl K H' σ ss
  | _, _, .nil => .nil
  | _, _, .cons a b => .cons (a.ex e) (Sl.ex e b)
theorem Sl.get : ∀ {σ : L2.St} {ss : List SD} {i : Nat} {s : SD}, Sl K H σ ss → ss[i]? = some s → ∃ o, σ[i]? = some o ∧ SdOk K H o s
  | _, _, _, _, .nil, e => by simp at e
  | _, _, 0, _, .cons a _, e => by
    simp at e
    subst e
    exact ⟨_, rfl, a⟩
  | _, _, i + 1, s, .cons _ b, e => by
    obtain ⟨v, h1, h2⟩ := Sl.get (i := i) (s := s) b (by simpa using e)
    exact ⟨v, by simpa using h1, h2⟩
theorem Sl.dat {i : Nat} {d : PyData} (s : Sl K H σ ss) (h : ss[i]? = some (.dat d)) : ∃ v, σ[i]? = some (some v) ∧ Dt K H v d := by
  obtain ⟨o, h1, h2⟩ := s.get h
  cases o with
  | none => exact h2.elim
  | some v => exact ⟨v, h1, h2⟩
theorem Sl.val {i : Nat} {v : V} (s : Sl K H σ ss) (h : ss[i]? = some (.val v)) : σ[i]? = some (some v) := by
  obtain ⟨o, h1, h2⟩ := s.get h
  cases o with
  | none => exact h2.elim
  | some w =>
    have e : w = v := h2
    rw [e] at h1
    exact h1
theorem Sl.set {s : SD} {o : Option V} (h : SdOk K H o s) : ∀ {σ : L2.St} {ss : List SD} (i : Nat), Sl K H σ ss → Sl K H (σ.set i o) (ss.set i s)
  | _, _, _, .nil => .nil
  | _, _, 0, .cons _ b => .cons h b
  | _, _, i + 1, .cons a b => .cons a (Sl.set h i b)
theorem Sl.length : ∀ {σ : L2.St} {ss : List SD}, Sl K H σ ss → σ.length = ss.length
  | _, _, .nil => rfl
  | _, _, .cons _ b => congrArg Nat.succ (Sl.length b)
/-- a slot is forgotten -/
theorem Sl.forget : ∀ {σ : L2.St} {ss : List SD} (i : Nat), Sl K H σ ss → Sl K H σ (ss.set i .unk)
  | _, _, _, .nil => .nil
  | _, _, 0, .cons (o := o) _ b => .cons (by cases o <;> trivial) b
  | _, _, i + 1, .cons a b => .cons a (Sl.forget i b)
/-- the slots of a comprehension's own names are forgotten -/
def wipeS (ss : List SD) : List Nat → List SD
  | [] => ss
  | v :: vs => (wipeS ss vs).set v .unk
theorem Sl.wipe : ∀ (vs : List Nat), Sl K H σ ss → Sl K H (L2.wipe σ vs) (wipeS ss vs)
  | [], s => s
  | v :: vs, s => Sl.set (s := .unk) (o := none) trivial v (Sl.wipe vs s)
/-- the start of a def -/
theorem sl_start {vs : List V} : ∀ {ds : List PyData} (n : Nat), DtAll K H vs ds → Sl K H (vs.map some ++ List.replicate n none) (ds.map .dat ++ List.replicate n .unk) := by
  intro ds n h
  induction vs generalizing ds with
  | nil =>
    cases h
    induction n with
    | zero => exact .nil
    | succ n ih => exact .cons trivial ih
  | cons v vs ih =>
    cases h with
    | cons a b => exact .cons a (ih b)
theorem sl_unk : ∀ (n : Nat), Sl K H (List.replicate n none) (List.replicate n .unk)
  | 0 => .nil
  | n + 1 => .cons trivial (sl_unk n)
end
/-- where one stands: H is known, H1 is the heap; H0, H10 the same at the def's entry -/
structure Now (H0 H10 H H1 : Hp) : Prop where
  ex : Ex H H1
  ext : Ext H0 H10 H
  grow : Ex H10 H1
theorem Now.start {H0 H10 : Hp} (e : Ex H0 H10) : Now H0 H10 H0 H10 := ⟨e, Ext.refl _ _, Ex.refl _⟩
theorem Now.on {H0 H10 H H1 H' H2 : Hp} (n : Now H0 H10 H H1) (e2 : Ex H1 H2) (e : Ex H' H2) (x : Ext H H1 H') : Now H0 H10 H' H2 := ⟨e, n.ext.trans n.grow x, n.grow.trans e2⟩
/-- a list of one's own is changed -/
theorem Now.mut {H0 H10 H H1 : Hp} (n : Now H0 H10 H H1) {l : Addr} {o : HO} (h : H l = none) (h0 : H10 l = none) : Now H0 H10 H (upd H1 l o) :=
  ⟨ex_off n.ex h, n.ext, ex_off n.grow h0⟩
section
variable {K : PySem.W.Frag} {H0 H10 H H1 : Hp} {σ : L2.St} {ss : List SD} {te ta : TE} {tt : TT} {d : PyData} {D : Ends} {t1 t2 : TS}
theorem ed_sl {i : Nat} (s : Sl K H σ ss) (h : ss[i]? = some (.dat d)) : EvD K (tVar i) σ H d := by
  obtain ⟨v, h1, h2⟩ := s.dat h
  exact ed_var h1 h2
theorem st_ret {Q : VK} (n : Now H0 H10 H H1) (h : EvD K te σ H d) (q : KD K H0 H10 d Q) (hQ : D.rt = Q := by rfl) : tRet te D σ H1 := by
  subst hQ
  exact h H1 n.ex _ fun v H2 H' e2 e x dv => q v H2 H' (n.grow.trans e2) e (n.ext.trans n.grow x) dv
theorem st_retN {Q : VK} (n : Now H0 H10 H H1) (q : KD K H0 H10 .none Q) (hQ : D.rt = Q := by rfl) : tRetN D σ H1 := by
  subst hQ
  exact q _ H1 H n.grow n.ex n.ext .non
theorem st_asg {i : Nat} (n : Now H0 H10 H H1) (s : Sl K H σ ss) (h : EvD K te σ H d) (k : ∀ σ' H' H2, Ex H H' → Now H0 H10 H' H2 → Sl K H' σ' (ss.set i (.dat d)) → D.nx σ' H2) : tAsg te (gName i) D σ H1 :=
  h H1 n.ex _ fun v H2 H' e2 e x dv => k _ H' H2 x.ex (n.on e2 e x) ((s.ex x.ex).set (s := .dat d) (o := some v) dv i)
theorem st_if {b : Bool} (n : Now H0 H10 H H1) (h : EvB tt σ H b) (k1 : b = true → ∀ H2, Now H0 H10 H H2 → t1 D σ H2) (k2 : b = false → ∀ H2, Now H0 H10 H H2 → t2 D σ H2) : tIfS tt t1 t2 D σ H1 :=
  h H1 n.ex _ fun H2 e2 => by
    have n2 : Now H0 H10 H H2 := ⟨n.ex.trans e2, n.ext, n.grow.trans e2⟩
    cases b with
    | true => exact k1 rfl H2 n2
    | false => exact k2 rfl H2 n2
/-- a new list of one's own, empty, in slot i -/
theorem st_new {i : Nat} (n : Now H0 H10 H H1) (s : Sl K H σ ss) (k : ∀ l σ' H2, H l = none → H10 l = none → H2 l = some (.lst []) → Now H0 H10 H H2 → Sl K H σ' (ss.set i (.val (.ref l))) → D.nx σ' H2) : tAsg (tLst tNil) (gName i) D σ H1 :=
  ⟨by show 0 ≤ sizeLine; exact Nat.zero_le _, fun p hp => k p _ _ (fresh_back n.ex hp) (fresh_back n.grow hp) upd_same ⟨n.ex.trans (Ex.new hp), n.ext, n.grow.trans (Ex.new hp)⟩ (s.set (s := .val (.ref p)) (o := some (.ref p)) rfl i)⟩
/-- l.append(e), the list in slot i -/
theorem st_app {i : Nat} {l : Addr} {vs : List V} (n : Now H0 H10 H H1) (s : Sl K H σ ss) (hi : ss[i]? = some (.val (.ref l))) (hl : H l = none) (h0 : H10 l = none) (h1 : H1 l = some (.lst vs)) (hz : vs.length < 100000) (h : EvD K te σ H d)
    (k : ∀ v H' H2, Ex H H' → H' l = none → Dt K H' v d → H2 l = some (.lst (vs ++ [v])) → Now H0 H10 H' H2 → Sl K H' σ ss → D.nx σ H2) : tDrop (tBM K "list" rAppend (tVar i) (tCons te tNil)) D σ H1 :=
  ⟨.ref l, s.val hi, Or.inl ⟨rfl, vs, sq_of h1⟩, h H1 n.ex _ fun v H2 H' e2 e x dv => ⟨l, vs, v, rfl, rfl, e2 l _ h1, sz_lt hz,
    k v H' _ x.ex (x.off hl h1) dv upd_same ((n.on e2 e x).mut (x.off hl h1) h0) (s.ex x.ex)⟩⟩
end
/-! ### walks -/
/-- what is walked: n turns, the i-th item is told by Y (what is known where it is walked, the turn, the heap then, the item, the heap behind it) -/
def EvI (wi : TI) (σ : L2.St) (H : Hp) (n : Nat) (Y : Hp → Nat → Hp → V → Hp → Prop) : Prop := ∀ H1, Ex H H1 → ∀ R : It → Hp → Prop, (∀ J (G : Hp → Prop) H2 H', Ex H1 H2 → Ex H' H2 → Ext H H1 H' → (∀ H3, Ex H' H3 → G H3) → Walk J n G (Y H') → R J H2) → wi σ H1 R
section
variable {K : PySem.W.Frag} {σ : L2.St} {H : Hp} {te : TE}
/-- items of data -/
def YD (K : PySem.W.Frag) (ds : List PyData) : Hp → Nat → Hp → V → Hp → Prop := fun Hi i H v H' => H' = H ∧ ∃ d, ds[i]? = some d ∧ Dt K Hi v d
/-- signs of a text -/
def YS (z : Str) : Hp → Nat → Hp → V → Hp → Prop := fun _ i H v H' => H' = H ∧ ∃ c, z.cps[i]? = some c ∧ v = .str ⟨#[c]⟩
theorem ei_str {z : Str} (h : EvD K te σ H (.str z)) : EvI (iStr te) σ H z.cps.size (YS z) := fun H1 e1 R r =>
  h H1 e1 _ fun v H2 H' e2 e x dv => ⟨z, dv.str_eq, r _ (fun _ => True) H2 H' e2 e x (fun _ _ => trivial) walk_str⟩
theorem ei_range {ta : TA} {n : Int} (h : EvDs K ta σ H [.int n]) (h1 : -(2 ^ 62) ≤ n) (h2 : n < 2 ^ 62) : EvI (iRng1 ta) σ H n.toNat (fun _ => YFn fun i => .int (0 + i)) := fun H1 e1 R r =>
  h H1 e1 _ fun vs H2 H' e2 e x dv => ⟨n, by cases dv with | cons a b => cases b; rw [a.int_eq], h1, h2, r _ (fun _ => True) H2 H' e2 e x (fun _ _ => trivial) walk_range⟩
theorem ei_range2 {ta : TA} {m n : Int} (h : EvDs K ta σ H [.int m, .int n]) (h1 : -(2 ^ 62) ≤ m ∧ m < 2 ^ 62 ∧ -(2 ^ 62) ≤ n ∧ n < 2 ^ 62) : EvI (iRng2 ta) σ H (n - m).toNat (fun _ => YFn fun i => .int (m + i)) := fun H1 e1 R r =>
  h H1 e1 _ fun vs H2 H' e2 e x dv => ⟨m, n, by cases dv with | cons a b => cases b with | cons c f => cases f; rw [a.int_eq, c.int_eq], h1, r _ (fun _ => True) H2 H' e2 e x (fun _ _ => trivial) walk_range⟩
end
section
variable {K : PySem.W.Frag} {H0 H10 H H1 : Hp} {σ : L2.St} {ss : List SD} {te ta : TE} {tt : TT} {d : PyData} {D : Ends} {t1 t2 : TS}
/-- a for: k is asked where the walked thing is known; Pv by the turn, the slots and the heap -/
theorem st_for {wi : TI} {g : TG} {tb : TS} {n : Nat} {Y : Hp → Nat → Hp → V → Hp → Prop} (nw : Now H0 H10 H H1) (h : EvI wi σ H n Y)
    (k : ∀ Hb H2, Ex H Hb → Now H0 H10 Hb H2 → Ex H1 H2 → ∃ Pv : Nat → L2.St → Hp → Prop, Pv 0 σ H2 ∧ (∀ i σ' H3, Pv i σ' H3 → Ex Hb H3) ∧
      (∀ i x σ' H3 H4, i < n → Pv i σ' H3 → Y Hb i H3 x H4 → g x σ' H4 fun σ2 H5 => tb { D with nx := Pv (i + 1), ct := Pv (i + 1), bk := D.nx } σ2 H5) ∧ ∀ σ' H3, Pv n σ' H3 → D.nx σ' H3) : tFor wi g tb D σ H1 :=
  h H1 nw.ex _ fun J G H2 H' e2 e x hG w => by
    obtain ⟨Pv, p0, pe, pt, pd⟩ := k H' H2 x.ex (nw.on e2 e x) e2
    exact for_it (w.mono (G' := fun H3 => Ex H' H3) (fun H3 e3 => hG H3 e3) fun _ _ _ _ _ _ y => y) Pv p0 (fun i σ' H3 _ p => pe i σ' H3 p) (fun i y σ' H3 H4 hi p yy => pt i y σ' H3 H4 hi p yy) pd
/-- a while: W by a measure, the slots and the heap -/
theorem st_while {tb : TS} {tc : TT} (W : Nat → L2.St → Hp → Prop) (m0 : Nat) (h0 : W m0 σ H1)
    (hs : ∀ m σ' H', W m σ' H' → ∃ Hl b, Ex Hl H' ∧ EvB tc σ' Hl b ∧ (b = true → ∀ H2, Ex H' H2 → tb { D with nx := fun σ2 H3 => ∃ m', m' < m ∧ W m' σ2 H3, ct := fun σ2 H3 => ∃ m', m' < m ∧ W m' σ2 H3, bk := D.nx } σ' H2) ∧ (b = false → ∀ H2, Ex H' H2 → D.nx σ' H2)) : tWhile tc tb D σ H1 :=
  ⟨W, ⟨m0, h0⟩, fun m σ' H' w => by
    obtain ⟨Hl, b, e, eb, k1, k2⟩ := hs m σ' H' w
    refine eb H' e _ fun H2 e2 => ?_
    cases b with
    | true => exact ⟨_, fun _ _ z => z, k1 rfl H2 e2⟩
    | false => exact k2 rfl H2 e2⟩
/-! ### list comprehensions -/
/-- a target takes an item: the slots behind it -/
def EvG (g : TG) (x : V) (σ : L2.St) (H : Hp) (σ2 : L2.St) : Prop := ∀ Q : L2.St → Hp → Prop, Q σ2 H → g x σ H Q
theorem eg_name {j : Nat} {x : V} : EvG (gName j) x σ H (σ.set j (some x)) := fun _ q => q
theorem eg_nil : ∀ Q : L2.St → Hp → Prop, Q σ H → gNil [] σ H Q := fun _ q => ⟨rfl, q⟩
/-- (a, b) = a pair -/
theorem eg_pair {i j : Nat} {a : Addr} {x y : V} (h : SqT K H a [x, y]) : EvG (gTup K 2 (gCons (gName i) (gCons (gName j) gNil))) (.ref a) σ H ((σ.set i (some x)).set j (some y)) := fun _ q =>
  ⟨a, [x, y], rfl, h, rfl, x, [y], rfl, y, [], rfl, rfl, q⟩
/-- what evaluates to a new list -/
def EvN (K : PySem.W.Frag) (te : TE) (σ : L2.St) (H : Hp) (ds : List PyData) : Prop := ∀ H1, Ex H H1 → ∀ Q : VK, (∀ q H2 H', Ex H1 H2 → Ex H' H2 → Ext H H1 H' → H1 q = none → (∃ xs, H' q = some (.lst xs) ∧ DtAll K H' xs ds) → Q (.ref q) H2) → te σ H1 Q
theorem EvN.ed {K : PySem.W.Frag} {te : TE} {σ : L2.St} {H : Hp} {ds : List PyData} (h : EvN K te σ H ds) : EvD K te σ H (.list ds) := fun H1 e1 Q q => h H1 e1 Q fun p H2 H' e2 e x _ ⟨xs, h1, h2⟩ => q _ H2 H' e2 e x (.lst h1 h2)
theorem en_is {K : PySem.W.Frag} {te : TE} {σ : L2.St} {H : Hp} {ds es : List PyData} (h : EvN K te σ H ds) (e : ds = es) : EvN K te σ H es := e ▸ h
theorem en_lc {wi : TI} {g : TG} {tt : TT} {te : TE} {vs : List Nat} {n : Nat} {Y : Hp → Nat → Hp → V → Hp → Prop} (els : Nat → Option PyData) {out : List PyData} (hw : EvI wi σ H n Y)
    (ht : ∀ i, i < n → ∀ Hi Hb H2 x H3, Ex H Hi → Ex Hi Hb → Ex Hb H2 → Y Hi i H2 x H3 → ∃ Hc σ2, Ext Hb H2 Hc ∧ Ex Hc H3 ∧ Ex H2 H3 ∧ EvG g x (L2.wipe σ vs) H3 σ2 ∧ L2.wipe σ2 vs = L2.wipe σ vs ∧
      ∃ b, EvB tt σ2 Hc b ∧ (b = false → els i = none) ∧ (b = true → ∃ d, els i = some d ∧ EvD K te σ2 Hc d)) (hn : n ≤ 50000) (ho : out = (List.range n).filterMap els) : EvN K (tLc wi g tt te vs) σ H out := fun H1 e1 Q q =>
  hw H1 e1 _ fun J G H2 Hb e2 eb xb hG w Dl hD => by
    have hDb : Hb Dl = none := fresh_back eb hD
    have hD1 : H1 Dl = none := fresh_back e2 hD
    refine lc_it (w.mono (G' := fun H3 => Ex Hb H3) (fun H3 e3 => hG H3 e3) fun _ _ _ _ _ _ y => y)
      (fun i Hr => ∃ Hl acc, Ex Hb Hl ∧ Ex Hl Hr ∧ Ex H1 Hr ∧ Ext H H1 Hl ∧ Hl Dl = none ∧ Hr Dl = some (.lst acc) ∧ DtAll K Hl acc ((List.range i).filterMap els) ∧ acc.length ≤ i) ?_ ?_ ?_ ?_
    · exact ⟨Hb, [], Ex.refl _, eb.trans (Ex.new hD), e2.trans (Ex.new hD), xb, hDb, upd_same, .nil, Nat.le_refl _⟩
    · rintro i Hr hi ⟨Hl, acc, a1, a2, _⟩
      exact a1.trans a2
    · rintro i x Hr H3 hi ⟨Hl, acc, a1, a2, a3, a4, a5, a6, a7, a8⟩ y
      obtain ⟨Hc, σ2, c1, c2, c3, c4, c5, b, c6, c7, c8⟩ := ht i hi Hb Hl Hr x H3 xb.ex a1 a2 y
      refine c4 _ ⟨c5, c6 H3 c2 _ fun H4 e4 => ?_⟩
      have n1 : Hc Dl = none := c1.off a5 a6
      cases b with
      | false =>
        refine ⟨Hc, acc, a1.trans c1.ex, c2.trans e4, (a3.trans c3).trans e4, a4.trans a3 c1, n1, (c3.trans e4) Dl _ a6, ?_, Nat.le_succ_of_le a8⟩
        rw [List.range_succ, List.filterMap_append, List.filterMap_cons, c7 rfl]
        show DtAll K Hc acc (_ ++ [])
        rw [List.append_nil]
        exact DtAll.ex c1.ex a7
      | true =>
        obtain ⟨d, d1, d2⟩ := c8 rfl
        refine d2 H4 (c2.trans e4) _ fun v H5 Hd e5 ed xd dv => ?_
        have n2 : Hd Dl = none := xd.off n1 ((c3.trans e4) Dl _ a6)
        refine ⟨acc, (((c3.trans e4).trans e5) Dl _ a6), sz_lt (by omega), Hd, acc ++ [v], (a1.trans c1.ex).trans xd.ex, ex_off ed n2, ex_off (((a3.trans c3).trans e4).trans e5) hD1, (a4.trans a3 c1).trans ((a3.trans c3).trans e4) xd, n2, upd_same, ?_, ?_⟩
        · rw [List.range_succ, List.filterMap_append, List.filterMap_cons, d1]
          exact (DtAll.ex (c1.ex.trans xd.ex) a7).append (.cons dv .nil)
        · rw [List.length_append]
          exact Nat.succ_le_succ a8
    · rintro Hr ⟨Hl, acc, a1, a2, a3, a4, a5, a6, a7, a8⟩
      refine q Dl Hr (upd Hl Dl (.lst acc)) a3 ?_ ⟨a4.ex.trans (Ex.new a5), fun b o hb => ?_⟩ hD1 ?_
      · intro b o hb
        by_cases z : b = Dl
        · subst z
          rw [upd_same] at hb
          cases hb
          exact a6
        · rw [upd_ne z] at hb
          exact a2 b o hb
      · by_cases z : b = Dl
        · subst z
          rw [upd_same] at hb
          cases hb
          exact .inr ⟨hD1, fun ps z => by cases z⟩
        · rw [upd_ne z] at hb
          exact a4.fresh b o hb
      · rw [ho]
        exact ⟨acc, upd_same, DtAll.ex (Ex.new a5) a7⟩
theorem ed_lc {wi : TI} {g : TG} {tt : TT} {te : TE} {vs : List Nat} {n : Nat} {Y : Hp → Nat → Hp → V → Hp → Prop} (els : Nat → Option PyData) {out : List PyData} (hw : EvI wi σ H n Y)
    (ht : ∀ i, i < n → ∀ Hi Hb H2 x H3, Ex H Hi → Ex Hi Hb → Ex Hb H2 → Y Hi i H2 x H3 → ∃ Hc σ2, Ext Hb H2 Hc ∧ Ex Hc H3 ∧ Ex H2 H3 ∧ EvG g x (L2.wipe σ vs) H3 σ2 ∧ L2.wipe σ2 vs = L2.wipe σ vs ∧
      ∃ b, EvB tt σ2 Hc b ∧ (b = false → els i = none) ∧ (b = true → ∃ d, els i = some d ∧ EvD K te σ2 Hc d)) (hn : n ≤ 50000) (ho : out = (List.range n).filterMap els) : EvD K (tLc wi g tt te vs) σ H (.list out) := (en_lc els hw ht hn ho).ed
theorem filterMap_range {α β : Type} (l : List α) (f : α → Option β) : (List.range l.length).filterMap (fun i => (l[i]?).bind f) = l.filterMap f := by
  induction l with
  | nil => rfl
  | cons a r ih =>
    rw [List.length_cons, List.range_succ_eq_map, List.filterMap_cons, List.filterMap_map]
    show (match (some a).bind f with | none => _ | some b => b :: _) = _
    rw [List.filterMap_cons]
    have e : (List.range r.length).filterMap ((fun i => ((a :: r)[i]?).bind f) ∘ Nat.succ) = r.filterMap f := by
      rw [← ih]
      apply congrArg (fun g => List.filterMap g (List.range r.length))
      funext i
      simp
    rw [e]
    rfl
end
end LR

/-! ### defs: promises over data, calls, walks of anything (own work) -/
namespace LR
open PySem PySem.Spec PyProof.Rows L2 Evl
/-- the way of exceptions: L2N's -/
abbrev CXL (P : Program) (w : World) : CXT := L2N.CX P w
theorem passN {X : Cx} : Passes (CXL X.prog X.w) X E0 := fun _ _ _ _ _ _ _ h => by
  obtain ⟨_, _, _, _, _, _, _, _, _, _, _, _, z⟩ := h
  exact z.elim
/-- a def that is called by its global name -/
structure Fx (P : Program) (w : World) (K : PySem.W.Frag) (mg : Str → Option Value) (base : Heap) (k : Nat) (x : Str) (ps : List Str) (sp : Sp) : Prop where
  ex : ∃ (f : Addr) (fd : FuncData), FnOk P w K mg base (CXL P w) k f fd ps sp ∧ mg x = some (.ref f) ∧ PySem.W.keepIn K (.ref f) = true ∧ Binds K fd ps []
theorem Fx.mono {P : Program} {w : World} {K : PySem.W.Frag} {mg : Str → Option Value} {base : Heap} {j k : Nat} {x : Str} {ps : List Str} {sp : Sp} (c : Fx P w K mg base j x ps sp) (h : j ≤ k) : Fx P w K mg base k x ps sp := by
  obtain ⟨f, fd, F, r⟩ := c.ex
  exact ⟨f, fd, F.mono h, r⟩
section
variable {X : Cx} {k j : Nat} {x : Str} {ps : List Str} {sp : Sp} {E : XK} {p pos : Pos} {e : Expr} {es : List Expr} {t : TA}
theorem pe_fx (c : Fx X.prog X.w X.K X.mg X.base k x ps sp) (hr : Room j X.A) (hk : k ≤ j) (hg : Gl X x) (hx : Passes (CXL X.prog X.w) X E) (ha : PA X (e :: es) t)
    (hdb : (x == ("__debug__" : Str)) = false := by decide) (he : starEach (e :: es) X.env = (false, eval e X.env) :: starEach es X.env := by rfl) (hpl : (backTo pos (starEach es X.env)).any (·.1) = false := by rfl) :
    PE X (.Call (.Name x p) (e :: es) [] pos) (tCall sp [] E t) := by
  obtain ⟨f, fd, F, hm, kp, b⟩ := c.ex
  exact pe_call F (hr.mono hk) hg hm kp b .nil hx ha hdb he hpl
/-- a for, a comprehension over a list, a tuple or a text -/
def iU (K : PySem.W.Frag) (tl : TE) : TI := fun σ H R => tl σ H fun x H1 => (∃ a, x = .ref a ∧ (∃ xs, SqL K H1 a xs) ∧ R (Itl K a) H1) ∨ (∃ a, x = .ref a ∧ (∃ xs, SqT K H1 a xs) ∧ R (Itt K a) H1) ∨ (∃ z, x = .str z ∧ R (Its z) H1)
theorem pi_U {tg l : Expr} {tl : TE} (hl : PE X l tl) : PI X tg l (iU X.K tl) := by
  refine ⟨fun pins s σ H R I h => ?_⟩
  refine thn (hl.run pins s σ H _ I h) fun v s1 ⟨x, H1, I1, r1, q1⟩ => ?_
  rcases q1 with ⟨a, e, ⟨xs, hq⟩, q⟩ | ⟨a, e, ⟨xs, hq⟩, q⟩ | ⟨z, e, q⟩
  · subst e
    cases r1
    obtain ⟨its, rv, p, hz⟩ := I1.list hq
    exact wpAny_pyIter_list p.isList (pi_one (tk := s1.toks) I1 _ (turn_list a _) ⟨_, Heap.get?_push_size _ rfl, rfl, rfl⟩ q)
  · subst e
    cases r1
    obtain ⟨its, rv, p, hz⟩ := I1.tuple hq
    exact wpAny_pyIter_tuple (show s1.heap.IsTuple a its.toArray from p) (pi_one (tk := s1.toks) I1 _ (turn_tuple a _) ⟨_, Heap.get?_push_size _ rfl, rfl, rfl⟩ q)
  · subst e
    obtain ⟨t, rfl⟩ := r1
    cases ha : z.cps.all (· < 128)
    · exact wpAny_pyIter_wide ha (pi_one (tk := s1.toks) I1 _ (turn_str _ z t "str_iterator" (.inr rfl)) ⟨_, Heap.get?_push_size _ rfl, rfl, rfl⟩ q)
    · exact wpAny_pyIter_ascii ha (pi_one (tk := s1.toks) I1 _ (turn_str _ z t "str_ascii_iterator" (.inl rfl)) ⟨_, Heap.get?_push_size _ rfl, rfl, rfl⟩ q)
end
section
variable {K : PySem.W.Frag} {σ : L2.St} {H : Hp} {te : TE} {ta : TA}
theorem eiU_str {z : Str} (h : EvD K te σ H (.str z)) : EvI (iU K te) σ H z.cps.size (YS z) := fun H1 e1 R r =>
  h H1 e1 _ fun v H2 H' e2 e x dv => .inr (.inr ⟨z, dv.str_eq, r _ (fun _ => True) H2 H' e2 e x (fun _ _ => trivial) walk_str⟩)
/-- items of data; what was known stays -/
theorem eiU_list {ds : List PyData} (h : EvD K te σ H (.list ds)) : EvI (iU K te) σ H ds.length (YD K ds) := fun H1 e1 R r =>
  h H1 e1 _ fun v H2 H' e2 e x dv => by
    obtain ⟨a, xs, rfl, ha, ra⟩ := dv.lst_eq
    refine .inl ⟨a, rfl, ⟨xs, sq_of (e a _ ha)⟩, r _ (fun H3 => Ex H' H3) H2 H' e2 e x (fun H3 e3 => e3) ?_⟩
    rw [← ra.length]
    exact (walk_list (K := K) (a := a) (xs := xs)).mono (fun H3 e3 => sq_of (e3 a _ ha)) fun i H3 y H4 hi e3 z => by
      obtain ⟨d, d1, d2⟩ := ra.get' z.2
      exact ⟨z.1, d, d1, d2⟩
theorem eiU_tup {ds : List PyData} (h : EvD K te σ H (.tuple ds)) : EvI (iU K te) σ H ds.length (YD K ds) := fun H1 e1 R r =>
  h H1 e1 _ fun v H2 H' e2 e x dv => by
    obtain ⟨a, xs, rfl, ha, ra⟩ := dv.tup_eq
    refine .inr (.inl ⟨a, rfl, ⟨xs, ex_t e ha⟩, r _ (fun H3 => Ex H' H3) H2 H' e2 e x (fun H3 e3 => e3) ?_⟩)
    rw [← ra.length]
    exact (walk_tup (K := K) (a := a) (xs := xs)).mono (fun H3 e3 => ex_t e3 ha) fun i H3 y H4 hi e3 z => by
      obtain ⟨d, d1, d2⟩ := ra.get' z.2
      exact ⟨z.1, d, d1, d2⟩
/-- the promise of a pure def: from data to data -/
def spR (K : PySem.W.Frag) (n : Nat) (R : List PyData → PyData → Prop) : Sp := fun vs H1 Q _ => ∃ H ds r, Ex H H1 ∧ DtAll K H vs ds ∧ ds.length = n ∧ R ds r ∧ KD K H H1 r Q
theorem spR_len {n : Nat} {R : List PyData → PyData → Prop} {vs : List V} {H1 : Hp} {Q : VK} {E : XK} (h : spR K n R vs H1 Q E) : vs.length = n := by
  obtain ⟨H, ds, r, _, da, hl, _⟩ := h
  rw [da.length, hl]
theorem ed_call {n : Nat} {R : List PyData → PyData → Prop} {E : XK} {ds : List PyData} {z : PyData} (ha : EvDs K ta σ H ds) (hR : R ds z) (hn : ds.length = n := by rfl) : EvD K (tCall (spR K n R) [] E ta) σ H z := fun H1 e1 Q q =>
  ha H1 e1 _ fun vs H2 Ha e2 ea xa da => by
    show spR K n R (vs ++ []) H2 Q E
    rw [List.append_nil]
    exact ⟨Ha, ds, z, ea, da, hn, hR, fun v H3 Hb e3 eb xb db => q v H3 Hb (e2.trans e3) eb (xa.trans e2 xb) db⟩
end
section
variable {P : Program} {w : World} {K : PySem.W.Frag} {mg : Str → Option Value} {base : Heap}
/-- a pure def of the text keeps its promise -/
theorem fn_pure {nm qual : Str} {st : Stmt} {f : Addr} {fd : FuncData} {N ps : List Str} {k n : Nat} {R : List PyData → PyData → Prop} (F : FunD K nm qual (defArgs st) (defBody st) (defScope st) [] [] f fd) (S : FnScope N ps (defScope st)) (hn : ps.length = n)
    (body : ∀ (cdv : Value) (A : Around) (outer : List Env) (s : Shared) (Hs : Hp) (E : XK), Room k (A.deeper (envOfC qual (defScope st) s.heap.objs.size f cdv)) → ∀ (ds : List PyData) (r : PyData), ds.length = n → R ds r →
      ∃ t, PSs (cxOf (CXL P w) P w K mg base N qual (defScope st) f cdv A outer s Hs E).nox (defBody st) t ∧
        ∀ (σ : L2.St) (H0 H10 : Hp) (Q : VK), Now H0 H10 H0 H10 → Sl K H0 σ (ds.map .dat ++ List.replicate (N.length - n) .unk) → KD K H0 H10 r Q → t { nx := fun _ H' => Q .non H', rt := Q } σ H10) :
    FnOk P w K mg base (CXL P w) (k + 1) f fd ps (spR K n R) := by
  refine F.ok S (fun vs H Q E h => ?_) (fun cdv A outer s H1 vs Q E hr h => ?_)
  · rw [hn]
    exact spR_len h
  · obtain ⟨H, ds, r, e, da, hl, hR, q⟩ := h
    obtain ⟨t, ht, hk⟩ := body cdv A outer s H1 E hr ds r hl hR
    refine ⟨t, ht.nox, hk _ H H1 Q (Now.start e) ?_ q⟩
    have z := sl_start (K := K) (H := H) (N.length - vs.length) da
    have lv : vs.length = n := da.length.trans hl
    rw [lv] at z
    unfold L2.start
    rw [lv]
    exact z
theorem fx_pure {x nm qual : Str} {st : Stmt} {f : Addr} {fd : FuncData} {N ps : List Str} {k n : Nat} {R : List PyData → PyData → Prop} (F : FunD K nm qual (defArgs st) (defBody st) (defScope st) [] [] f fd) (hm : mg x = some (.ref f)) (S : FnScope N ps (defScope st)) (hn : ps.length = n)
    (hb : ∀ (kV doc pm : Value) (an : Option Addr) (cdv ct : Value) (us : List Value), us.length = ps.length → bindArgs (PySem.W.fnOf nm qual (defArgs st) (defBody st) (defScope st) .none kV doc pm an cdv ct) ⟨us, []⟩ = pure (ps.zip us))
    (body : ∀ (cdv : Value) (A : Around) (outer : List Env) (s : Shared) (Hs : Hp) (E : XK), Room k (A.deeper (envOfC qual (defScope st) s.heap.objs.size f cdv)) → ∀ (ds : List PyData) (r : PyData), ds.length = n → R ds r →
      ∃ t, PSs (cxOf (CXL P w) P w K mg base N qual (defScope st) f cdv A outer s Hs E).nox (defBody st) t ∧
        ∀ (σ : L2.St) (H0 H10 : Hp) (Q : VK), Now H0 H10 H0 H10 → Sl K H0 σ (ds.map .dat ++ List.replicate (N.length - n) .unk) → KD K H0 H10 r Q → t { nx := fun _ H' => Q .non H', rt := Q } σ H10) :
    Fx P w K mg base (k + 1) x ps (spR K n R) := ⟨f, fd, fn_pure F S hn body, hm, F.kp, F.bindsN hb⟩
/-- the law's promise, at the end -/
theorem law_sp {H : Hp} {a : Addr} {ns : List Int} {R : List PyData → PyData → Prop} (hR : R [scrD ns] (.bool true)) (hS : SqL K H a (ns.map V.int)) : spR K 1 R [.ref a] H (fun v _ => v = .bl true) fun _ _ _ => False :=
  ⟨H, [scrD ns], .bool true, Ex.refl _, .cons (.scr ns hS) .nil, rfl, hR, fun _ _ _ _ _ _ dv => dv.bl_eq⟩
end
end LR

/-! ### rules with the written part by name (inside a comprehension the context is another, the written part is the same) -/
namespace LR
open PySem PySem.Spec PyProof.Rows L2 Evl
section
variable {X : Cx} {K : PySem.W.Frag}
theorem op_addK (h : X.K = K) : OpR X (binaryOp .Add) (rAddU K) := h ▸ op_addU
theorem op_mulK (h : X.K = K) : OpR X (binaryOp .Mult) (rMulU K) := h ▸ op_mulU
theorem op_eqK (h : X.K = K) (hu : X.A.units + 64 < cLine) : OpR X (compareOp .Eq) (rEqU K) := h ▸ op_eqU hu
theorem op_neK (h : X.K = K) (hu : X.A.units + 64 < cLine) : OpR X (compareOp .NotEq) (rNeU K) := h ▸ op_neU hu
theorem call_lenK (h : X.K = K) : CallR X (.builtin "len") (lenR K) := h ▸ call_len
theorem call_isK (h : X.K = K) : CallR X (.builtin "isinstance") (rIsi K) := h ▸ call_isi
theorem cr_allK (h : X.K = K) (hc : X.calm = true) : CallR X (.builtin "all") (rAll K) := h ▸ cr_all hc
theorem cr_anyK (h : X.K = K) (hc : X.calm = true) : CallR X (.builtin "any") (rAny K) := h ▸ cr_any hc
theorem cr_sumK (h : X.K = K) (hc : X.calm = true) : CallR X (.builtin "sum") (rSum K) := h ▸ cr_sum hc
theorem ix_K (h : X.K = K) : IxR X (rIx K) := h ▸ ix_seq
theorem sl_K (h : X.K = K) : SlR X (rSlU K) := h ▸ sl_U
theorem pi_K {tg l : Expr} {tl : TE} (h : X.K = K) (hl : PE X l tl) : PI X tg l (iU K tl) := h ▸ pi_U hl
theorem pg_tupK {es : List Expr} {k : Nat} {pos : Pos} {t : TGs} {n : Nat} (hK : X.K = K) (hc : X.calm = true) (h : PGs X es t)
    (hn : (assignEach es X.env).length = n := by rfl) (hst : (assignEach es X.env).findIdx? (·.1) = none := by rfl) : PG X (.Tuple es k pos) (gTup K n t) := hK ▸ pg_tup hc h hn hst
def rTupOf (K : PySem.W.Frag) : List V → Hp → VK → Prop := fun xs H Q => ∃ p ys, xs = [.ref p] ∧ ((SqL K H p ys ∧ ∀ l, H l = none → Q (.ref l) (upd H l (.tup ys))) ∨ (SqT K H p ys ∧ Q (.ref p) H))
theorem call_tupK (h : X.K = K) : CallR X (.type "tuple") (rTupOf K) := h ▸ call_tuple_of
def rLstOf (K : PySem.W.Frag) : List V → Hp → VK → Prop := fun xs H Q => ∃ p ys, xs = [.ref p] ∧ (SqL K H p ys ∨ SqT K H p ys) ∧ ∀ l, H l = none → Q (.ref l) (upd H l (.lst ys))
theorem call_lstK (h : X.K = K) : CallR X (.type "list") (rLstOf K) := h ▸ call_list_of
theorem pe_bmK {T : String} {name : Str} {id : String} {r : V → List V → Hp → VK → Prop} {o e : Expr} {es : List Expr} {to : TE} {t : TA} {apos cpos : Pos} (hK : X.K = K) (pa : PlainAttrs T) (slot : Slot T name id) (hty : typeOf (.builtin id) = pure (.type "method_descriptor")) (hm : MtR X id r) (ho : PE X o to) (ha : PA X (e :: es) t)
    (hbase : attributeBase o name X.env (eval o X.env) = eval o X.env := by rfl)
    (hfew : ((backTo cpos (starEach (e :: es) X.env)).all (fun x => !x.1) && (backToKw cpos (keywordEach [] X.env)).all (fun x => x.1.isSome)
      && decide ((e :: es).length + ([] : List Keyword).length + (if ([] : List Keyword).isEmpty then 0 else 1) < 30)) = true := by rfl)
    (hline : (apos.endLine == cpos.line) = true := by rfl) (he : starEach (e :: es) X.env = (false, eval e X.env) :: starEach es X.env := by rfl) (hpl : (backTo cpos (starEach es X.env)).any (·.1) = false := by rfl) :
    PE X (.Call (.Attribute o name apos) (e :: es) [] cpos) (tBM K T r to t) := hK ▸ pe_bm pa slot hty hm ho ha hbase hfew hline he hpl
def rJoin (K : PySem.W.Frag) : V → List V → Hp → VK → Prop := fun x xs H Q => ∃ a p, ∃ ys : List Str, x = .str a ∧ xs = [.ref p] ∧ (SqL K H p (ys.map V.str) ∨ SqT K H p (ys.map V.str)) ∧ (ys.map (·.length)).sum + ys.length * a.length ≤ 16777216 ∧ Q (.str (Txt.join a ys)) H
theorem mt_joinK (h : X.K = K) : MtR X "str.join" (rJoin K) := h ▸ mt_join
theorem pi_zipK {e e2 : Expr} {ta : TA} {p pos tpos : Pos} {elts : List Expr} {kk : Nat} (hK : X.K = K) (hg : Gl X "zip") (hm : X.mg "zip" = none) (ha : PA X [e, e2] ta)
    (hs : starEach [e, e2] X.env = (false, eval e X.env) :: starEach [e2] X.env := by rfl) (hpl : (backTo pos (starEach [e2] X.env)).any (·.1) = false := by rfl) :
    PI X (.Tuple elts kk tpos) (.Call (.Name "zip" p) [e, e2] [] pos) (RZ.iZipA K ta) := hK ▸ RZ.pi_zipA hg hm ha hs hpl
end
end LR

/-! ### sets of texts and whole numbers that can be walked (own work over the kit's tables) -/
namespace LR
open PySem PySem.Spec PyProof.Rows L2
/-- the key of a row -/
def keyE (r : Int × Value) : Key := match r.2 with
  | .int i _ => .inl i
  | .str z _ => .inr z
  | _ => .inl 0
def RowOk (P : Program) (w : World) (r : Int × Value) : Prop := ∃ k, RelV (kV k) r.2 ∧ r.1 = (mixKind P w).hash k
theorem keyE_of {r : Int × Value} {k : Key} (h : RelV (kV k) r.2) : keyE r = k := by
  unfold keyE
  cases k with
  | inl i =>
    obtain ⟨t, e⟩ := (show ∃ t, r.2 = Value.int i t from h)
    rw [e]
  | inr x =>
    obtain ⟨t, e⟩ := (show ∃ t, r.2 = Value.str x t from h)
    rw [e]
theorem row_elems {P : Program} {w : World} {l : List (Int × Value)} (g : ∀ r ∈ l, RowOk P w r) : ElemsOf (mixKind P w) l := fun r hr => by
  obtain ⟨k, h1, h2⟩ := g r hr
  exact ⟨⟨k, kV_is h1, h2⟩, key_scan h1⟩
theorem row_mem {P : Program} {w : World} {l : List (Int × Value)} (g : ∀ r ∈ l, RowOk P w r) (k : Key) : k ∈ l.map keyE ↔ ∃ r ∈ l, (mixKind P w).is k r.2 = true := by
  rw [List.mem_map]
  constructor
  · rintro ⟨r, hr, q⟩
    obtain ⟨k', h1, _⟩ := g r hr
    rw [keyE_of h1] at q
    subst q
    exact ⟨r, hr, kV_is h1⟩
  · rintro ⟨r, hr, q⟩
    obtain ⟨k', h1, _⟩ := g r hr
    exact ⟨r, hr, (keyE_of h1).trans ((mixKind P w).inj _ _ _ (kV_is h1) q)⟩
/-- the set at a, with its rows -/
def KSet (P : Program) (w : World) (h : Heap) (a : Addr) (S : Key → Bool) (n : Nat) : Prop :=
  ∃ ob rows ep tb, h.get? a = some ob ∧ ob.ExactSet ∧ ob.data = .set rows ep tb ∧ (∀ r ∈ rows.toList, RowOk P w r) ∧ (rows.toList.map keyE).Nodup ∧ (∀ k, S k = true ↔ k ∈ rows.toList.map keyE) ∧
    rows.size < scanBound ∧ tb.fits rows.size = true ∧ rows.size = n ∧ Ris tb.place.toList ∧ (w.params.followText "set-order" = true ∨ tb.led = true)
section
variable {P : Program} {w : World} {h h' : Heap} {a : Addr} {S : Key → Bool} {n : Nat}
theorem KSet.at (R : KSet P w h a S n) (k : ∀ ob, h.get? a = some ob → h'.get? a = some ob) : KSet P w h' a S n := by
  obtain ⟨ob, rows, ep, tb, ho, r⟩ := R
  exact ⟨ob, rows, ep, tb, k ob ho, r⟩
theorem KSet.congr {S' : Key → Bool} (R : KSet P w h a S n) (e : ∀ k, S' k = S k) : KSet P w h a S' n := by
  rw [show S' = S from funext e]
  exact R
theorem kset_fresh (ho : h.get? a = some { cls := .type "set", dict := none, data := .set #[] 0 (.fresh 0 0 (!w.params.followText "set-order")) }) : KSet P w h a (fun _ => false) 0 :=
  ⟨_, #[], 0, _, ho, ⟨rfl, rfl, rfl⟩, rfl, (fun r hr => by simp at hr), by simp, (fun k => by simp), by decide, by rfl, rfl, List.Pairwise.nil, by
    cases w.params.followText "set-order" with
    | true => exact .inl rfl
    | false => exact .inr rfl⟩
end
section
variable {P : Program} {w : World} {A : Around} {E : Value → Shared → Prop} {s : Shared} {a : Addr} {S : Key → Bool} {n : Nat}
theorem kset_tail {gv : Bool → Sem Unit} (hgv : ∀ (b : Bool) (z : Shared) (Q' : Unit → Shared → Prop), Q' () z → wpAny (model P w) A (gv b) Q' E z)
    {ob : Obj} {rows : Array (Int × Value)} {ep : Nat} {tb : SetTable} (ho : s.heap.get? a = some ob) (hex : ob.ExactSet) (hd : ob.data = .set rows ep tb)
    {rw1 : Array (Int × Value)} {tb2 : SetTable} {S' : Key → Bool} (g1 : ∀ r ∈ rw1.toList, RowOk P w r) (nd1 : (rw1.toList.map keyE).Nodup) (m1 : ∀ k, S' k = true ↔ k ∈ rw1.toList.map keyE)
    (hb1 : rw1.size < scanBound) (hf2 : tb2.fits rw1.size = true) (hr : Ris tb2.place.toList) (hl : w.params.followText "set-order" = true ∨ tb2.led = true) {was : Bool} {R : Option Bool → Shared → Prop}
    (hR : ∀ h', Heap.SameBut a s.heap h' → KSet P w h' a S' rw1.size → R (some true) { s with heap := h' }) :
    wpAny (model P w) A (do
        storeSet a rw1 tb2
        if (!was && tb2.tooFull) = true then do
            gv (relayAll tb2 rw1 (SetTable.grown rw1.size)).2.2
            storeSet a (relayAll tb2 rw1 (SetTable.grown rw1.size)).1 (relayAll tb2 rw1 (SetTable.grown rw1.size)).2.1
            pure (some true)
          else pure (some true)) R E s := by
  have st1 := store_at (es' := rw1) (t' := tb2) ho hd
  have same1 := Heap.SameBut.update s.heap a (Obj.putSet rw1 tb2)
  refine wpAny_bind (wpAny_storeSet_of ho hd ?_ (fits_of_scanBound hb1))
  split
  · have q1 := relayAll_perm tb2 rw1 (SetTable.grown rw1.size)
    have q2 := relayAll_fits tb2 rw1 (SetTable.grown rw1.size)
    have q3 := relayAll_ris tb2 rw1 (SetTable.grown rw1.size)
    have q4 := relayAll_led tb2 rw1 (SetTable.grown rw1.size)
    generalize relayAll tb2 rw1 (SetTable.grown rw1.size) = Z at q1 q2 q3 q4 ⊢
    obtain ⟨rw2, tb3, gave⟩ := Z
    dsimp only at q1 q2 q3 q4 ⊢
    have hsz : rw2.size = rw1.size := by
      have e := q1.length_eq
      simpa using e
    have hb2 : rw2.size < scanBound := hsz ▸ hb1
    refine wpAny_bind (hgv _ _ _ (wpAny_bind (wpAny_storeSet_of st1 rfl ?_ (fits_of_scanBound hb2))))
    have st2 := store_at (es' := rw2) (t' := tb3) st1 rfl
    refine wpAny_pure (hR _ (same1.trans (Heap.SameBut.update _ a _)) ⟨_, rw2, _, tb3, st2, hex, rfl, fun r hr => g1 r (q1.mem_iff.mp hr), (q1.map keyE).nodup_iff.mpr nd1, fun k => (m1 k).trans (q1.map keyE).mem_iff.symm, hb2, q2, hsz, q3, ?_⟩)
    rcases hl with z | z
    · exact .inl z
    · exact .inr (q4.trans z)
  · exact wpAny_pure (hR _ same1 ⟨_, rw1, _, tb2, st1, hex, rfl, g1, nd1, m1, hb1, hf2, rfl, hr, hl⟩)
theorem kset_add {k : Key} {u : Value} {Q : Bool → Shared → Prop} (hu : RelV (kV k) u) (R : KSet P w s.heap a S n) (room : n + 1 < scanBound)
    (hQ : ∀ h', Heap.SameBut a s.heap h' → KSet P w h' a (fun j => S j || decide (j = k)) (if S k = true then n else n + 1) → Q (!S k) { s with heap := h' }) :
    wpAny (model P w) A (setAddHashed a u ((mixKind P w).hash k)) Q E s := by
  obtain ⟨ob, rows, ep, tb, ho, hex, hd, g, nd, hm, hb, hf, hn, hr, hl⟩ := R
  have hkey : (mixKind P w).is k u = true := kV_is hu
  have hsc := key_scan hu
  have hel := row_elems g
  unfold setAddHashed setAddHashedIn
  refine wpAny_holding (wpAny_bind (wpAny_setState_of ho hd hf ?_))
  dsimp only
  rw [byScan_of hsc hb hel]
  simp only [↓reduceIte]
  unfold setAddByScan
  refine wpAny_bind (wpAny_bind (wpAny_rule (wpAny_bind (wpAny_setScan_of hkey ho hd hf hel ?_))))
  cases fi : List.findIdx? (fun r => (mixKind P w).is k r.2) rows.toList with
  | some j =>
    dsimp only
    obtain ⟨hj, pj, _⟩ := List.findIdx?_eq_some_iff_getElem.mp fi
    have inS : S k = true := (hm k).2 ((row_mem g k).2 ⟨rows.toList[j], List.getElem_mem hj, pj⟩)
    have z := hQ s.heap (Heap.SameBut.refl a s.heap) ⟨ob, rows, ep, tb, ho, hex, hd, g, nd, fun i => by
      rw [Bool.or_eq_true, decide_eq_true_eq, ← hm i]
      constructor
      · rintro (y | rfl)
        · exact y
        · exact inS
      · exact .inl, hb, hf, by rw [if_pos inS]; exact hn, hr, hl⟩
    rw [inS] at z
    exact wpAny_pure (wpAny_pure z)
  | none =>
    dsimp only
    have out : k ∉ rows.toList.map keyE := fun z => by
      obtain ⟨r, hr, q⟩ := (row_mem g k).1 z
      have c := List.findIdx?_eq_none_iff.mp fi r hr
      rw [q] at c
      cases c
    have outS : S k = false := by
      cases q : S k with
      | false => rfl
      | true => exact absurd ((hm k).1 q) out
    have gave : ∀ (b : Bool) {z : Shared} {Q' : Unit → Shared → Prop}, Q' () z → wpAny (model P w) A (match b with | true => rule "set.scan.the-table-gave-way" | false => pure ()) Q' E z := fun b z Q' q => by
      cases b with
      | true => exact wpAny_rule q
      | false => exact wpAny_pure q
    have q1 := layNew_perm tb rows ((mixKind P w).hash k) u
    have q2 := layNew_fits tb rows ((mixKind P w).hash k) u
    have q3 := layNew_ris tb rows ((mixKind P w).hash k) u hr
    have q4 := layNew_led tb rows ((mixKind P w).hash k) u
    generalize layNew tb rows ((mixKind P w).hash k) u = Z at q1 q2 q3 q4 ⊢
    obtain ⟨rw1, tb1, was, gv⟩ := Z
    dsimp only at q1 q2 q3 q4 ⊢
    rw [Array.toList_push] at q1
    have pc : rw1.toList.Perm (((mixKind P w).hash k, u) :: rows.toList) := q1.trans (List.perm_append_singleton _ _)
    have pk : (rw1.toList.map keyE).Perm (k :: rows.toList.map keyE) := by
      have y := pc.map keyE
      rw [List.map_cons, keyE_of (r := ((mixKind P w).hash k, u)) hu] at y
      exact y
    have g1 : ∀ r ∈ rw1.toList, RowOk P w r := fun r hr => by
      rcases List.mem_cons.mp (pc.mem_iff.mp hr) with z | z
      · rw [z]
        exact ⟨k, hu, rfl⟩
      · exact g r z
    have nd1 : (rw1.toList.map keyE).Nodup := pk.nodup_iff.mpr (List.nodup_cons.mpr ⟨out, nd⟩)
    have m1 : ∀ i, (S i || decide (i = k)) = true ↔ i ∈ rw1.toList.map keyE := fun i => by
      rw [pk.mem_iff, List.mem_cons, Bool.or_eq_true, decide_eq_true_eq, hm i]
      exact Or.comm
    have hsz : rw1.size = n + 1 := by
      have e := pc.length_eq
      simp only [List.length_cons, Array.length_toList] at e
      omega
    have hb1 : rw1.size < scanBound := hsz ▸ room
    have led1 : w.params.followText "set-order" = true ∨ tb1.led = true := by
      rcases hl with z | z
      · exact .inl z
      · exact .inr (q4.trans z)
    have fin : ∀ h', Heap.SameBut a s.heap h' → KSet P w h' a (fun j => S j || decide (j = k)) rw1.size → Q true { s with heap := h' } := fun h' sb r => by
      have q := hQ h' sb
      rw [outS, if_neg (by decide), ← hsz] at q
      exact q r
    refine wpAny_bind (gave _ ?_)
    split
    · refine wpAny_bind ?_
      rw [hashByValue_scannable 8 hsc]
      refine wpAny_pure (kset_tail ?_ ho hex hd g1 nd1 m1 hb1 ?_ ?_ ?_ fun h' sb r => ?_)
      · intro b z Q' q; cases b <;> first | exact wpAny_pure q | exact wpAny_rule q
      · first | (split <;> first | exact q2 | exact SetTable.fits_plain_off q2) | exact q2
      · first | (split <;> exact q3) | exact q3
      · first | (split <;> exact led1) | exact led1
      · dsimp only
        exact wpAny_pure (fin h' sb r)
    · refine wpAny_bind (wpAny_pure ?_)
      simp only [↓reduceIte]
      refine kset_tail ?_ ho hex hd g1 nd1 m1 hb1 q2 q3 led1 fun h' sb r => ?_
      · intro b z Q' q; cases b <;> first | exact wpAny_pure q | exact wpAny_rule q
      · dsimp only
        exact wpAny_pure (fin h' sb r)
/-- among the keys -/
def inK (ks : List Key) (j : Key) : Bool := ks.any fun k => decide (j = k)
theorem inK_iff {ks : List Key} {j : Key} : inK ks j = true ↔ j ∈ ks := by
  unfold inK
  rw [List.any_eq_true]
  constructor
  · rintro ⟨k, hk, e⟩
    rw [of_decide_eq_true e]
    exact hk
  · intro h
    exact ⟨j, h, by simp⟩
/-- the loop behind set(..) -/
theorem kset_loop {I : Addr} {fp wr : List Addr} {G : Array GenState → Array GenState → Prop} {m : Nat} {Pv : Nat → Value → Prop} {St : Nat → Shared → Prop} {R : Result → Shared → Prop}
    (W : WalksS P w A.in1 I fp wr G m Pv St) (T : Addr) (hTf : T ∉ fp) (ks : List Key) (hm : m = ks.length) (hb : ks.length + 1 < scanBound) (hval : ∀ i v, Pv i v → ∃ k, ks[i]? = some k ∧ RelV (kV k) v) :
    ∀ (d i : Nat) (s : Shared), m - i = d → i ≤ m → St i s → (∃ c, c ≤ i ∧ KSet P w s.heap T (inK (ks.take i)) c) →
      (∀ s' c, Moved (T :: wr) G s s' → c ≤ m → KSet P w s'.heap T (inK ks) c → R (.ok (.ret .none)) s') →
      codeAny (model P w) A (.builtin "set.update.loop" ⟨[.ref T, .ref I], []⟩) R s := by
  have hTw : T ∉ wr := fun h => hTf (W.sub _ h)
  have sub : ∀ b ∈ wr, b ∈ T :: wr := fun b hb => List.mem_cons_of_mem _ hb
  intro d
  induction d with
  | zero =>
    rintro i z hd hi hst ⟨c, hc, hT⟩ hR
    obtain rfl : i = m := by omega
    refine codeAny_builtin F.entry_set_update_loop ?_
    rw [Around.under_plainId F.plain_set_update_loop _]
    show wpAny _ A.in1 (pyNext (.ref I) >>= _) _ _ z
    refine wpAny_bind (W.done z _ _ hst fun z' mv => ?_)
    show wpAny _ A.in1 (ret Value.none) _ _ z'
    rw [List.take_of_length_le (show ks.length ≤ i by omega)] at hT
    exact wpAny_pure (hR z' c (mv.mono sub) hc (hT.at fun o e => mv.heap T o hTw e))
  | succ d ih =>
    rintro i z hd hi hst ⟨c, hc, hT⟩ hR
    have lt : i < m := by omega
    refine codeAny_builtin F.entry_set_update_loop ?_
    rw [Around.under_plainId F.plain_set_update_loop _]
    show wpAny _ A.in1 (pyNext (.ref I) >>= _) _ _ z
    refine wpAny_bind (W.item i z _ _ lt hst fun v z' hP hst' mv => ?_)
    obtain ⟨k, hk, rv⟩ := hval i v hP
    have hT' := hT.at (h' := z'.heap) fun o e => mv.heap T o hTw e
    show wpAny _ A.in1 (holding [v] (setAdd T v) >>= _) _ _ z'
    refine wpAny_bind (wpAny_holding ?_)
    unfold setAdd
    refine wpAny_holding (wpAny_bind ((mixKind P w).pyHash (k := k) (kV_is rv) ?_))
    refine kset_add (s := { z' with toks := z'.toks + 1 }) rv hT' (by omega) fun h' sb r => ?_
    have r2 : KSet P w h' T (inK (ks.take (i + 1))) (if inK (ks.take i) k = true then c else c + 1) := r.congr fun j => by
      unfold inK
      rw [List.take_add_one, hk, List.any_append]
      simp
    refine wpAny_pure ⟨plainId_quiet F.plain_set_update_loop _, ih (i + 1) _ (by omega) lt (W.frame _ z' _ _ hst' (Nat.le_succ _) fun b hb o e => ?_) ⟨_, by split <;> omega, r2⟩ fun z2 c2 mv2 hc2 hT2 => ?_⟩
    · rw [sb.2 b fun y : b = T => hTf (y ▸ hb)]
      exact e
    · refine hR z2 c2 (Moved.trans W.gtrans ((mv.mono sub).then_heap (Nat.le_succ _) fun b o hb e => ?_) mv2) hc2 hT2
      rw [sb.2 b fun y : b = T => hb (y ▸ List.mem_cons_self)]
      exact e
set_option maxHeartbeats 3200000 in
/-- set(a list of keys) -/
theorem kset_call {l : Addr} {its : Array Value} {ks : List Key} {Q : Value → Shared → Prop} (hh : A.handled = none) (hl : s.heap.IsList l its) (rv : Vals (ks.map kV) its.toList) (hb : ks.length + 1 < scanBound)
    (h : ∀ (h' : Heap) (tk c : Nat), KSet P w h' s.heap.objs.size (inK ks) c → c ≤ ks.length → (∀ b o, s.heap.get? b = some o → h'.get? b = some o) → Q (.ref s.heap.objs.size) { s with heap := h', toks := tk }) :
    wpAny (model P w) A (call (.type "set") [.ref l]) Q E s := by
  have size : its.size = ks.length := by
    have q := rv.length
    rw [List.length_map, Array.length_toList] at q
    exact q.symm
  obtain ⟨_, _, mro⟩ := F.called_set.mro
  have made := F.called_set.made
  have subT := F.called_set.sub
  have c1 := F.called_set.notType
  have c2 := F.called_set.canCreate
  have c3 := F.typeCall_set_1 (.ref l)
  refine wpAny_call (codeAny_of_tree (show wpAny _ _ (callAny (.type "set") _) _ _ _ from wpAny_pure ⟨Code.quiet_builtin _ (by decide +kernel), codeAny_builtin F.entry_type_call ?_⟩))
  rw [Around.under_plain (weight_type_call_type "set" [.ref l] []) rfl]
  repeat (any_goals (first | assumption | wp_step))
  let ob0 : Obj := { cls := .type "set", dict := none, data := .set #[] 0 (.fresh 0 0 (!w.params.followText "set-order")) }
  refine codeAny_mono (code_set_led1 (.ref l) (E := E) (Q₁ := fun ob z => ob = .ref s.heap.objs.size ∧ z = { s with heap := s.heap.push ob0 }) ⟨rfl, rfl⟩) fun r z hr => ?_
  match r, hr with
  | .error _, hr => exact hr
  | .ok (.ret ob), hr =>
    obtain ⟨rfl, rfl⟩ := hr
    have atT : (s.heap.push ob0).get? s.heap.objs.size = some ob0 := Heap.get?_push_size _ rfl
    have tyT : Shared.TypeIs { s with heap := s.heap.push ob0 } (.ref s.heap.objs.size) "set" := ⟨_, atT, rfl⟩
    have i1 := F.called_set.init.lookup
    have i2 := F.called_set.init.bind (.ref s.heap.objs.size)
    repeat (any_goals (first | assumption | wp_step))
    refine codeAny_mono (codeAny_call_builtin (R := wants (fun r z => r = .none ∧ ∃ h' tk c, z = { s with heap := h', toks := tk } ∧ KSet P w h' s.heap.objs.size (inK ks) c ∧ c ≤ ks.length ∧ ∀ b o, s.heap.get? b = some o → h'.get? b = some o) E) F.called_set.init.plain F.entry_set_init (check_set_init_1 tyT ?_)) fun r2 z2 hr2 => ?_
    · have hlT : l < s.heap.objs.size := by
        obtain ⟨o, ho, _⟩ := hl
        exact Heap.lt_size ho
      have hl1 : (s.heap.push ob0).IsList l its := hl.push _
      obtain ⟨ol, hol, hcl, nl, hdl⟩ := hl1
      obtain ⟨oc, od, oda, osl⟩ := ol
      simp only at hcl hdl
      subst hcl; subst hdl
      have n1 := F.sub_list_set
      have n2 := F.sub_list_frozenset
      have n3 : (Value.type "list" == Value.type "dict") = false := by decide
      have hl2 : (s.heap.push ob0).IsList l its := ⟨_, hol, rfl, nl, rfl⟩
      unfold Builtin.«set.__init__» noKeywords Builtin.Frozenset.updateFrom
      generalize hPI : pyIter = PI
      wp_walk
      subst hPI
      refine wpAny_pyIter_list hl2 (wpAny_bind (wpAny_runValue ?_))
      have hneI : l ≠ (s.heap.push ob0).objs.size := by
        rw [Heap.size_push]
        exact Nat.ne_of_lt (Nat.lt_succ_of_lt hlT)
      have hTf : s.heap.objs.size ∉ [(s.heap.push ob0).objs.size, l] := by
        rw [Heap.size_push]
        simp only [List.mem_cons, List.not_mem_nil, or_false, not_or]
        exact ⟨Nat.ne_of_lt (Nat.lt_succ_self _), Nat.ne_of_gt hlT⟩
      have hval : ∀ (i : Nat) (v : Value), its[i]? = some v → ∃ k, ks[i]? = some k ∧ RelV (kV k) v := fun i v hv => by
        have hi : i < ks.length := size ▸ (Array.getElem?_eq_some_iff.mp hv).1
        obtain ⟨u, hu, ru⟩ := rv.get (i := i) (x := kV ks[i]) (by rw [List.getElem?_map, List.getElem?_eq_getElem hi] <;> rfl)
        rw [Array.getElem?_toList, hv] at hu
        cases hu
        exact ⟨_, List.getElem?_eq_getElem hi, ru⟩
      refine kset_loop ((Walks.list (show A.in1.in1.in1.handled = none by simp [hh]) _ l hneI its).toS) s.heap.objs.size hTf ks size hb hval (its.size - 0) 0 _ rfl (Nat.zero_le _) ⟨⟨_, Heap.get?_push_size _ rfl, rfl, rfl⟩, hl2.push _⟩ ⟨0, Nat.le_refl 0, ?_⟩ fun z c mv hc hT => ?_
      · exact (kset_fresh (Heap.get?_push_of_some _ atT)).congr fun _ => rfl
      · obtain ⟨h', g', d', tk', os'⟩ := z
        obtain rfl : g' = s.gens := mv.gens
        obtain rfl : d' = s.drawn := mv.drawn
        obtain rfl : os' = s.os := mv.os
        rw [size] at hc
        refine wpAny_pure (show wpAny _ _ (ret Value.none) _ _ _ from wpAny_pure ⟨rfl, h', tk', c, rfl, hT, hc, fun b o e => ?_⟩)
        have lt := Heap.lt_size e
        refine mv.heap b o ?_ (Heap.get?_push_of_some _ (Heap.get?_push_of_some _ e))
        rw [Heap.size_push]
        simp only [List.mem_cons, List.not_mem_nil, or_false, not_or]
        exact ⟨Nat.ne_of_lt lt, Nat.ne_of_lt (Nat.lt_succ_of_lt lt)⟩
    · match r2, hr2 with
      | .error _, hr2 => exact hr2
      | .ok (.ret _), hr2 =>
        obtain ⟨rfl, h', tk, c, rfl, hT, hc, kp⟩ := hr2
        repeat (any_goals (first | assumption | wp_step))
        exact h _ _ _ hT hc kp
end
end LR

/-! ### sorted(set(..)), len(set(..)) (own work) -/
namespace LR
open PySem PySem.Spec PyProof.Rows L2 Evl
/-- rising, each once -/
def insU {α : Type} (lt : α → α → Bool) (x : α) : List α → List α
  | [] => [x]
  | y :: r => if lt x y then x :: y :: r else if lt y x then y :: insU lt x r else y :: r
def usort {α : Type} (lt : α → α → Bool) (l : List α) : List α := l.foldr (insU lt) []
structure TotO {α : Type} (lt : α → α → Bool) : Prop where
  irr : ∀ a, lt a a = false
  tr : ∀ a b c, lt a b = true → lt b c = true → lt a c = true
  tot : ∀ a b, lt a b = false → lt b a = false → a = b
section
variable {α : Type} {lt : α → α → Bool}
theorem mem_insU (o : TotO lt) {x z : α} : ∀ {l : List α}, z ∈ insU lt x l ↔ z = x ∨ z ∈ l
  | [] => by simp [insU]
  | y :: r => by
    unfold insU
    split
    · simp
    · split
      · simp only [List.mem_cons, mem_insU o]
        constructor
        · rintro (h | h | h) <;> simp [h]
        · rintro (h | h | h) <;> simp [h]
      · have e : x = y := o.tot x y (by simpa using ‹¬lt x y = true›) (by simpa using ‹¬lt y x = true›)
        subst e
        simp
theorem ris_insU (o : TotO lt) {x : α} : ∀ {l : List α}, l.Pairwise (fun a b => lt a b = true) → (insU lt x l).Pairwise (fun a b => lt a b = true)
  | [], _ => by simp [insU]
  | y :: r, h => by
    obtain ⟨h1, h2⟩ := List.pairwise_cons.mp h
    unfold insU
    split
    · rename_i hx
      refine List.pairwise_cons.mpr ⟨fun z hz => ?_, h⟩
      rcases List.mem_cons.mp hz with rfl | hz
      · exact hx
      · exact o.tr _ _ _ hx (h1 z hz)
    · split
      · rename_i hy
        refine List.pairwise_cons.mpr ⟨fun z hz => ?_, ris_insU o h2⟩
        rcases (mem_insU o).mp hz with rfl | hz
        · exact hy
        · exact h1 z hz
      · exact h
theorem mem_usort (o : TotO lt) {z : α} : ∀ {l : List α}, z ∈ usort lt l ↔ z ∈ l
  | [] => by simp [usort]
  | x :: r => by
    show z ∈ insU lt x (usort lt r) ↔ _
    rw [mem_insU o, mem_usort o, List.mem_cons]
theorem ris_usort (o : TotO lt) : ∀ (l : List α), (usort lt l).Pairwise (fun a b => lt a b = true)
  | [] => .nil
  | x :: r => ris_insU o (ris_usort o r)
/-- lists that rise are told by their members -/
theorem ris_eq (o : TotO lt) : ∀ {l m : List α}, l.Pairwise (fun a b => lt a b = true) → m.Pairwise (fun a b => lt a b = true) → (∀ z, z ∈ l ↔ z ∈ m) → l = m
  | [], [], _, _, _ => rfl
  | [], y :: m, _, _, h => absurd ((h y).mpr List.mem_cons_self) (by simp)
  | x :: l, [], _, _, h => absurd ((h x).mp List.mem_cons_self) (by simp)
  | x :: l, y :: m, h1, h2, h => by
    obtain ⟨a1, a2⟩ := List.pairwise_cons.mp h1
    obtain ⟨b1, b2⟩ := List.pairwise_cons.mp h2
    have no : ∀ {a b : α}, lt a b = true → lt b a = true → False := fun p q => by
      have z := o.tr _ _ _ p q
      rw [o.irr] at z
      cases z
    have e : x = y := by
      rcases List.mem_cons.mp ((h x).mp List.mem_cons_self) with z | z
      · exact z
      · rcases List.mem_cons.mp ((h y).mpr List.mem_cons_self) with q | q
        · exact q.symm
        · exact (no (a1 y q) (b1 x z)).elim
    subst e
    congr 1
    refine ris_eq o a2 b2 fun z => ?_
    constructor
    · intro hz
      rcases List.mem_cons.mp ((h z).mp (List.mem_cons_of_mem _ hz)) with q | q
      · subst q
        have w := a1 z hz
        rw [o.irr] at w
        cases w
      · exact q
    · intro hz
      rcases List.mem_cons.mp ((h z).mpr (List.mem_cons_of_mem _ hz)) with q | q
      · subst q
        have w := b1 z hz
        rw [o.irr] at w
        cases w
      · exact q
theorem len_insU {x : α} : ∀ {l : List α}, (insU lt x l).length ≤ l.length + 1
  | [] => by simp [insU]
  | y :: r => by
    unfold insU
    split
    · simp
    · split
      · have := len_insU (x := x) (l := r)
        simp only [List.length_cons]
        omega
      · simp
theorem len_usort : ∀ {l : List α}, (usort lt l).length ≤ l.length
  | [] => Nat.le_refl _
  | x :: r => by
    have h1 := len_insU (lt := lt) (x := x) (l := usort lt r)
    have h2 := len_usort (l := r)
    show (insU lt x (usort lt r)).length ≤ r.length + 1
    omega
end
def ltS (a b : Str) : Bool := ltCps a.cps.toList b.cps.toList
def ltI (a b : Int) : Bool := decide (a < b)
theorem str_cps_inj {a b : Str} (h : a.cps.toList = b.cps.toList) : a = b := Str.ext' (Array.toList_inj.mp h)
theorem tot_ltS : TotO ltS where
  irr := fun a => by
    unfold ltS
    rw [ltCps_eq]
    exact decide_eq_false (List.lt_irrefl _)
  tr := fun a b c h1 h2 => by
    unfold ltS at *
    rw [ltCps_eq] at *
    exact decide_eq_true (List.lt_trans (of_decide_eq_true h1) (of_decide_eq_true h2))
  tot := fun a b h1 h2 => by
    unfold ltS at *
    rw [ltCps_eq] at *
    exact str_cps_inj (List.le_antisymm (List.not_lt.mp (of_decide_eq_false h2)) (List.not_lt.mp (of_decide_eq_false h1)))
theorem tot_ltI : TotO ltI where
  irr := fun a => decide_eq_false (by omega)
  tr := fun a b c h1 h2 => decide_eq_true (by have := of_decide_eq_true h1; have := of_decide_eq_true h2; omega)
  tot := fun a b h1 h2 => by have := of_decide_eq_false h1; have := of_decide_eq_false h2; omega
theorem risingS_pw : ∀ {p : Str} {l : List Str}, risingS p l = true → (p :: l).Pairwise fun a b => ltS b a = false
  | p, [], _ => by simp
  | p, x :: r, h => by
    have h' : (!ltCps x.cps.toList p.cps.toList && risingS x r) = true := h
    simp only [Bool.and_eq_true, Bool.not_eq_true'] at h'
    have ih := risingS_pw h'.2
    refine List.pairwise_cons.mpr ⟨fun z hz => ?_, ih⟩
    rcases List.mem_cons.mp hz with rfl | hz
    · exact h'.1
    · have h1 : ltS x p = false := h'.1
      have h2 : ltS z x = false := (List.pairwise_cons.mp ih).1 z hz
      cases q : ltS z p with
      | false => rfl
      | true =>
        cases q2 : ltS x z with
        | true =>
          have := tot_ltS.tr _ _ _ q2 q
          rw [h1] at this
          cases this
        | false =>
          have e := tot_ltS.tot _ _ q2 h2
          subst e
          rw [h1] at q
          cases q
theorem sortedS_ris {l : List Str} (h : sortedS l = true) (nd : l.Nodup) : l.Pairwise fun a b => ltS a b = true := by
  cases l with
  | nil => exact .nil
  | cons p r =>
    refine (risingS_pw h).imp₂ (fun a b h1 h2 => ?_) nd
    cases q : ltS a b with
    | true => rfl
    | false => exact absurd (tot_ltS.tot _ _ q h1) h2
/-- the set as an object -/
def KSO (P : Program) (w : World) (a : Addr) (S : Key → Bool) (n : Nat) : HO := .ext fun h => KSet P w h a S n
section
variable {X : Cx}
theorem kso_new {P : Program} {w : World} {H : Hp} {h : Heap} {a : Addr} {S : Key → Bool} {n : Nat} (R : KSet P w h a S n) : ObjOk P w H h a (KSO P w a S n) := by
  have ⟨o, _, _, _, ho, _⟩ := R
  exact ⟨R, ⟨o, ho⟩, fun h1 h2 p k => p.at k⟩
theorem kso_get {pins : List (Addr × Obj)} {σ : L2.St} {H : Hp} {s : Shared} {a : Addr} {S : Key → Bool} {n : Nat} (I : Inv X pins σ H s) (ha : H a = some (KSO X.prog X.w a S n)) : KSet X.prog X.w s.heap a S n := (I.hok a _ ha).1
/-- set(a list) -/
def rSetK (K : PySem.W.Frag) (P : Program) (w : World) : List V → Hp → VK → Prop := fun xs H Q => ∃ (p : Addr) (ks : List Key), xs = [.ref p] ∧ SqL K H p (ks.map kV) ∧ ks.length < 4000 ∧ ∀ q c, H q = none → c ≤ ks.length → Q (.ref q) (upd H q (KSO P w q (inK ks) c))
theorem cr_setK (hc : X.calm = true) : CallR X (.type "set") (rSetK X.K X.prog X.w) := by
  intro pins s σ H vs us Q I r h
  obtain ⟨p, ks, rfl, hs, hl, q⟩ := h
  obtain ⟨its, rv, hl', _⟩ := I.list hs
  rw [Vals.ref1 r]
  refine kset_call (I.ok.hd hc) hl'.isList (by simpa using rv) (by show ks.length + 1 < 4096; omega) fun h' tk c hT hcl kp => ?_
  exact ⟨.ref _, upd H s.heap.objs.size (KSO X.prog X.w s.heap.objs.size (inK ks) c), I.laid (t' := tk) kp (Nat.le_refl _) (kso_new hT), rfl, q _ c (I.hok.fresh (Nat.le_refl _)) hcl⟩
/-- len(a set) -/
def rLenK (P : Program) (w : World) : List V → Hp → VK → Prop := fun xs H Q => ∃ (a : Addr) (S : Key → Bool) (n : Nat), xs = [.ref a] ∧ H a = some (KSO P w a S n) ∧ ∀ ks : List Key, ks.Nodup → (∀ k, k ∈ ks ↔ S k = true) → Q (.int ks.length) H
theorem cr_lenK : CallR X (.builtin "len") (rLenK X.prog X.w) := by
  intro pins s σ H vs us Q I r h
  obtain ⟨a, S, n, rfl, ha, q⟩ := h
  obtain ⟨ob, rows, ep, tb, ho, hex, hd, g, nd, hm, hb, hf, hn, hr, hl⟩ := kso_get I ha
  rw [Vals.ref1 r]
  have e : ((rows.toList.map keyE).length : Int) = (rows.size : Int) := by simp
  have z := q _ nd fun k => (hm k).symm
  rw [e] at z
  exact call_len_set ho hex hd hf (by have : rows.size < 4096 := hb; omega) ⟨.int rows.size, H, I.tok _, ⟨_, rfl⟩, z⟩
theorem strs_keys : ∀ {vs : List Value}, (∀ v ∈ vs, ∃ x t, v = Value.str x t) → StrsAre vs (vs.map strOf)
  | [], _ => .nil
  | v :: vs, h => by
    obtain ⟨x, t, rfl⟩ := h v List.mem_cons_self
    exact .cons x t (strs_keys fun u hu => h u (List.mem_cons_of_mem _ hu))
/-- sorted(a set of texts) -/
def rSortKS (P : Program) (w : World) : List V → Hp → VK → Prop := fun xs H Q => ∃ (a : Addr) (zs : List Str) (n : Nat), xs = [.ref a] ∧ H a = some (KSO P w a (inK (zs.map .inr)) n) ∧ ∀ p, H p = none → Q (.ref p) (upd H p (.lst ((usort ltS zs).map V.str)))
theorem cr_sortKS (hc : X.calm = true) : CallR X (.builtin "sorted") (rSortKS X.prog X.w) := by
  intro pins s σ H vs us Q I r h
  obtain ⟨a, zs, n, rfl, ha, q⟩ := h
  obtain ⟨ob, rows, ep, tb, ho, hex, hd, g, nd, hm, hb, hf, hn, hr, hl⟩ := kso_get I ha
  rw [Vals.ref1 r]
  refine Calls.call_function_entry kind_sorted plain_sorted entry_sorted (args_sorted1 _) ?_
  unfold Builtin.«sorted»
  refine wpAny_bind (m := checkCount "sorted" 1 1 _) (wpAny_pure (wpAny_bind (collect_set (A := X.A.in1) (I.ok.hd hc) ⟨ob, ho, hex.1, hd⟩ hf hb hr hl fun s1 vs k1 hz g1 o1 pm => ?_)))
  have row : ∀ r ∈ rows.toList, ∃ x t, r.2 = Value.str x t ∧ keyE r = .inr x := fun r hr => by
    obtain ⟨k, h1, _⟩ := g r hr
    have e := keyE_of h1
    have hk : k ∈ zs.map Sum.inr := inK_iff.mp ((hm k).mpr (e ▸ List.mem_map_of_mem hr))
    obtain ⟨x, _, rfl⟩ := List.mem_map.mp hk
    obtain ⟨t, ht⟩ := (show ∃ t, r.2 = Value.str x t from h1)
    exact ⟨x, t, ht, e⟩
  have hI : StrsAre vs (vs.map strOf) := strs_keys fun v hv => by
    obtain ⟨r, hr, e⟩ := List.mem_map.mp (pm.mem_iff.mp hv)
    obtain ⟨x, t, h1, _⟩ := row r hr
    exact ⟨x, t, by rw [← e]; exact h1⟩
  have pk : ((vs.map strOf).map Sum.inr : List Key).Perm (rows.toList.map keyE) := by
    have y := (pm.map strOf).map (Sum.inr : Str → Key)
    have e : ((rows.toList.map (·.2)).map strOf).map (Sum.inr : Str → Key) = rows.toList.map keyE := by
      rw [List.map_map, List.map_map]
      refine List.map_congr_left fun r hr => ?_
      obtain ⟨x, t, h1, h2⟩ := row r hr
      rw [h2]
      show Sum.inr (strOf r.2) = Sum.inr x
      rw [h1]
      rfl
    rw [← e]
    exact y
  have hvl : vs.length = rows.size := by
    have y := pm.length_eq
    simpa using y
  have hvz : vs.length ≤ sizeLine := hvl ▸ fits_of_scanBound hb
  refine wpAny_bind (wpAny_newList ?_ hvz)
  have hoL : (s1.heap.push (seqObj "list" vs.toArray 0)).get? s1.heap.objs.size = some (seqObj "list" vs.toArray 0) := Heap.get?_push_size _ rfl
  refine wpAny_bind (wpAny_holding (wpAny_call_entry slot_list_sort ⟨_, hoL, rfl⟩ entry_list_sort (list_sort_treeKAny strKind_oneLt hoL hI.keysOf (fun v₁ v₂ rest e => keyKind_strs (by rw [← e]; exact hI)) hvz fun st' hp hs => ?_) (args_list_sort _)))
  obtain ⟨ys, y1, y2, y3⟩ := sorted_out_str hI hp hs
  have inj : ∀ {x y : Str}, (Sum.inr x : Key) = Sum.inr y → x = y := fun h => Sum.inr.inj h
  have nd2 : (vs.map strOf).Nodup := by
    have z := pk.nodup_iff.mpr nd
    exact (List.pairwise_map.mp z).imp fun h e => h (congrArg _ e)
  have same : ys = usort ltS zs := by
    refine ris_eq tot_ltS (sortedS_ris y3 (y2.nodup_iff.mpr nd2)) (ris_usort tot_ltS _) fun z => ?_
    rw [y2.mem_iff, mem_usort tot_ltS]
    constructor
    · intro hz
      have h1 : (Sum.inr z : Key) ∈ zs.map Sum.inr := inK_iff.mp ((hm _).mpr (pk.mem_iff.mp (List.mem_map_of_mem hz)))
      obtain ⟨z', hz', e⟩ := List.mem_map.mp h1
      rw [← inj e]
      exact hz'
    · intro hz
      have h1 : (Sum.inr z : Key) ∈ (vs.map strOf).map Sum.inr := pk.mem_iff.mpr ((hm _).mp (inK_iff.mpr (List.mem_map_of_mem hz)))
      obtain ⟨z', hz', e⟩ := List.mem_map.mp h1
      rw [← inj e]
      exact hz'
  subst same
  obtain ⟨c, hc'⟩ := sortedHeap_at (vs := vs) (out := (arrOf st').map (·.2)) hoL
  have hlen : ((usort ltS zs).map V.str).length ≤ sizeLine := by
    rw [List.length_map, y2.length_eq, List.length_map]
    exact hvz
  have kp : ∀ b u, s.heap.get? b = some u → (sortedHeap (s1.heap.push (seqObj "list" vs.toArray 0)) s1.heap.objs.size vs ((arrOf st').map (·.2))).get? b = some u := fun b u e => by
    have y := k1 b u e
    have lt := Heap.lt_size y
    rw [sortedHeap_old (Nat.ne_of_lt lt) (by rw [Heap.size_push]; exact Nat.lt_succ_of_lt lt)]
    exact Heap.get?_push_of_some _ y
  have hn' : H s1.heap.objs.size = none := I.hok.fresh hz
  refine ⟨.none, rfl, wpAny_pure ⟨_, rfl, ?_⟩⟩
  have J : Inv X pins σ (upd H s1.heap.objs.size (.lst ((usort ltS zs).map V.str))) { s with heap := sortedHeap (s1.heap.push (seqObj "list" vs.toArray 0)) s1.heap.objs.size vs ((arrOf st').map (·.2)), gens := s1.gens, drawn := s1.drawn, toks := s1.toks } :=
    I.call (ch := []) (Un.laid kp hz hn') (I.hok.laid kp hz ⟨hlen, ((arrOf st').map (·.2)).toList, c, vals_of_strs y1, by rw [Array.toArray_toList]; exact hc'⟩) (by rw [g1]; exact I.bare) (fun _ z => nomatch z)
  have e : ({ s1 with heap := sortedHeap (s1.heap.push (seqObj "list" vs.toArray 0)) s1.heap.objs.size vs ((arrOf st').map (·.2)) } : Shared) = { s with heap := sortedHeap (s1.heap.push (seqObj "list" vs.toArray 0)) s1.heap.objs.size vs ((arrOf st').map (·.2)), gens := s1.gens, drawn := s1.drawn, toks := s1.toks } := by
    cases s1
    cases s
    cases o1
    rfl
  show EP X pins σ Q _ ({ s1 with heap := sortedHeap (s1.heap.push (seqObj "list" vs.toArray 0)) s1.heap.objs.size vs ((arrOf st').map (·.2)) } : Shared)
  rw [e]
  exact ⟨.ref _, _, J, rfl, q _ hn'⟩
end
end LR

/-! ### more rules over data (own work) -/
namespace LR
open PySem PySem.Spec PyProof.Rows L2 Evl
/-- the small letters, the figures -/
abbrev smallS : Str := "abcdefghijklmnopqrstuvwxyz"
abbrev figS : Str := "0123456789"
def isKeyS (z : Str) : Bool := decide (1 ≤ z.length) && decide (z.length ≤ 10) && z.cps.toList.all fun c => decide (c ∈ smallS.cps.toList)
def isValS (z : Str) : Bool := decide (z.length ≤ 12) && z.cps.toList.all fun c => decide (c ∈ (smallS ++ figS).cps.toList)
def isKeyD : PyData → Bool
  | .str z => isKeyS z
  | _ => false
def isValD : PyData → Bool
  | .str z => isValS z
  | _ => false
/-- texts are not without bound -/
def lenOk : PyData → Prop
  | .str z => z.length ≤ 50000
  | _ => True
theorem rdu_neg {K : PySem.W.Frag} {H : Hp} {i : Int} : RDU K (rU fun i => .int (-i)) (.int i) H (.int (-i)) := fun H' x _ dx H1 e1 Q q => ⟨i, dx.int_eq, q.val e1 fun _ => .int _⟩
abbrev mk (l : List Nat) : Str := ⟨l.toArray⟩
section
variable {K : PySem.W.Frag} {σ : L2.St} {H : Hp} {ta tb te ti : TE} {P : Program} {w : World}
theorem strs_keyV (zs : List Str) : zs.map V.str = (zs.map (Sum.inr : Str → Key)).map kV := by
  rw [List.map_map]
  rfl
theorem ints_keyV (zs : List Int) : zs.map V.int = (zs.map (Sum.inl : Int → Key)).map kV := by
  rw [List.map_map]
  rfl
/-- sorted(set(texts)) -/
theorem ed_sortSetS {zs : List Str} (h : EvD K te σ H (.list (zs.map .str))) (hl : zs.length < 4000) : EvD K (tCB (rSortKS P w) (tCons (tCB (rSetK K P w) (tCons te tNil)) tNil)) σ H (.list ((usort ltS zs).map .str)) := fun H1 e1 Q q =>
  h H1 e1 _ fun v H2 Ha e2 ea xa da => by
    obtain ⟨a, xs, rfl, ha, ra⟩ := da.lst_eq
    have ex := strs_dp ra
    subst ex
    refine ⟨a, zs.map .inr, rfl, by rw [← strs_keyV]; exact sq_of (ea a _ ha), by rw [List.length_map]; exact hl, fun p c hp hc => ?_⟩
    refine ⟨p, zs, c, rfl, upd_same, fun p2 hp2 => ?_⟩
    exact q _ _ (upd Ha p2 _) ((e2.trans (Ex.new hp)).trans (Ex.new hp2)) (ex_upd (ea.trans (Ex.new hp))) (xa.trans (e2.trans (Ex.new hp)) (Ext.new (ea.trans (Ex.new hp)) hp2)) (.lst upd_same (dp_strs _))
/-- len(set(..)) of keys -/
theorem nodup_ulen {ks : List Key} {n : List Key} (h1 : ks.Nodup) (h2 : n.Nodup) (h : ∀ k, k ∈ ks ↔ k ∈ n) : ks.length = n.length := by
  have a := List.Nodup.length_le_of_subset h1 (fun k hk => (h k).mp hk)
  have b := List.Nodup.length_le_of_subset h2 (fun k hk => (h k).mpr hk)
  omega
/-- sep.join(texts) -/
theorem ed_join {a : Str} {zs : List Str} {N : Nat} (ha : EvD K ta σ H (.str a)) (hb : EvD K tb σ H (.list (zs.map .str))) (hl : (zs.map (·.length)).sum + zs.length * a.length ≤ N) (hN : N ≤ 16777216 := by decide) : EvD K (tM1 (rJoin K) ta tb) σ H (.str (Txt.join a zs)) := fun H1 e1 Q q =>
  ha H1 e1 _ fun v H2 Ha e2 ea xa da => ⟨⟨a, da.str_eq⟩, (hb.mono xa.ex) H2 ea _ fun v' H3 Hb e3 eb xb db => by
    obtain ⟨p, xs, rfl, hp, rp⟩ := db.lst_eq
    have ex := strs_dp rp
    subst ex
    exact ⟨a, p, zs, da.str_eq, rfl, .inl (sq_of (eb p _ hp)), Nat.le_trans hl hN, q _ H3 Hb (e2.trans e3) eb (xa.trans e2 xb) (.str _)⟩⟩
/-- text.index(text) -/
theorem ed_sindex {a b : Str} {i : Nat} {rest : List Nat} (ha : EvD K ta σ H (.str a)) (hb : EvD K tb σ H (.str b)) (hi : Builtin.Str.occurrences a b 0 a.length 1 = i :: rest) : EvD K (tM1 (fun x xs H Q => ∃ a b i rest, x = .str a ∧ xs = [.str b] ∧ Builtin.Str.occurrences a b 0 a.length 1 = i :: rest ∧ Q (.int (i : Nat)) H) ta tb) σ H (.int i) := fun H1 e1 Q q =>
  ha H1 e1 _ fun v H2 Ha e2 ea xa da => ⟨⟨a, da.str_eq⟩, (hb.mono xa.ex) H2 ea _ fun v' H3 Hb e3 eb xb db => ⟨a, b, i, rest, da.str_eq, by rw [db.str_eq], hi, q _ H3 Hb (e2.trans e3) eb (xa.trans e2 xb) (.int _)⟩⟩
theorem ed_sfind {a b : Str} (ha : EvD K ta σ H (.str a)) (hb : EvD K tb σ H (.str b)) : EvD K (tM1 (fun x xs H Q => ∃ a b, x = .str a ∧ xs = [.str b] ∧ Q (.int (Txt.find a b)) H) ta tb) σ H (.int (Txt.find a b)) := fun H1 e1 Q q =>
  ha H1 e1 _ fun v H2 Ha e2 ea xa da => ⟨⟨a, da.str_eq⟩, (hb.mono xa.ex) H2 ea _ fun v' H3 Hb e3 eb xb db => ⟨a, b, da.str_eq, by rw [db.str_eq], q _ H3 Hb (e2.trans e3) eb (xa.trans e2 xb) (.int _)⟩⟩
/-- sum(whole numbers) -/
theorem ed_sum {ns : List Int} (h : EvD K te σ H (.list (ns.map .int))) : EvD K (tCB (rSum K) (tCons te tNil)) σ H (.int ns.sum) := fun H1 e1 Q q =>
  h H1 e1 _ fun v H2 Ha e2 ea xa da => by
    obtain ⟨a, xs, rfl, ha, ra⟩ := da.lst_eq
    have ex := ints_dp ra
    subst ex
    exact ⟨a, ns, rfl, sq_of (ea a _ ha), q _ H2 Ha e2 ea xa (.int _)⟩
/-- list(a list) -/
theorem ed_listL {ds : List PyData} (h : EvD K te σ H (.list ds)) : EvD K (tCB (rLstOf K) (tCons te tNil)) σ H (.list ds) := fun H1 e1 Q q =>
  h H1 e1 _ fun v H2 Ha e2 ea xa da => by
    obtain ⟨a, xs, rfl, ha, ra⟩ := da.lst_eq
    refine ⟨a, xs, rfl, .inl (sq_of (ea a _ ha)), fun p hp => ?_⟩
    exact q _ _ (upd Ha p _) (e2.trans (Ex.new hp)) (ex_upd ea) (xa.trans e2 (Ext.new ea hp)) (.lst upd_same (DtAll.ex (Ex.new (fresh_back ea hp)) ra))
theorem ed_listT {ds : List PyData} (h : EvD K te σ H (.tuple ds)) : EvD K (tCB (rLstOf K) (tCons te tNil)) σ H (.list ds) := fun H1 e1 Q q =>
  h H1 e1 _ fun v H2 Ha e2 ea xa da => by
    obtain ⟨a, xs, rfl, ha, ra⟩ := da.tup_eq
    refine ⟨a, xs, rfl, .inr (ex_t ea ha), fun p hp => ?_⟩
    exact q _ _ (upd Ha p _) (e2.trans (Ex.new hp)) (ex_upd ea) (xa.trans e2 (Ext.new ea hp)) (.lst upd_same (DtAll.ex (Ex.new (fresh_back ea hp)) ra))
theorem ed_min2 {a b : Int} {tA : TA} (h : EvDs K tA σ H [.int a, .int b]) : EvD K (tCB (fun xs H Q => ∃ i j, xs = [.int i, .int j] ∧ Q (.int (if j < i then j else i)) H) tA) σ H (.int (if b < a then b else a)) :=
  ed_cb h fun H' vs e dv H1 e1 Q q => by
    cases dv with
    | cons x y =>
      cases y with
      | cons y z =>
        cases z
        rw [x.int_eq, y.int_eq]
        exact ⟨a, b, rfl, q.val e1 fun _ => .int _⟩
/-- [e for k in range(n)] -/
theorem ed_lcR {tA : TA} {n : Int} {j : Nat} {vs : List Nat} {ss : List SD} (f : Nat → PyData) (s : Sl K H σ ss) (hn : EvDs K tA σ H [.int n]) (h2 : n ≤ 50000) (hv : vs = [j])
    (he : ∀ i, i < n.toNat → ∀ (σ2 : L2.St) (Hc : Hp), Ex H Hc → Sl K Hc σ2 ((wipeS ss vs).set j (.dat (.int i))) → EvD K te σ2 Hc (f i)) (h1 : -(2 ^ 62) ≤ n := by omega) :
    EvD K (tLc (iRng1 tA) (gName j) tYes te vs) σ H (.list ((List.range n.toNat).map f)) := by
  subst hv
  refine ed_lc (fun i => some (f i)) (ei_range hn h1 (by omega)) (fun i hi Hi Hb H2 x H3 e0 e1 e2 y => ?_) (by omega) ?_
  · obtain ⟨rfl, rfl⟩ := y
    refine ⟨Hb, _, Ext.refl _ _, e2, Ex.refl _, eg_name, ?_, true, fun H1 _ Q q => q H1 (Ex.refl _), (fun h => nomatch h), fun _ => ⟨f i, rfl, ?_⟩⟩
    · show ((L2.wipe σ []).set j none |>.set j _).set j none = (L2.wipe σ []).set j none
      simp
    · refine he i hi _ Hb (e0.trans e1) ?_
      have z := (((s.ex (e0.trans e1)).wipe [j]).set (s := .dat (.int i)) (o := some (.int (0 + i))) (by show Dt K Hb (.int (0 + (i : Int))) (.int i); rw [Int.zero_add]; exact .int _) j)
      exact z
  · induction List.range n.toNat with
    | nil => rfl
    | cons a r ih => rw [List.filterMap_cons, List.map_cons, ih]
/-- [e for x in data if ..] -/
theorem ed_lcW {ds : List PyData} {j : Nat} {vs : List Nat} {ss : List SD} {tt : TT} (f : PyData → Option PyData) (s : Sl K H σ ss) (hw : EvI (iU K ti) σ H ds.length (YD K ds)) (h2 : ds.length ≤ 50000) (hv : vs = [j])
    (he : ∀ d ∈ ds, ∀ (σ2 : L2.St) (Hc : Hp), Ex H Hc → Sl K Hc σ2 ((wipeS ss vs).set j (.dat d)) → ∃ b, EvB tt σ2 Hc b ∧ (b = false → f d = none) ∧ (b = true → ∃ z, f d = some z ∧ EvD K te σ2 Hc z)) :
    EvD K (tLc (iU K ti) (gName j) tt te vs) σ H (.list (ds.filterMap f)) := by
  subst hv
  refine ed_lc (fun i => (ds[i]?).bind f) hw (fun i hi Hi Hb H2 x H3 e0 e1 e2 y => ?_) h2 (filterMap_range ds f).symm
  obtain ⟨rfl, d, hd, dx⟩ := y
  obtain ⟨b, b1, b2, b3⟩ := he d (List.mem_of_getElem? hd) _ Hb (e0.trans e1) (((s.ex (e0.trans e1)).wipe [j]).set (s := .dat d) (o := some x) (Dt.ex e1 dx) j)
  refine ⟨Hb, _, Ext.refl _ _, e2, Ex.refl _, eg_name, ?_, b, b1, fun h => ?_, fun h => ?_⟩
  · show ((L2.wipe σ []).set j none |>.set j _).set j none = (L2.wipe σ []).set j none
    simp
  · show (ds[i]?).bind f = none
    rw [hd]
    exact b2 h
  · obtain ⟨z, z1, z2⟩ := b3 h
    refine ⟨z, ?_, z2⟩
    show (ds[i]?).bind f = some z
    rw [hd]
    exact z1
theorem ed_lcD {ds : List PyData} {j : Nat} {vs : List Nat} {ss : List SD} (f : PyData → PyData) (s : Sl K H σ ss) (hw : EvI (iU K ti) σ H ds.length (YD K ds)) (h2 : ds.length ≤ 50000) (hv : vs = [j])
    (he : ∀ d ∈ ds, ∀ (σ2 : L2.St) (Hc : Hp), Ex H Hc → Sl K Hc σ2 ((wipeS ss vs).set j (.dat d)) → EvD K te σ2 Hc (f d)) : EvD K (tLc (iU K ti) (gName j) tYes te vs) σ H (.list (ds.map f)) := by
  have z := ed_lcW (te := te) (tt := tYes) (fun d => some (f d)) s hw h2 hv fun d hd σ2 Hc e1 s2 => ⟨true, fun H1 _ Q q => q H1 (Ex.refl _), (fun h => nomatch h), fun _ => ⟨f d, rfl, he d hd σ2 Hc e1 s2⟩⟩
  refine ed_is z ?_
  congr 1
  exact congrFun List.filterMap_eq_map' ds
/-- [e for c in text] -/
theorem ed_lcS {z : Str} {j : Nat} {ss : List SD} {vs : List Nat} (f : Nat → PyData) (hz : z.length ≤ 50000) (s : Sl K H σ ss) (hi : EvD K ti σ H (.str z)) (hv : vs = [j])
    (he : ∀ c ∈ z.cps.toList, ∀ (σ2 : L2.St) (Hc : Hp), Ex H Hc → Sl K Hc σ2 ((wipeS ss vs).set j (.dat (.str ⟨#[c]⟩))) → EvD K te σ2 Hc (f c)) :
    EvD K (tLc (iU K ti) (gName j) tYes te vs) σ H (.list (z.cps.toList.map f)) := by
  subst hv
  refine ed_lc (fun i => (z.cps.toList[i]?).bind fun c => some (f c)) (eiU_str hi) (fun i hi Hi Hb H2 x H3 e0 e1' e2 y => ?_) (by show z.cps.size ≤ 50000; exact hz) ?_
  · have e1 := e0.trans e1'
    obtain ⟨rfl, c, hc, rfl⟩ := y
    have hc' : z.cps.toList[i]? = some c := by simpa using hc
    refine ⟨Hb, _, Ext.refl _ _, e2, Ex.refl _, eg_name, ?_, true, fun H1 _ Q q => q H1 (Ex.refl _), (fun h => nomatch h), fun _ => ⟨f c, ?_, ?_⟩⟩
    · show ((L2.wipe σ []).set j none |>.set j _).set j none = (L2.wipe σ []).set j none
      simp
    · rw [hc']
      rfl
    · exact he c (List.mem_of_getElem? hc') _ Hb e1 (((s.ex e1).wipe [j]).set (s := .dat (.str ⟨#[c]⟩)) (o := some (.str ⟨#[c]⟩)) (.str _) j)
  · have e : z.cps.size = z.cps.toList.length := by simp
    rw [e, filterMap_range]
    exact (congrFun List.filterMap_eq_map' _).symm
/-- zip of two lists -/
def YZ (K : PySem.W.Frag) (ds es : List PyData) : Hp → Nat → Hp → V → Hp → Prop := fun Hi i H v H' => ∃ T x y d e, v = .ref T ∧ H T = none ∧ H' = upd H T (.tup [x, y]) ∧ ds[i]? = some d ∧ es[i]? = some e ∧ Dt K Hi x d ∧ Dt K Hi y e
theorem ei_zip {tA : TA} {ds es : List PyData} (h : EvDs K tA σ H [.list ds, .list es]) : EvI (RZ.iZipA K tA) σ H (min ds.length es.length) (YZ K ds es) := fun H1 e1 R r =>
  h H1 e1 _ fun vs H2 H' e2 e x dv => by
    cases dv with
    | cons d1 d2 =>
      cases d2 with
      | cons d2 d3 =>
        cases d3
        obtain ⟨a, xs, rfl, ha, ra⟩ := d1.lst_eq
        obtain ⟨b, ys, rfl, hb, rb⟩ := d2.lst_eq
        refine ⟨a, b, xs, ys, rfl, .inl ⟨sq_of (e a _ ha), sq_of (e b _ hb), r _ (fun H3 => Ex H' H3) H2 H' e2 e x (fun H3 e3 => e3) ?_⟩⟩
        refine (walk_zip (K := K) (a := a) (b := b) (xs := xs) (ys := ys) (by rw [ra.length, rb.length])).mono (fun H3 e3 => ⟨sq_of (e3 a _ ha), sq_of (e3 b _ hb)⟩) fun i H3 v H4 hi e3 z => ?_
        obtain ⟨T, x, y, h1, h2, h3, h4, h5⟩ := z
        obtain ⟨d, q1, q2⟩ := ra.get' h4
        obtain ⟨d', q3, q4⟩ := rb.get' h5
        exact ⟨T, x, y, d, d', h1, h2, h3, q1, q3, q2, q4⟩
end
section
variable {K : PySem.W.Frag} {H0 H10 H H1 : Hp} {σ : L2.St} {ss : List SD} {te tb : TE} {d : PyData} {D : Ends}
/-- a for, with what the walked thing has laid -/
theorem st_forX {wi : TI} {g : TG} {tb : TS} {n : Nat} {Y : Hp → Nat → Hp → V → Hp → Prop} (nw : Now H0 H10 H H1) (h : EvI wi σ H n Y)
    (k : ∀ Hb H2, Ext H H1 Hb → Now H0 H10 Hb H2 → Ex H1 H2 → ∃ Pv : Nat → L2.St → Hp → Prop, Pv 0 σ H2 ∧ (∀ i σ' H3, Pv i σ' H3 → Ex Hb H3) ∧
      (∀ i x σ' H3 H4, i < n → Pv i σ' H3 → Y Hb i H3 x H4 → g x σ' H4 fun σ2 H5 => tb { D with nx := Pv (i + 1), ct := Pv (i + 1), bk := D.nx } σ2 H5) ∧ ∀ σ' H3, Pv n σ' H3 → D.nx σ' H3) : tFor wi g tb D σ H1 :=
  h H1 nw.ex _ fun J G H2 H' e2 e x hG w => by
    obtain ⟨Pv, p0, pe, pt, pd⟩ := k H' H2 x (nw.on e2 e x) e2
    exact for_it (w.mono (G' := fun H3 => Ex H' H3) (fun H3 e3 => hG H3 e3) fun _ _ _ _ _ _ y => y) Pv p0 (fun i σ' H3 _ p => pe i σ' H3 p) (fun i y σ' H3 H4 hi p yy => pt i y σ' H3 H4 hi p yy) pd
/-- a, b = [], x -/
theorem st_parNew {i j : Nat} (n : Now H0 H10 H H1) (s : Sl K H σ ss) (h : ∀ H', Ex H H' → EvD K tb σ H' d) (k : ∀ l σ' H' H2, Ex H H' → H' l = none → H10 l = none → H2 l = some (.lst []) → Now H0 H10 H' H2 → Sl K H' σ' ((ss.set i (.val (.ref l))).set j (.dat d)) → D.nx σ' H2) :
    tPar i j (tCons (tLst tNil) (tCons tb tNil)) D σ H1 :=
  ⟨by show 0 ≤ sizeLine; exact Nat.zero_le _, fun p hp => by
    refine (h H (Ex.refl _)) _ (n.ex.trans (Ex.new hp)) _ fun v H2 H' e2 e x dv => ?_
    have hl : H' p = none := x.off (fresh_back n.ex hp) upd_same
    exact ⟨_, _, rfl, k p _ H' H2 x.ex hl (fresh_back n.grow hp) (e2 p _ upd_same) ⟨e, n.ext.trans (n.grow.trans (Ex.new hp)) x, (n.grow.trans (Ex.new hp)).trans e2⟩ (((s.ex x.ex).set (s := .val (.ref p)) (o := some (.ref p)) rfl i).set (s := .dat d) (o := some v) dv j)⟩⟩
/-- a list of one's own: at l, with ds in it -/
structure Own (K : PySem.W.Frag) (H10 H H1 : Hp) (l : Addr) (ds : List PyData) : Prop where
  no : H l = none
  old : H10 l = none
  ex : ∃ vs, H1 l = some (.lst vs) ∧ DtAll K H vs ds
theorem Own.on {l : Addr} {ds : List PyData} {H' H2 : Hp} (o : Own K H10 H H1 l ds) (x : Ext H H1 H') (e : Ex H1 H2) : Own K H10 H' H2 l ds := by
  obtain ⟨vs, h1, h2⟩ := o.ex
  exact ⟨x.off o.no h1, o.old, vs, e l _ h1, DtAll.ex x.ex h2⟩
/-- x = e, with what is laid -/
theorem st_asgX {i : Nat} (n : Now H0 H10 H H1) (s : Sl K H σ ss) (h : EvD K te σ H d) (k : ∀ σ' H' H2, Ext H H1 H' → Ex H1 H2 → Now H0 H10 H' H2 → Sl K H' σ' (ss.set i (.dat d)) → D.nx σ' H2) : tAsg te (gName i) D σ H1 :=
  h H1 n.ex _ fun v H2 H' e2 e x dv => k _ H' H2 x e2 (n.on e2 e x) ((s.ex x.ex).set (s := .dat d) (o := some v) dv i)
theorem st_ifX {b : Bool} {tt : TT} {t1 t2 : TS} (n : Now H0 H10 H H1) (h : EvB tt σ H b) (k1 : b = true → ∀ H2, Ex H1 H2 → Now H0 H10 H H2 → t1 D σ H2) (k2 : b = false → ∀ H2, Ex H1 H2 → Now H0 H10 H H2 → t2 D σ H2) : tIfS tt t1 t2 D σ H1 :=
  h H1 n.ex _ fun H2 e2 => by
    have n2 : Now H0 H10 H H2 := ⟨n.ex.trans e2, n.ext, n.grow.trans e2⟩
    cases b with
    | true => exact k1 rfl H2 e2 n2
    | false => exact k2 rfl H2 e2 n2
/-- l.append(e) -/
theorem st_appO {i : Nat} {l : Addr} {ds : List PyData} (n : Now H0 H10 H H1) (s : Sl K H σ ss) (hi : ss[i]? = some (.val (.ref l))) (o : Own K H10 H H1 l ds) (hz : ds.length < 100000) (h : EvD K te σ H d)
    (k : ∀ H' H2, Ext H H1 H' → Own K H10 H' H2 l (ds ++ [d]) → (∀ b u, b ≠ l → H1 b = some u → H2 b = some u) → Now H0 H10 H' H2 → Sl K H' σ ss → D.nx σ H2) : tDrop (tBM K "list" rAppend (tVar i) (tCons te tNil)) D σ H1 := by
  obtain ⟨vs, h1, h2⟩ := o.ex
  refine ⟨.ref l, s.val hi, Or.inl ⟨rfl, vs, sq_of h1⟩, h H1 n.ex _ fun v H2 H' e2 e x dv => ⟨l, vs, v, rfl, rfl, e2 l _ h1, sz_lt (by rw [h2.length]; exact hz), ?_⟩⟩
  have off := x.off o.no h1
  exact k H' _ x ⟨off, o.old, _, upd_same, (DtAll.ex x.ex h2).append (.cons dv .nil)⟩ (fun b u hb hu => by rw [upd_ne hb]; exact e2 b u hu) ((n.on e2 e x).mut off o.old) (s.ex x.ex)
/-- x = [..], a list of one's own -/
theorem st_newD {i : Nat} {ta : TA} {ds : List PyData} (n : Now H0 H10 H H1) (s : Sl K H σ ss) (h : EvDs K ta σ H ds) (hl : ds.length ≤ 100000) (k : ∀ l σ' H' H2, Ext H H1 H' → Ex H1 H2 → H1 l = none → Own K H10 H' H2 l ds → Now H0 H10 H' H2 → Sl K H' σ' (ss.set i (.val (.ref l))) → D.nx σ' H2) : tAsg (tLst ta) (gName i) D σ H1 :=
  h H1 n.ex _ fun vs H2 H' e2 e x dv => ⟨by rw [dv.length]; exact sz_of hl, fun p hp => k p _ H' _ x (e2.trans (Ex.new hp)) (fresh_back e2 hp) ⟨fresh_back e hp, fresh_back (n.grow.trans e2) hp, vs, upd_same, dv⟩ ⟨e.trans (Ex.new hp), n.ext.trans n.grow x, (n.grow.trans e2).trans (Ex.new hp)⟩ ((s.ex x.ex).set (s := .val (.ref p)) (o := some (.ref p)) rfl i)⟩
/-- l.extend(e) -/
theorem st_extO {i : Nat} {l : Addr} {ds es : List PyData} (n : Now H0 H10 H H1) (s : Sl K H σ ss) (hi : ss[i]? = some (.val (.ref l))) (o : Own K H10 H H1 l ds) (hz : ds.length + es.length ≤ 100000) (h : EvD K te σ H (.list es))
    (k : ∀ H' H2, Ext H H1 H' → Own K H10 H' H2 l (ds ++ es) → (∀ b u, b ≠ l → H1 b = some u → H2 b = some u) → Now H0 H10 H' H2 → Sl K H' σ ss → D.nx σ H2) : tDrop (tBM K "list" rExtend (tVar i) (tCons te tNil)) D σ H1 := by
  obtain ⟨vs, h1, h2⟩ := o.ex
  refine ⟨.ref l, s.val hi, Or.inl ⟨rfl, vs, sq_of h1⟩, h H1 n.ex _ fun v H2 H' e2 e x dv => ?_⟩
  obtain ⟨b, zs, rfl, hb, rb⟩ := dv.lst_eq
  have off := x.off o.no h1
  refine ⟨l, b, vs, zs, rfl, rfl, e2 l _ h1, e b _ hb, sz_of (by rw [h2.length, rb.length]; exact hz), ?_⟩
  exact k H' _ x ⟨off, o.old, _, upd_same, (DtAll.ex x.ex h2).append rb⟩ (fun b u hb hu => by rw [upd_ne hb]; exact e2 b u hu) ((n.on e2 e x).mut off o.old) (s.ex x.ex)
/-- a slot, told otherwise -/
theorem Sl.as {s' : SD} {o : Option V} : ∀ {σ : L2.St} {ss : List SD} {i : Nat}, Sl K H σ ss → σ[i]? = some o → SdOk K H o s' → Sl K H σ (ss.set i s')
  | _, _, _, .nil, h, _ => by simp at h
  | _, _, 0, .cons a b, h, ok => by
    simp at h
    subst h
    exact .cons ok b
  | _, _, i + 1, .cons a b, h, ok => .cons a (Sl.as b (by simpa using h) ok)
/-- a list of one's own that is not changed any more -/
theorem Own.freeze {i : Nat} {l : Addr} {ds : List PyData} (n : Now H0 H10 H H1) (s : Sl K H σ ss) (hi : ss[i]? = some (.val (.ref l))) (o : Own K H10 H H1 l ds) : ∃ H', Ex H H' ∧ (∀ b, b ≠ l → H' b = H b) ∧ Now H0 H10 H' H1 ∧ Sl K H' σ (ss.set i (.dat (.list ds))) := by
  obtain ⟨vs, h1, h2⟩ := o.ex
  have e1 : Ex H (upd H l (.lst vs)) := Ex.new o.no
  refine ⟨upd H l (.lst vs), e1, fun b hb => upd_ne hb, ⟨?_, ⟨n.ext.ex.trans e1, fun b u hb => ?_⟩, n.grow⟩, (s.ex e1).as (s.val hi) (.lst upd_same (DtAll.ex e1 h2))⟩
  · intro b u hb
    by_cases z : b = l
    · subst z
      rw [upd_same] at hb
      cases hb
      exact h1
    · rw [upd_ne z] at hb
      exact n.ex b u hb
  · by_cases z : b = l
    · subst z
      rw [upd_same] at hb
      cases hb
      exact .inr ⟨o.old, fun ps z => by cases z⟩
    · rw [upd_ne z] at hb
      exact n.ext.fresh b u hb
/-- a list of one's own is told -/
theorem st_retOwn {i : Nat} {l : Addr} {vs : List V} {ds : List PyData} {Q : VK} (n : Now H0 H10 H H1) (s : Sl K H σ ss) (hi : ss[i]? = some (.val (.ref l))) (hl : H l = none) (h0 : H10 l = none) (h1 : H1 l = some (.lst vs)) (dv : DtAll K H vs ds) (q : KD K H0 H10 (.list ds) Q) (hQ : D.rt = Q := by rfl) : tRet (tVar i) D σ H1 := by
  subst hQ
  refine ⟨.ref l, s.val hi, ?_⟩
  refine q _ H1 (upd H l (.lst vs)) n.grow ?_ ⟨n.ext.ex.trans (Ex.new hl), fun b o hb => ?_⟩ (.lst upd_same (DtAll.ex (Ex.new hl) dv))
  · intro b o hb
    by_cases z : b = l
    · subst z
      rw [upd_same] at hb
      cases hb
      exact h1
    · rw [upd_ne z] at hb
      exact n.ex b o hb
  · by_cases z : b = l
    · subst z
      rw [upd_same] at hb
      cases hb
      exact .inr ⟨h0, fun ps z => by cases z⟩
    · rw [upd_ne z] at hb
      exact n.ext.fresh b o hb
end
def lstD : PyData → Bool
  | .list _ => true
  | .dict _ => true
  | _ => false
theorem kit_lst (d : PyData) : kitB (tyD d) "list" = some (lstD d) := by
  cases d with
  | none => exact (by decide +kernel : kitB "NoneType" "list" = some false)
  | bool _ => exact (by decide +kernel : kitB "bool" "list" = some false)
  | int _ => exact (by decide +kernel : kitB "int" "list" = some false)
  | str _ => exact (by decide +kernel : kitB "str" "list" = some false)
  | list _ => exact (by decide +kernel : kitB "list" "list" = some true)
  | tuple _ => exact (by decide +kernel : kitB "tuple" "list" = some false)
  | dict _ => exact (by decide +kernel : kitB "list" "list" = some true)
def tupD : PyData → Bool
  | .tuple _ => true
  | _ => false
theorem kit_tup (d : PyData) : kitB (tyD d) "tuple" = some (tupD d) := by
  cases d with
  | none => exact (by decide +kernel : kitB "NoneType" "tuple" = some false)
  | bool _ => exact (by decide +kernel : kitB "bool" "tuple" = some false)
  | int _ => exact (by decide +kernel : kitB "int" "tuple" = some false)
  | str _ => exact (by decide +kernel : kitB "str" "tuple" = some false)
  | list _ => exact (by decide +kernel : kitB "list" "tuple" = some false)
  | tuple _ => exact (by decide +kernel : kitB "tuple" "tuple" = some true)
  | dict _ => exact (by decide +kernel : kitB "list" "tuple" = some false)
def intD : PyData → Bool
  | .bool _ => true
  | .int _ => true
  | _ => false
theorem kit_int (d : PyData) : kitB (tyD d) "int" = some (intD d) := by
  cases d with
  | none => exact (by decide +kernel : kitB "NoneType" "int" = some false)
  | bool _ => exact (by decide +kernel : kitB "bool" "int" = some true)
  | int _ => exact (by decide +kernel : kitB "int" "int" = some true)
  | str _ => exact (by decide +kernel : kitB "str" "int" = some false)
  | list _ => exact (by decide +kernel : kitB "list" "int" = some false)
  | tuple _ => exact (by decide +kernel : kitB "tuple" "int" = some false)
  | dict _ => exact (by decide +kernel : kitB "list" "int" = some false)
def boolD : PyData → Bool
  | .bool _ => true
  | _ => false
theorem kit_bool (d : PyData) : kitB (tyD d) "bool" = some (boolD d) := by
  cases d with
  | none => exact (by decide +kernel : kitB "NoneType" "bool" = some false)
  | bool _ => exact (by decide +kernel : kitB "bool" "bool" = some true)
  | int _ => exact (by decide +kernel : kitB "int" "bool" = some false)
  | str _ => exact (by decide +kernel : kitB "str" "bool" = some false)
  | list _ => exact (by decide +kernel : kitB "list" "bool" = some false)
  | tuple _ => exact (by decide +kernel : kitB "tuple" "bool" = some false)
  | dict _ => exact (by decide +kernel : kitB "list" "bool" = some false)
theorem cr_minK {X : Cx} {K : PySem.W.Frag} (h : X.K = K) (hc : X.calm = true) : CallR X (.builtin "min") (rMin K) := h ▸ cr_min hc
theorem cr_maxK {X : Cx} {K : PySem.W.Frag} (h : X.K = K) (hc : X.calm = true) : CallR X (.builtin "max") (rMax K) := h ▸ cr_max hc
/-- min, max of a list; what is least, greatest -/
theorem ed_minL {K : PySem.W.Frag} {σ : L2.St} {H : Hp} {te : TE} {ns : List Int} {m : Int} (h : EvD K te σ H (.list (ns.map .int))) (h1 : m ∈ ns) (h2 : ∀ y ∈ ns, m ≤ y) : EvD K (tCB (rMin K) (tCons te tNil)) σ H (.int m) := fun H1 e1 Q q =>
  h H1 e1 _ fun v H2 Ha e2 ea xa da => by
    obtain ⟨a, xs, rfl, ha, ra⟩ := da.lst_eq
    have ex := ints_dp ra
    subst ex
    refine ⟨a, ns, rfl, sq_of (ea a _ ha), List.length_pos_of_mem h1, fun m' m1 m2 => ?_⟩
    have e : m' = m := Int.le_antisymm (m2 m h1) (h2 m' m1)
    subst e
    exact q _ H2 Ha e2 ea xa (.int _)
theorem ed_maxL {K : PySem.W.Frag} {σ : L2.St} {H : Hp} {te : TE} {ns : List Int} {m : Int} (h : EvD K te σ H (.list (ns.map .int))) (h1 : m ∈ ns) (h2 : ∀ y ∈ ns, y ≤ m) : EvD K (tCB (rMax K) (tCons te tNil)) σ H (.int m) := fun H1 e1 Q q =>
  h H1 e1 _ fun v H2 Ha e2 ea xa da => by
    obtain ⟨a, xs, rfl, ha, ra⟩ := da.lst_eq
    have ex := ints_dp ra
    subst ex
    refine ⟨a, ns, rfl, sq_of (ea a _ ha), List.length_pos_of_mem h1, fun m' m1 m2 => ?_⟩
    have e : m' = m := Int.le_antisymm (h2 m' m1) (m2 m h1)
    subst e
    exact q _ H2 Ha e2 ea xa (.int _)
/-- len(set(whole numbers that are all unlike)) -/
theorem ed_lenSetI {P : Program} {w : World} {K : PySem.W.Frag} {σ : L2.St} {H : Hp} {te : TE} {ns : List Int} (h : EvD K te σ H (.list (ns.map .int))) (hl : ns.length < 4000) (nd : ns.Nodup) : EvD K (tCB (rLenK P w) (tCons (tCB (rSetK K P w) (tCons te tNil)) tNil)) σ H (.int ns.length) := fun H1 e1 Q q =>
  h H1 e1 _ fun v H2 Ha e2 ea xa da => by
    obtain ⟨a, xs, rfl, ha, ra⟩ := da.lst_eq
    have ex := ints_dp ra
    subst ex
    refine ⟨a, ns.map .inl, rfl, by rw [← ints_keyV]; exact sq_of (ea a _ ha), by rw [List.length_map]; exact hl, fun p c hp hc => ?_⟩
    refine ⟨p, _, c, rfl, upd_same, fun ks k1 k2 => ?_⟩
    have e : ks.length = ns.length := by
      have z := nodup_ulen k1 (n := ns.map (Sum.inl : Int → Key)) (List.pairwise_map.mpr (nd.imp fun h e => h (Sum.inl.inj e))) fun k => (k2 k).trans inK_iff
      rw [List.length_map] at z
      exact z
    rw [e]
    exact q _ _ Ha (e2.trans (Ex.new hp)) (ea.trans (Ex.new hp)) xa (.int _)
theorem st_retO {K : PySem.W.Frag} {H0 H10 H H1 : Hp} {σ : L2.St} {ss : List SD} {D : Ends} {i : Nat} {l : Addr} {ds : List PyData} {Q : VK} (n : Now H0 H10 H H1) (s : Sl K H σ ss) (hi : ss[i]? = some (.val (.ref l))) (o : Own K H10 H H1 l ds) (q : KD K H0 H10 (.list ds) Q) (hQ : D.rt = Q := by rfl) : tRet (tVar i) D σ H1 := by
  obtain ⟨vs, h1, h2⟩ := o.ex
  exact st_retOwn n s hi o.no o.old h1 h2 q hQ
theorem lay_strs : ∀ l : List Str, (∀ z ∈ l, PyData.strOk z = true) → PyData.canLayAll0 (l.map .str) = true
  | [], _ => rfl
  | n :: r, h => by simp only [List.map_cons, PyData.canLayAll0, PyData.canLay0, h n List.mem_cons_self, Bool.true_and, lay_strs r fun z hz => h z (List.mem_cons_of_mem _ hz)]
theorem depth_strs : ∀ l : List Str, PyData.depthAll (l.map .str) = 0
  | [] => rfl
  | n :: r => by simp only [List.map_cons, PyData.depthAll, PyData.depth, depth_strs r]; rfl
theorem shaped_strs {l : List Str} (h : ∀ z ∈ l, PyData.strOk z = true) : SeqAt.shaped (.list (l.map .str)) = true := by
  unfold SeqAt.shaped
  simp only [PyData.canLay0, lay_strs l h, PyData.depth, depth_strs, Bool.true_and]
  rfl
theorem eqv_refl' {d : PyData} (h : SeqAt.shaped d = true) : PyData.eqv d d = true := SeqAt.eqv_refl d (SeqAt.canLay_of_shaped h)
end LR

/-! ### the program's own exceptions: facts (own work) -/
namespace LR
open PySem PySem.Spec PyProof.Rows L2 Evl
abbrev gaE (K : PySem.W.Frag) (x : Str) : Addr := He.ga K x
def excOne (K : PySem.W.Frag) (x : Str) : Bool :=
  (He.Fa.exc x).ok K && ((He.Fa.glo x).ok K && (He.eqO (PySem.W.findIn K (.ref (gaE K x)) "__getattribute__") (some (some (.builtin "BaseException.__getattribute__"))) && (He.eqO (PySem.W.findIn K (.ref (gaE K x)) "__getattr__") (some none) &&
  (PySem.W.hasDictIn K (gaE K x) && (He.eqO (PySem.W.findIn K (.ref (gaE K x)) "__class__") (some (some (.builtin "object.__class__"))) && (He.eqO (PySem.W.specialIn K (.builtin "object.__class__") "__get__") (some (some (.builtin "getset_descriptor.__get__"))) &&
  (decide (PySem.W.takesIn K (.builtin "object.__class__") = some true) && decide (PySem.W.mroIn K (gaE K x) (.type "object") = some true))))))))
def excTwo (K : PySem.W.Frag) (x y : Str) : Bool := decide (PySem.W.kitOne K (.ref (gaE K x)) (.ref (gaE K y)) = some (decide (x = y))) && decide (PySem.W.exmOne K (.ref (gaE K x)) (.ref (gaE K y)) = some (decide (x = y)))
def excTop (K : PySem.W.Frag) (x : Str) : Bool := decide (PySem.W.kitOne K (.ref (gaE K x)) (.type "ValueError") = some true) && decide (PySem.W.exmOne K (.ref (gaE K x)) (.ref (gaE K "LeafError")) = some true)
def exOk (ns : List Str) (K : PySem.W.Frag) : Bool := (He.Fa.glo "LeafError").ok K && ns.all fun x => excOne K x && (excTop K x && ns.all fun y => excTwo K x y)
/-- what is known of the exceptions ns -/
structure ExT (ns : List Str) (K : PySem.W.Frag) (mg : Str → Option Value) : Prop where
  leaf : mg "LeafError" = some (.ref (gaE K "LeafError"))
  glo : ∀ x ∈ ns, mg x = some (.ref (gaE K x))
  exc : ∀ x ∈ ns, PySem.W.excIn K (gaE K x) He.veBase "ValueError.__new__" = true
  keep : ∀ x ∈ ns, PySem.W.keepIn K (.ref (gaE K x)) = true
  sub : ∀ x ∈ ns, PySem.W.subIn K (.ref (gaE K x)) (.type "BaseException") = some true
  ty : ∀ x ∈ ns, PySem.W.typeIn K (.ref (gaE K x)) = some (.type "type")
  own : ∀ x ∈ ns, ExcC K (gaE K x)
  kit : ∀ x ∈ ns, ∀ y ∈ ns, PySem.W.kitOne K (.ref (gaE K x)) (.ref (gaE K y)) = some (decide (x = y))
  exm : ∀ x ∈ ns, ∀ y ∈ ns, PySem.W.exmOne K (.ref (gaE K x)) (.ref (gaE K y)) = some (decide (x = y))
  ve : ∀ x ∈ ns, PySem.W.kitOne K (.ref (gaE K x)) (.type "ValueError") = some true
  exl : ∀ x ∈ ns, PySem.W.exmOne K (.ref (gaE K x)) (.ref (gaE K "LeafError")) = some true
theorem exT_of {ns : List Str} {K : PySem.W.Frag} {h : Heap} {mg : Str → Option Value} (X : K.In h) (G : h.Ns mainGlobals mg) (c : exOk ns K = true) : ExT ns K mg := by
  obtain ⟨c0, c⟩ := He.ba c
  have a : ∀ x ∈ ns, excOne K x = true ∧ excTop K x = true ∧ ∀ y ∈ ns, excTwo K x y = true := fun x hx => by
    obtain ⟨c1, c⟩ := He.ba (List.all_eq_true.mp c x hx)
    obtain ⟨c2, c3⟩ := He.ba c
    exact ⟨c1, c2, List.all_eq_true.mp c3⟩
  have b : ∀ x ∈ ns, (He.Fa.exc x).ok K = true ∧ (He.Fa.glo x).ok K = true ∧ PySem.W.findIn K (.ref (gaE K x)) "__getattribute__" = some (some (.builtin "BaseException.__getattribute__")) ∧ PySem.W.findIn K (.ref (gaE K x)) "__getattr__" = some none ∧
      PySem.W.hasDictIn K (gaE K x) = true ∧ PySem.W.findIn K (.ref (gaE K x)) "__class__" = some (some (.builtin "object.__class__")) ∧ PySem.W.specialIn K (.builtin "object.__class__") "__get__" = some (some (.builtin "getset_descriptor.__get__")) ∧
      PySem.W.takesIn K (.builtin "object.__class__") = some true ∧ PySem.W.mroIn K (gaE K x) (.type "object") = some true := fun x hx => by
    obtain ⟨c1, c⟩ := He.ba (a x hx).1
    obtain ⟨c2, c⟩ := He.ba c
    obtain ⟨c3, c⟩ := He.ba c
    obtain ⟨c4, c⟩ := He.ba c
    obtain ⟨c5, c⟩ := He.ba c
    obtain ⟨c6, c⟩ := He.ba c
    obtain ⟨c7, c⟩ := He.ba c
    obtain ⟨c8, c9⟩ := He.ba c
    exact ⟨c1, c2, He.eqO_ok c3, He.eqO_ok c4, c5, He.eqO_ok c6, He.eqO_ok c7, of_decide_eq_true c8, of_decide_eq_true c9⟩
  have e : ∀ x ∈ ns, _ := fun x hx => He.exc_ok (b x hx).1
  exact {
    leaf := He.glo_ok X G c0
    glo := fun x hx => He.glo_ok X G (b x hx).2.1
    exc := fun x hx => (e x hx).1
    keep := fun x hx => (e x hx).2.1
    sub := fun x hx => (e x hx).2.2.1
    ty := fun x hx => (e x hx).2.2.2
    own := fun x hx => ⟨(b x hx).2.2.1, (b x hx).2.2.2.1, (e x hx).2.2.1, (b x hx).2.2.2.2.1, (b x hx).2.2.2.2.2.1, (b x hx).2.2.2.2.2.2.1, (b x hx).2.2.2.2.2.2.2.1, (b x hx).2.2.2.2.2.2.2.2⟩
    kit := fun x hx y hy => of_decide_eq_true (He.ba ((a x hx).2.2 y hy)).1
    exm := fun x hx y hy => of_decide_eq_true (He.ba ((a x hx).2.2 y hy)).2
    ve := fun x hx => of_decide_eq_true (He.ba (a x hx).2.1).1
    exl := fun x hx => of_decide_eq_true (He.ba (a x hx).2.1).2 }
end LR

/-! ### within an except suite (own work) -/
namespace LR
open PySem PySem.Spec PyProof.Rows L2 Evl L2H
section
variable {X : Cx}
/-- isinstance(e, c), e the exception that is pinned -/
theorem call_isP {a D : Addr} {oe : Obj} (C : ExcC X.K D) (hz : Zc (.ref D) none oe) (hf : ∃ vs, oe.data = .fields vs) (hp : (a, oe) ∈ X.pn) : CallR X (.builtin "isinstance") (rIsE X.K D a) := by
  rintro pins s σ H xs us Q I r ⟨c, cv, b, rfl, hcv, e, q⟩
  match us, r with
  | _, .cons rx (.cons rt .nil) =>
    cases rx
    obtain rfl := hcv _ rt
    obtain ⟨get, _⟩ := I.pin (a, oe) (List.mem_append_left _ hp)
    have J : PySem.W.InstAt s.heap a oe D none := by
      obtain ⟨vs, hv⟩ := hf
      obtain ⟨c1, c2, c3, c4⟩ := oe
      obtain ⟨z1, z2⟩ := hz
      simp only at z1 z2 hv
      subst z1 z2 hv
      exact ⟨get, rfl, rfl, trivial⟩
    exact PySem.W.kia_one (PySem.W.handS_kitx_exc C.hg C.hk C.hs C.hd C.ha C.hn C.ht C.hm) I.kIn J e (fun z => nomatch z) fun tk => ⟨.bl b, H, I.kept (t' := tk) fun _ _ z => z, rfl, q⟩
/-- xs.count(b), truths -/
def eqb (b : Bool) (v : Value) : Bool := match v with
  | .bool c => c == b
  | _ => false
def rCntB (K : PySem.W.Frag) : V → List V → Hp → VK → Prop := fun x xs H Q => ∃ (p : Addr) (bs : List Bool) (b : Bool), x = .ref p ∧ xs = [.bl b] ∧ SqL K H p (bs.map V.bl) ∧ Q (.int (bs.count b : Nat)) H
theorem eqb_count {b : Bool} : ∀ bs : List Bool, (bs.map Value.bool).countP (eqb b) = bs.count b
  | [] => rfl
  | c :: r => by
    rw [List.map_cons, List.countP_cons, List.count_cons, eqb_count r]
    rfl
theorem mt_lcountB : MtR X "list.count" (rCntB X.K) := by
  rintro pins s σ H x xs v us Q I rx rxs ⟨p, bs, b, rfl, rfl, hs, q⟩
  cases rx
  obtain ⟨u, rfl, ru⟩ := rxs.one
  cases ru
  obtain ⟨its, rv, ⟨⟨cls, dd, data, sl⟩, n, ho, hc, hdn, hd⟩, hlen⟩ := I.list hs
  simp only at hc hd
  subst hc hd
  have hi := rv.bls
  subst hi
  refine call_meets PySem.F.slot_list_count ⟨_, ho, rfl⟩ PySem.F.entry_list_count (PySem.F.args_list_count_2 _ _)
    (SeqAt.list_countAt p (bs.map Value.bool).toArray n dd sl (.bool b) (eqb b)) ⟨ho, fun y hy => ?_, ?_⟩
  · have hy' : y ∈ bs.map Value.bool := List.mem_toArray.mp hy
    obtain ⟨c, _, rfl⟩ := List.mem_map.mp hy'
    exact SeqAt.EqAt.bool_bool c b
  · refine ⟨.int (bs.count b : Nat), H, I.tok _, ⟨s.toks, ?_⟩, q⟩
    show Value.int (((bs.map Value.bool).toArray.toList.countP (eqb b) : Nat) : Int) s.toks = _
    rw [show ((bs.map Value.bool).toArray.toList) = bs.map Value.bool from rfl, eqb_count]
theorem mt_lcountK {K : PySem.W.Frag} (h : X.K = K) : MtR X "list.count" (rCntB K) := h ▸ mt_lcountB
theorem mt_idxK {K : PySem.W.Frag} (h : X.K = K) : MtR X "list.index" (rIndex K) := h ▸ mt_index
theorem call_isPK {K : PySem.W.Frag} {a D : Addr} {oe : Obj} (h : X.K = K) (C : ExcC K D) (hz : Zc (.ref D) none oe) (hf : ∃ vs, oe.data = .fields vs) (hp : (a, oe) ∈ X.pn) : CallR X (.builtin "isinstance") (rIsE K D a) := by
  subst h
  exact call_isP C hz hf hp
end
section
variable {K : PySem.W.Frag} {σ : L2.St} {H : Hp} {ss : List SD} {ta tb te : TE}
theorem ed_isE {a D : Addr} {i : Nat} {c : V} {cv : Value} {b : Bool} (s : Sl K H σ ss) (hi : ss[i]? = some (.val (.ref a))) (hc : ∀ u, RelV c u → u = cv) (hk : PySem.W.kitOne K (.ref D) cv = some b) : EvD K (tCB (rIsE K D a) (tCons (tVar i) (tCons (tC c) tNil))) σ H (.bool b) := fun H1 e1 Q q =>
  ⟨.ref a, s.val hi, c, cv, b, rfl, hc, hk, q.val e1 fun _ => .bl b⟩
theorem ed_countB {bs : List Bool} {b : Bool} (ha : EvD K ta σ H (.list (bs.map .bool))) (hb : EvD K tb σ H (.bool b)) : EvD K (tBM K "list" (rCntB K) ta (tCons tb tNil)) σ H (.int (bs.count b : Nat)) := fun H1 e1 Q q =>
  ha H1 e1 _ fun v H2 Ha e2 ea xa da => by
    obtain ⟨a, xs, rfl, h, r⟩ := da.lst_eq
    refine ⟨.inl ⟨rfl, xs, sq_of (ea a _ h)⟩, (hb.mono xa.ex) H2 ea _ fun v' H3 Hb e3 eb xb db => ?_⟩
    rw [db.bl_eq]
    refine ⟨a, bs, b, rfl, rfl, sq_of ?_, q _ H3 Hb (e2.trans e3) eb (xa.trans e2 xb) (.int _)⟩
    rw [← bls_dp r]
    exact eb a _ (xb.ex a _ h)
theorem ed_indexB {bs : List Bool} {b : Bool} {j : Nat} (ha : EvD K ta σ H (.list (bs.map .bool))) (hb : EvD K tb σ H (.bool b)) (hj : bs[j]? = some b) (hf : ∀ m z, m < j → bs[m]? = some z → z ≠ b) : EvD K (tBM K "list" (rIndex K) ta (tCons tb tNil)) σ H (.int (j : Nat)) := fun H1 e1 Q q =>
  ha H1 e1 _ fun v H2 Ha e2 ea xa da => by
    obtain ⟨a, xs, rfl, h, r⟩ := da.lst_eq
    have ex := bls_dp r
    subst ex
    refine ⟨.inl ⟨rfl, _, sq_of (ea a _ h)⟩, (hb.mono xa.ex) H2 ea _ fun v' H3 Hb e3 eb xb db => ?_⟩
    rw [db.bl_eq]
    refine ⟨a, bs.map V.bl, .bl b, j, .bl b, rfl, rfl, sq_of (eb a _ (xb.ex a _ h)), rfl, ?_, by rw [List.getElem?_map, hj] <;> rfl, by cases b <;> rfl, fun m z hm hz => ?_, q _ H3 Hb (e2.trans e3) eb (xa.trans e2 xb) (.int _)⟩
    · exact List.all_eq_true.mpr fun z hz => by
        obtain ⟨c, _, rfl⟩ := List.mem_map.mp hz
        rfl
    · rw [List.getElem?_map] at hz
      obtain ⟨c, hc, rfl⟩ := Option.map_eq_some_iff.mp hz
      have := hf m c hm hc
      cases b <;> cases c <;> first | rfl | exact absurd rfl this
end
/-- a def's call where p's exception is handled, p known -/
theorem run_hot {CX : CXT} {P : Program} {w : World} {K : PySem.W.Frag} {mg : Str → Option Value} {base : Heap} {k : Nat} {f : Addr} {nm qual : Str} {pa : Arguments} {bd : List Stmt} {sc : Scope} {fd : FuncData} {N ps : List Str} (F : FunD K nm qual pa bd sc [] [] f fd) (S : FnScope N ps sc)
    {A : Around} {outer : List Env} {s : Shared} {H : Hp} {args : Args} {us : List Value} {vs : List V} {Q : VK} {E : XK} {p : Addr × Obj} (hr : RoomH (k + 1) A) (hpin : PinOk outer H s p) (e0 : Env0 P w K mg base A outer s H) (hb : BindsTo s fd args (ps.zip us)) (r : Vals vs us) (hl : vs.length = ps.length)
    (hbody : ∀ cdv : Value, RoomH k (A.deeper (envOfC qual sc s.heap.objs.size f cdv)) → ∃ t, PSs (cxH CX P w K mg base N qual sc f cdv A outer s H E p) bd t ∧ t { nx := fun _ H' => Q .non H', rt := Q } (L2.start N vs) H) :
    codeAny (model P w) A (.call (.ref f) args) (CR CX outer P w H s Q E) s := by
  obtain ⟨oc, od, dV, kV, doc, pm, an, cdv, ct, osl, rfl, lk, hcd, _, _⟩ := F.ex
  have kin : K.In s.heap := e0.mod.kin.keeps fun b o e => (e0.bs b o e).1
  have lim : s.heap.NoLimit := e0.mod.nolimit.keeps fun b o e => (e0.bs b o e).1
  have kinds : ∀ y ∈ ps.zip us, sc.names.lookup y.1 = some .local ∨ (sc.names.lookup y.1 = some .cell ∧ ((cellsFrom (s.heap.objs.size + 1) sc.names []).lookup y.1).isSome = true) := by
    rintro ⟨n, v⟩ hy
    rcases S.par n (List.of_mem_zip hy).1 with z | z
    · exact .inl z
    · exact .inr ⟨z, PySem.W.cellsFrom_some _ _ _ (.inl z)⟩
  refine codeAny_call_function hr.depth (kin _ _ lk) rfl S.co S.gen rfl (PySem.W.codeRec_of kin hcd) (hb _ _ _ _ (wpAny_newFunctionEnv_cells S.kind kinds fun env he s1 x => ?_))
  subst he
  obtain ⟨t, ht, hq⟩ := hbody cdv (hr.deeper _)
  refine ⟨lim.keeps x.toInCall.keep, codeAny_func (wpAny_mono (ht.run [] s1 (L2.start N vs) H _ (inv_startH S hpin e0 hl r x) hq) (fun fl s' hs => ?_) fun e s' hs => hs)⟩
  match fl, hs with
  | .ret u, ⟨v, σ', H', J, rv, q⟩ => exact ⟨v, H', J.os, J.bare, J.base, J.hok, rv, q⟩
  | .next, ⟨σ', H', J, q⟩ => exact ⟨V.non, H', J.os, J.bare, J.base, J.hok, rfl, q⟩
  | .brk, ⟨_, _, _, q⟩ => exact False.elim q
  | .cont, ⟨_, _, _, q⟩ => exact False.elim q
/-- x(e), e the handled exception, x a def that raises nothing -/
theorem pe_hot {X : Cx} {k i : Nat} {f a : Addr} {oe : Obj} {nm qual : Str} {pa : Arguments} {bd : List Stmt} {sc : Scope} {fd : FuncData} {N : List Str} {p1 n x : Str} {q q2 pos : Pos} {te : Hp → VK → Prop} (F : FunD X.K nm qual pa bd sc [] [] f fd) (S : FnScope N [p1] sc)
    (hr : RoomH (k + 1) X.A) (hp : (a, oe) ∈ X.pn) (hg : Gl X x) (hm : X.mg x = some (.ref f)) (hb : Binds X.K fd [p1] []) (hi : X.N[i]? = some n) (hv : Vis X.env.scope n)
    (hbody : ∀ (s : Shared) (H : Hp) (cdv : Value) (Q : VK), RoomH k (X.A.deeper (envOfC qual sc s.heap.objs.size f cdv)) → te H Q → ∃ t, PSs (cxH (CXL X.prog X.w) X.prog X.w X.K X.mg X.base N qual sc f cdv X.A X.stack s H E0 (a, oe)) bd t ∧ t { nx := fun _ H' => Q .non H', rt := Q } (L2.start N [.ref a]) H)
    (hdb : (x == ("__debug__" : Str)) = false := by decide) (hd : (n == ("__debug__" : Str)) = false := by decide) (hcd : (n == ("__classdict__" : Str)) = false := by decide) :
    PE X (.Call (.Name x q) [.Name n q2] [] pos) (fun σ H Q => σ[i]? = some (some (.ref a)) ∧ te H Q) := by
  refine ⟨fun pins s σ H Q I ⟨hs, h⟩ => ?_⟩
  refine wpAny_Call_Name_kw (ld_glob I hg hm ?_ hdb)
  have pv : PE X (.Name n q2) (tVar i) := pe_var hi hv hd hcd
  have pa1 : PA X [.Name n q2] (tCons (tVar i) tNil) := pa_cons pv pa_nil
  refine PySem.W.callWith_K (h₀ := X.base) I.ok.mod.kin F.kp (thn (pa1.run pos pins s σ H (fun vs H1 => vs = [.ref a] ∧ te H1 Q) I ⟨_, hs, rfl, h⟩) fun us s1 ⟨vs, H1, I1, r, e, hq⟩ => ⟨I1.kIn, ?_⟩) (by rfl) (by rfl)
  subst e
  have P1 := I1.pin (a, oe) (List.mem_append_left _ hp)
  have hpin : PinOk X.stack H1 s1 (a, oe) := ⟨P1.1, P1.2.1, fun z => (List.mem_cons.mp (I1.stkSub a z)).elim P1.2.2.1 P1.2.2.2.1, P1.2.2.2.2⟩
  have b := hb s1 us I1.kIn (by rw [List.append_nil, ← r.length]; rfl)
  rw [List.append_nil] at b
  refine wpAny_call (codeAny_mono (run_hot (E := E0) (Q := Q) F S hr hpin I1.env0 b r rfl fun cdv hr' => hbody s1 H1 cdv Q hr' hq) fun z s' hz => ?_)
  match z, hz with
  | .error e, ⟨_, _, _, _, _, _, _, _, _, _, _, _, y⟩ => exact y.elim
  | .ok (.ret u), hz => exact I1.after hz
  | .ok .next, hz => exact False.elim hz
  | .ok .brk, hz => exact False.elim hz
  | .ok .cont, hz => exact False.elim hz
end LR

/-! ### x(lambda: ..), what the lambda raises has no context (own work over the kit's lambdas) -/
namespace LR
open PySem PySem.Spec PyProof.Rows L2 Evl L2H LamX
/-- the body's context -/
def lamN (X : Cx) (A : Around) (outer : List Env) (s : Shared) (H : Hp) (E : XK) (scope : Scope) (f c' : Addr) : Cx :=
  { lamCx X A outer s H E scope f c' with xe := fun u z => wpAny (model X.prog X.w) (A.deeper (lamEnv X scope s.heap.objs.size f c')) (leaving (lamEnv X scope s.heap.objs.size f c') u) (fun _ z2 => CXL X.prog X.w outer H s E u z2) (fun u2 z2 => CXL X.prog X.w outer H s E u2 z2) z }
section
variable {X : Cx} {pins : List (Addr × Obj)} {σ : L2.St} {H HZ : Hp} {s s1 : Shared}
theorem lamN_takes {A : Around} {outer : List Env} {E : XK} {scope : Scope} {f c' : Addr} : L2N.Takes (lamN X A outer s H E scope f c') (fun cls d _ H' => E cls d H') := L2N.takes_of rfl rfl rfl rfl
theorem lamN_pass {A : Around} {outer : List Env} {E : XK} {scope : Scope} {f c' : Addr} : Passes (CXL (lamN X A outer s H E scope f c').prog (lamN X A outer s H E scope f c').w) (lamN X A outer s H E scope f c') E := L2N.passes_call lamN_takes fun _ _ _ _ h => h
/-- a(), in the def that got the lambda -/
theorem pe_actN {CXg : CXT} {Eg : XK} {Ng : List Str} {qg : Str} {sg : Scope} {g f c' : Addr} {cdg pm ctv : Value} {params : Arguments} {body : Expr} {scope : Scope} {k i : Nat} {a : Str} {pn : List (Addr × Obj)} {xe : Value → Shared → Prop} {W : WX} {E : XK} {tb : TE} {p1 p2 : Pos}
    (I : Inv X pins σ H s) (L : LamS X.env.scope scope) (at_f : s.heap.get? f = some (PySem.W.kla_obj "<lambda>" (X.env.qual ++ "<lambda>") params body scope (cloFrom X.env.cells scope.names []) pm c' ctv)) (no_f : H f = none) (fr_f : f ∉ frs X.stack)
    (bind0 : bindArgs (PySem.W.kla_fn "<lambda>" (X.env.qual ++ "<lambda>") params body scope (cloFrom X.env.cells scope.names []) pm (.ref c') ctv) ⟨[], []⟩ = pure [])
    (tk : L2N.Takes ((cxOf CXg X.prog X.w X.K X.mg X.base Ng qg sg g cdg X.A X.stack s H Eg).tr pn xe) W) (hr : Room (k + 1) (X.A.deeper (envOfC qg sg s.heap.objs.size g cdg)))
    (hbody : ∀ (A : Around) (outer : List Env) (s : Shared) (H : Hp), Room k (A.deeper (lamEnv X scope s.heap.objs.size f c')) → PE (lamN X A outer s H E scope f c') body tb)
    (hN : Ng[i]? = some a) (hv : Vis sg a) (hd : (a == ("__debug__" : Str)) = false := by decide) (hcd : (a == ("__classdict__" : Str)) = false := by decide) :
    PE ((cxOf CXg X.prog X.w X.K X.mg X.base Ng qg sg g cdg X.A X.stack s H Eg).tr pn xe) (.Call (.Name a p1) [] [] p2) (fun σZ HZ Q => (∀ cls d H', E cls d H' → W cls d σZ H') ∧ σZ[i]? = some (some (.ref f)) ∧ HZ c' = some (CodeO c' (X.env.qual ++ "<lambda>")) ∧ tb σ HZ Q) := by
  refine ⟨fun pz sZ σZ HZ Q IZ ⟨hW, hs, hc, ht⟩ => ?_⟩
  refine wpAny_Call_Name_kw (thn ((pe_var (pos := p1) (i := i) hN hv hd hcd).run pz sZ σZ HZ (fun v H1 => v = .ref f ∧ H1 = HZ) IZ ⟨.ref f, hs, rfl, rfl⟩) ?_)
  rintro u s1 ⟨v, H1, I1, r1, rfl, rfl⟩
  obtain rfl : u = Value.ref f := r1
  have f1 : s1.heap.get? f = some (PySem.W.kla_obj "<lambda>" (X.env.qual ++ "<lambda>") params body scope (cloFrom X.env.cells scope.names []) pm c' ctv) := I1.base.keep f _ at_f no_f fr_f (fun z => nomatch (show f ∈ ([] : List Addr) from z))
  obtain ⟨⟨oc, vs, t, c1, c2, c3⟩, _, _⟩ := I1.hok c' _ hc
  have un : Un (frs X.stack) [] H H1 s.heap s1.heap := I1.base
  have rc : codeAny (model X.prog X.w) (X.A.deeper (envOfC qg sg s.heap.objs.size g cdg)) (.call (.ref f) ⟨[], []⟩) (CR (CXL X.prog X.w) (envOfC qg sg s.heap.objs.size g cdg :: X.stack) X.prog X.w H1 s1 Q E) s1 := by
    refine PySem.W.kla_callFunE hr.depth f1 rfl L.co L.gen rfl ⟨c', oc, vs, t, rfl, c1, c2, c3⟩ ?_
    rw [bind0]
    refine wpAny_pure (wpAny_newFunctionEnv (fun y hy => (L.own y hy).2) (fun y hy => absurd hy (by simp)) (fun h₁ ns sb => ⟨I1.nolimit.fresh _ sb, ?_⟩) L.kind)
    have kp : ∀ b o, s1.heap.get? b = some o → h₁.get? b = some o := fun b o e => sb.extBut b o (Nat.ne_of_lt (Heap.lt_size e)) (Heap.get?_push_of_some _ e)
    have J0 := lam_start2 (A := X.A.deeper (envOfC qg sg s.heap.objs.size g cdg)) (outer := envOfC qg sg s.heap.objs.size g cdg :: X.stack) (E := E) (scope := scope) (f := f) (c' := c') (tk := s1.toks + ([] : List (Str × Value)).length) I L I1.env0 hr.hd un ns kp
    have J : Inv (lamN X (X.A.deeper (envOfC qg sg s.heap.objs.size g cdg)) (envOfC qg sg s.heap.objs.size g cdg :: X.stack) s1 H1 E scope f c') [] σ H1 { s1 with heap := h₁, toks := s1.toks + ([] : List (Str × Value)).length } :=
      Inv.unwish (X := lamN X (X.A.deeper (envOfC qg sg s.heap.objs.size g cdg)) (envOfC qg sg s.heap.objs.size g cdg :: X.stack) s1 H1 E scope f c') (E := (lamCx X (X.A.deeper (envOfC qg sg s.heap.objs.size g cdg)) (envOfC qg sg s.heap.objs.size g cdg :: X.stack) s1 H1 E scope f c').xe) J0
    show codeAny _ _ (.expr body (lamEnv X scope s1.heap.objs.size f c')) _ _
    refine PySem.W.kla_codeExpr (wpAny_mono ((hbody _ _ s1 H1 (hr.deeper _)).run [] _ _ H1 Q J ht) ?_ fun e s' hq => hq)
    rintro v s' ⟨w', H', J', rv, q⟩
    exact ⟨w', H', J'.os, J'.bare, J'.base, J'.hok, rv, q⟩
  refine PySem.W.callWith_F0 ⟨_, _, _, _, f1⟩ (wpAny_call (codeAny_mono rc fun r s' hq => ?_))
  match r, hq with
  | .error e, hq => exact tk e s' (L2N.XE.of_call I1 hW hq)
  | .ok (.ret u), hq => exact I1.after hq
  | .ok .next, hq => exact False.elim hq
  | .ok .brk, hq => exact False.elim hq
  | .ok .cont, hq => exact False.elim hq
end
/-- the def that calls what it got: TT is what it makes of the lambda's reading -/
def GivesN (X : Cx) (Ng : List Str) (x : Str) (sg : Scope) (g : Addr) (cdg : Value) (bg : List Stmt) (a : Str) (q : Str) (TT : (XK → Hp → VK → Prop) → Hp → VK → Prop) : Prop :=
  ∀ (f c' : Addr) (s : Shared) (H : Hp) (Q : VK) (tl : XK → Hp → VK → Prop),
    (∀ (W : WX) (pn : List (Addr × Obj)) (xe : Value → Shared → Prop) (E : XK) (p1 p2 : Pos), L2N.Takes ((cxOf (CXL X.prog X.w) X.prog X.w X.K X.mg X.base Ng x sg g cdg X.A X.stack s H E0).tr pn xe) W →
      PE ((cxOf (CXL X.prog X.w) X.prog X.w X.K X.mg X.base Ng x sg g cdg X.A X.stack s H E0).tr pn xe) (.Call (.Name a p1) [] [] p2) (fun σZ HZ Q => (∀ cls d H', E cls d H' → W cls d σZ H') ∧ σZ[0]? = some (some (.ref f)) ∧ HZ c' = some (CodeO c' q) ∧ tl E HZ Q)) →
    Room 1 (X.A.deeper (envOfC x sg s.heap.objs.size g cdg)) → H c' = some (CodeO c' q) → TT tl H Q →
    ∃ t, PSs (cxOf (CXL X.prog X.w) X.prog X.w X.K X.mg X.base Ng x sg g cdg X.A X.stack s H E0).nox bg t ∧ t { nx := fun _ H' => Q .non H', rt := Q } (L2.start Ng [.ref f]) H
section
variable {X : Cx}
/-- x(lambda: body) -/
theorem pe_lamN {T : List (Addr × Str)} {TT : (XK → Hp → VK → Prop) → Hp → VK → Prop} {x a : Str} {g c P : Addr} {k : Nat} {pg : Arguments} {bg : List Stmt} {sg : Scope} {fd : FuncData} {Ng : List Str}
    {params : Arguments} {body : Expr} {scope : Scope} {t : XK → TE} {p lpos pos : Pos} (hg : Gl X x) (hm : X.mg x = some (.ref g)) (F : FunD X.K x x pg bg sg [] [] g fd) (hb : L2.Binds X.K fd [a] []) (Sg : FnScope Ng [a] sg) (hNg : Ng[0]? = some a) (hva : Vis sg a)
    (hG : ∀ cdv, GivesN X Ng x sg g cdv bg a (X.env.qual ++ "<lambda>") TT)
    (TB : TabB X.base X.mg c P) (hcode : X.env.code = .ref c) (hmT : (P, X.env.qual ++ "<lambda>") ∈ T) (hu : ∀ p ∈ T, p.1 = P → p.2 = X.env.qual ++ "<lambda>") (hr : Room (k + 3) X.A) (L : LamS X.env.scope scope) (hdef : defaultsOf params X.env = ([], []))
    (hbind : ∀ (q : Str) (cl : List (Str × Addr)) (pm cv ctv : Value), bindArgs (PySem.W.kla_fn "<lambda>" q params body scope cl pm cv ctv) ⟨[], []⟩ = pure [])
    (hbody : ∀ (A : Around) (outer : List Env) (s : Shared) (H : Hp) (E : XK) (f c' : Addr), Room (k + 1) (A.deeper (lamEnv X scope s.heap.objs.size f c')) → PE (lamN X A outer s H E scope f c') body (t E))
    (hdb : (x == ("__debug__" : Str)) = false := by decide) (hd : (a == ("__debug__" : Str)) = false := by decide) (hcd : (a == ("__classdict__" : Str)) = false := by decide) :
    PE X (.Call (.Name x p) [.Lambda params body scope lpos] [] pos) (tLam T TT t) := by
  refine ⟨fun pins s σ H Q I ⟨hT, h⟩ => ?_⟩
  obtain ⟨oc, od, dV, kV, doc, pm, an, cdv, ct, osl, rfl, lk, hcg, _, _⟩ := F.ex
  refine wpAny_Call_Name_kw (ld_glob I hg hm (PySem.W.callWith_K (h₀ := X.base) I.ok.mod.kin F.kp ?_ (by rfl) (by rfl)) hdb)
  show wpAny _ _ (spliced ((false, eval (.Lambda params body scope lpos) X.env) :: backTo pos (starEach [] X.env))) _ _ s
  refine Calls.spliced_cons (lam_make2 I TB hcode hmT hu hT hdef (L.has I.ok) fun f c' pm' ctv H1 s' I1 eN T1 hf hfn hfr hco => Calls.spliced_nil ⟨I1.kIn, ?_⟩)
  have rc : codeAny (model X.prog X.w) X.A (.call (.ref g) ⟨[.ref f], []⟩) (CR (CXL X.prog X.w) X.stack X.prog X.w H1 s' Q E0) s' := by
    refine run_ofS (N := Ng) (ps := [a]) (us := [.ref f]) (vs := [.ref f]) lk hcg Sg hr I1.env0 (hb s' [.ref f] I1.kIn rfl) (.cons rfl .nil) rfl fun hr' => ?_
    obtain ⟨t', w1, w2⟩ := hG cdv f c' s' H1 Q (fun E H' Q' => t E σ H' Q') (fun W pn xe E p1 p2 tk => pe_actN (i := 0) I1 L hf hfn hfr (hbind _ _ _ _ _) tk hr' (fun A outer s H hr2 => hbody A outer s H E f c' hr2) hNg hva hd hcd) (hr'.mono (by omega)) hco (h H1 eN T1)
    exact ⟨t', w1.nox, w2⟩
  refine wpAny_call (codeAny_mono rc fun r s2 hq => ?_)
  match r, hq with
  | .error e, ⟨_, _, _, _, _, _, _, _, _, _, _, _, y⟩ => exact y.elim
  | .ok (.ret u), hq => exact I1.after hq
  | .ok .next, hq => exact False.elim hq
  | .ok .brk, hq => exact False.elim hq
  | .ok .cont, hq => exact False.elim hq
theorem takesN0 : L2N.Takes X (fun _ _ _ _ => False) := fun _ _ x => by
  obtain ⟨_, _, _, _, _, _, _, _, _, _, _, _, _, _, _, _, z⟩ := x
  exact z.elim
end
end LR

/-! ### defs that may raise; laws that hand lambdas on (own work) -/
namespace LR
open PySem PySem.Spec PyProof.Rows L2 Evl L2H LamX
/-- what a deed comes to: data, or the name of what is raised -/
abbrev Ans := Except Str PyData
/-- what follows -/
def KX (K : PySem.W.Frag) (E : XK) (H H1 : Hp) (Q : VK) : Ans → Prop
  | .ok d => KD K H H1 d Q
  | .error x => ∀ H2, Ex H1 H2 → E (.ref (gaE K x)) none H2
def spX (K : PySem.W.Frag) (n : Nat) (R : List PyData → Ans → Prop) : Sp := fun vs H1 Q E => ∃ H ds r, Ex H H1 ∧ DtAll K H vs ds ∧ ds.length = n ∧ R ds r ∧ KX K E H H1 Q r
theorem spX_len {K : PySem.W.Frag} {n : Nat} {R : List PyData → Ans → Prop} {vs : List V} {H1 : Hp} {Q : VK} {E : XK} (h : spX K n R vs H1 Q E) : vs.length = n := by
  obtain ⟨H, ds, r, _, da, hl, _⟩ := h
  rw [da.length, hl]
def EvX (K : PySem.W.Frag) (E : XK) (te : TE) (σ : L2.St) (H : Hp) (r : Ans) : Prop := ∀ H1, Ex H H1 → ∀ Q : VK, KX K E H H1 Q r → te σ H1 Q
section
variable {K : PySem.W.Frag} {σ : L2.St} {H H0 H10 H1 : Hp} {te : TE} {ta : TA} {E : XK} {r : Ans} {d : PyData} {D : Ends} {ss : List SD}
theorem EvX.ed (h : EvX K E te σ H (.ok d)) : EvD K te σ H d := h
theorem EvD.ex (h : EvD K te σ H d) : EvX K E te σ H (.ok d) := h
theorem ex_call {n : Nat} {R : List PyData → Ans → Prop} {ds : List PyData} (ha : EvDs K ta σ H ds) (hR : R ds r) (hn : ds.length = n := by rfl) : EvX K E (tCall (spX K n R) [] E ta) σ H r := fun H1 e1 Q q =>
  ha H1 e1 _ fun vs H2 Ha e2 ea xa da => by
    show spX K n R (vs ++ []) H2 Q E
    rw [List.append_nil]
    refine ⟨Ha, ds, r, ea, da, hn, hR, ?_⟩
    cases r with
    | ok d => exact fun v H3 Hb e3 eb xb db => q v H3 Hb (e2.trans e3) eb (xa.trans e2 xb) db
    | error x => exact fun H3 e3 => q H3 (e2.trans e3)
/-- e, for what it does -/
theorem st_doX (n : Now H0 H10 H H1) (s : Sl K H σ ss) (h : EvX K E te σ H r) (ok : ∀ d, r = .ok d → ∀ H' H2, Ext H H1 H' → Ex H1 H2 → Now H0 H10 H' H2 → Sl K H' σ ss → D.nx σ H2) (er : ∀ x, r = .error x → ∀ H2, Ex H10 H2 → E (.ref (gaE K x)) none H2) : tDrop te D σ H1 := by
  refine h H1 n.ex _ ?_
  cases r with
  | ok d => exact fun v H2 H' e2 e x dv => ok d rfl H' H2 x e2 (n.on e2 e x) (s.ex x.ex)
  | error x => exact fun H2 e2 => er x rfl H2 (n.grow.trans e2)
/-- x = e -/
theorem st_setX {i : Nat} (n : Now H0 H10 H H1) (s : Sl K H σ ss) (h : EvX K E te σ H r) (ok : ∀ d, r = .ok d → ∀ σ' H' H2, Ext H H1 H' → Ex H1 H2 → Now H0 H10 H' H2 → Sl K H' σ' (ss.set i (.dat d)) → D.nx σ' H2) (er : ∀ x, r = .error x → ∀ H2, Ex H10 H2 → E (.ref (gaE K x)) none H2) : tAsg te (gName i) D σ H1 := by
  refine h H1 n.ex _ ?_
  cases r with
  | ok d => exact fun v H2 H' e2 e x dv => ok d rfl _ H' H2 x e2 (n.on e2 e x) ((s.ex x.ex).set (s := .dat d) (o := some v) dv i)
  | error x => exact fun H2 e2 => er x rfl H2 (n.grow.trans e2)
/-- return e -/
theorem st_retX {Q : VK} (n : Now H0 H10 H H1) (h : EvX K E te σ H r) (q : KX K E H0 H10 Q r) (hQ : D.rt = Q := by rfl) : tRet te D σ H1 := by
  subst hQ
  refine h H1 n.ex _ ?_
  cases r with
  | ok d => exact fun v H2 H' e2 e x dv => q v H2 H' (n.grow.trans e2) e (n.ext.trans n.grow x) dv
  | error x => exact fun H2 e2 => q H2 (n.grow.trans e2)
end
section
variable {P : Program} {w : World} {K : PySem.W.Frag} {mg : Str → Option Value} {base : Heap}
theorem passE {X : Cx} {E : XK} {E₁ : Value → Shared → Prop} (hs : X.stack = X.env :: X.outer) (hf : X.env.frame = some X.env.locals) (hex : X.ex = [])
    (hx : X.xe = fun e s' => wpAny (model X.prog X.w) X.A (leaving X.env e) (fun _ s'' => L2N.CX X.prog X.w X.outer X.H_0 X.s_0 E e s'') E₁ s') : Passes (CXL X.prog X.w) X E := L2N.passes_call (L2N.takes_of hs hf hex hx) fun _ _ _ _ h => h
/-- a def that may raise keeps its promise -/
theorem fx_raise {x nm qual : Str} {st : Stmt} {f : Addr} {fd : FuncData} {N ps : List Str} {k n : Nat} {R : List PyData → Ans → Prop} (F : FunD K nm qual (defArgs st) (defBody st) (defScope st) [] [] f fd) (hm : mg x = some (.ref f)) (S : FnScope N ps (defScope st)) (hn : ps.length = n)
    (hb : ∀ (kV doc pm : Value) (an : Option Addr) (cdv ct : Value) (us : List Value), us.length = ps.length → bindArgs (PySem.W.fnOf nm qual (defArgs st) (defBody st) (defScope st) .none kV doc pm an cdv ct) ⟨us, []⟩ = pure (ps.zip us))
    (body : ∀ (cdv : Value) (A : Around) (outer : List Env) (s : Shared) (Hs : Hp) (E : XK), Room k (A.deeper (envOfC qual (defScope st) s.heap.objs.size f cdv)) → ∀ (ds : List PyData) (r : Ans), ds.length = n → R ds r →
      ∃ t, PSs (cxOf (CXL P w) P w K mg base N qual (defScope st) f cdv A outer s Hs E) (defBody st) t ∧
        ∀ (σ : L2.St) (H0 H10 : Hp) (Q : VK), Now H0 H10 H0 H10 → Sl K H0 σ (ds.map .dat ++ List.replicate (N.length - n) .unk) → KX K E H0 H10 Q r → t { nx := fun _ H' => Q .non H', rt := Q } σ H10) :
    Fx P w K mg base (k + 1) x ps (spX K n R) := by
  refine ⟨f, fd, F.ok S (fun vs H Q E h => by rw [hn]; exact spX_len h) (fun cdv A outer s H1 vs Q E hr h => ?_), hm, F.kp, F.bindsN hb⟩
  obtain ⟨H, ds, r, e, da, hl, hR, q⟩ := h
  obtain ⟨t, ht, hk⟩ := body cdv A outer s H1 E hr ds r hl hR
  refine ⟨t, ht, hk _ H H1 Q (Now.start e) ?_ q⟩
  have lv : vs.length = n := da.length.trans hl
  have z := sl_start (K := K) (H := H) (N.length - vs.length) da
  rw [lv] at z
  unfold L2.start
  rw [lv]
  exact z
end
/-! ### laws with lambdas: the tables of code objects are written -/
def NT (H : Hp) : Prop := ∀ b ps, H b ≠ some (.tbl ps)
theorem ex_nt {H H1 H2 : Hp} (nt : NT H) (e : Ex H H1) (x : ExtN H1 H2) : Ex H H2 := fun b o h => x b o (e b o h) fun ps z => nt b ps (z ▸ h)
/-- new objects that are no tables, and not where one was that is none -/
structure ExtL (H H1 H' : Hp) : Prop where
  ex : Ex H H'
  fresh : ∀ b o, H' b = some o → H b = some o ∨ ((∀ o', H1 b = some o' → ∃ ps, o' = .tbl ps) ∧ ∀ ps, o ≠ .tbl ps)
theorem Ext.l {H H1 H' : Hp} (x : Ext H H1 H') : ExtL H H1 H' := ⟨x.ex, fun b o h => (x.fresh b o h).imp id fun z => ⟨fun o' q => (by rw [z.1] at q; cases q), z.2⟩⟩
theorem ExtL.nt {H H1 H' : Hp} (x : ExtL H H1 H') (n : NT H) : NT H' := fun b ps h => by
  rcases x.fresh b _ h with z | z
  · exact n b ps z
  · exact z.2 ps rfl
theorem ExtL.trans {H H1 H' H2 H'' : Hp} (a : ExtL H H1 H') (e : ExtN H1 H2) (b : ExtL H' H2 H'') : ExtL H H1 H'' := ⟨a.ex.trans b.ex, fun c o h => by
  rcases b.fresh c o h with z | z
  · exact a.fresh c o z
  · refine .inr ⟨fun o' h' => ?_, z.2⟩
    by_cases q : ∃ ps, o' = .tbl ps
    · exact q
    · exact z.1 o' (e c o' h' fun ps y => q ⟨ps, y⟩)⟩

/-- the law's own: nothing is asked of what was there, but that what is known is no table -/
abbrev E00 : Hp := fun _ => none
theorem now_l {H H1 : Hp} (nt : NT H) (e : Ex H H1) : Now E00 E00 H H1 := ⟨e, ⟨(fun b o h => nomatch h), fun b o h => .inr ⟨rfl, fun ps z => nt b ps (z ▸ h)⟩⟩, fun b o h => nomatch h⟩
theorem Now.nt {H H1 : Hp} (n : Now E00 E00 H H1) : NT H := fun b ps h => by
  rcases n.ext.fresh b _ h with z | z
  · cases z
  · exact z.2 ps rfl
def EvL (K : PySem.W.Frag) (T : List (Addr × Str)) (te : TE) (σ : L2.St) (H : Hp) (d : PyData) : Prop := ∀ H1, Ex H H1 → NT H → Tabs T H1 → ∀ Q : VK, (∀ v H2 H', ExtN H1 H2 → Tabs T H2 → Ex H' H2 → ExtL H H1 H' → Dt K H' v d → Q v H2) → te σ H1 Q
def EvBL (T : List (Addr × Str)) (tt : TT) (σ : L2.St) (H : Hp) (b : Bool) : Prop := ∀ H1, Ex H H1 → NT H → Tabs T H1 → ∀ Q : Bool → Hp → Prop, (∀ H2, ExtN H1 H2 → Tabs T H2 → Ex H H2 → Q b H2) → tt σ H1 Q
section
variable {K : PySem.W.Frag} {T : List (Addr × Str)} {σ : L2.St} {H H1 : Hp} {ta tb te : TE} {d e z : PyData} {t u : TT} {D : Ends} {ss : List SD}
theorem EvD.l (h : EvD K te σ H d) : EvL K T te σ H d := fun H1 e1 _ tb Q q => h H1 e1 Q fun v H2 H' e2 e x dv => q v H2 H' (.of e2) (tb.ext e2) e x.l dv
theorem EvB.l {b : Bool} (h : EvB t σ H b) : EvBL T t σ H b := fun H1 e1 _ tb Q q => h H1 e1 Q fun H2 e2 => q H2 (.of e2) (tb.ext e2) (e1.trans e2)
theorem el_op {r : R2} (ha : EvL K T ta σ H d) (hb : EvD K tb σ H e) (hr : RD2 K r d e H z) : EvL K T (tOp r ta tb) σ H z := fun H1 e1 nt tbs Q q =>
  ha H1 e1 nt tbs _ fun x H2 Ha e2 t2 ea xa da => (hb.mono xa.ex) H2 ea _ fun y H3 Hb e3 eb xb db => hr Hb x y (xa.ex.trans xb.ex) (Dt.ex xb.ex da) db H3 eb Q fun v H4 Hc e4 ec xc dc =>
    q v H4 Hc ((e2.trans (.of e3)).trans (.of e4)) ((t2.ext e3).ext e4) ec ((xa.trans e2 xb.l).trans (e2.trans (.of e3)) xc.l) dc
theorem el_isi {n : String} {b : Bool} (ha : EvL K T ta σ H d) (h : kitB (tyD d) n = some b) : EvL K T (tCB (rIsi K) (tCons ta (tCons (tC (.ty n)) tNil))) σ H (.bool b) := fun H1 e1 nt tbs Q q =>
  ha H1 e1 nt tbs _ fun x H2 Ha e2 t2 ea xa da => rdc_isi (H := H) h Ha _ xa.ex x da rfl H2 ea Q fun v H4 Hc e4 ec xc dc => q v H4 Hc (e2.trans (.of e4)) (t2.ext e4) ec (xa.trans e2 xc.l) dc
theorem ebl_test {b : Bool} (h : EvL K T te σ H (.bool b)) : EvBL T (tTest te) σ H b := fun H1 e1 nt tbs Q q => h H1 e1 nt tbs _ fun v H2 H' e2 t2 e x dv => ⟨b, dv.bl_eq, q H2 e2 t2 (x.ex.trans e)⟩
theorem ebl_B {b : Bool} (h : EvL K T te σ H (.bool b)) : EvBL T (tB te) σ H b := fun H1 e1 nt tbs Q q => h H1 e1 nt tbs _ fun v H2 H' e2 t2 e x dv => ⟨b, dv.bl_eq, q H2 e2 t2 (x.ex.trans e)⟩
theorem ebl_and {a b : Bool} (h1 : EvBL T t σ H a) (h2 : a = true → EvBL T u σ H b) : EvBL T (tAnd t u) σ H (a && b) := fun H1 e1 nt tbs Q q => h1 H1 e1 nt tbs _ fun H2 e2 t2 ex => by
  cases a with
  | true => exact h2 rfl H2 ex nt t2 Q fun H3 e3 t3 ex3 => q H3 (e2.trans e3) t3 ex3
  | false => exact q H2 e2 t2 ex
theorem ebl_or {a b : Bool} (h1 : EvBL T t σ H a) (h2 : a = false → EvBL T u σ H b) : EvBL T (tOr t u) σ H (a || b) := fun H1 e1 nt tbs Q q => h1 H1 e1 nt tbs _ fun H2 e2 t2 ex => by
  cases a with
  | true => exact q H2 e2 t2 ex
  | false => exact h2 rfl H2 ex nt t2 Q fun H3 e3 t3 ex3 => q H3 (e2.trans e3) t3 ex3
theorem ebl_not {a : Bool} (h1 : EvBL T t σ H a) : EvBL T (tNot t) σ H (!a) := fun H1 e1 nt tbs Q q => h1 H1 e1 nt tbs _ fun H2 e2 t2 ex => q H2 e2 t2 ex
theorem ebl_is {a b : Bool} (h : EvBL T t σ H a) (e : a = b) : EvBL T t σ H b := e ▸ h
/-- if, at the law -/
theorem sl_if {b : Bool} {t1 t2 : TS} (n : Now E00 E00 H H1) (tb : Tabs T H1) (h : EvBL T t σ H b) (k1 : b = true → ∀ H2, ExtN H1 H2 → Now E00 E00 H H2 → Tabs T H2 → t1 D σ H2) (k2 : b = false → ∀ H2, ExtN H1 H2 → Now E00 E00 H H2 → Tabs T H2 → t2 D σ H2) : tIfS t t1 t2 D σ H1 :=
  h H1 n.ex n.nt tb _ fun H2 e2 tb2 ex => by
    cases b with
    | true => exact k1 rfl H2 e2 (now_l n.nt ex) tb2
    | false => exact k2 rfl H2 e2 (now_l n.nt ex) tb2
/-- x = e, at the law -/
theorem sl_asg {i : Nat} (n : Now E00 E00 H H1) (tb : Tabs T H1) (s : Sl K H σ ss) (h : EvL K T te σ H d) (k : ∀ σ' H' H2, ExtL H H1 H' → ExtN H1 H2 → Now E00 E00 H' H2 → Tabs T H2 → Sl K H' σ' (ss.set i (.dat d)) → D.nx σ' H2) : tAsg te (gName i) D σ H1 :=
  h H1 n.ex n.nt tb _ fun v H2 H' e2 t2 e x dv => k _ H' H2 x e2 (now_l (x.nt n.nt) e) t2 ((s.ex x.ex).set (s := .dat d) (o := some v) dv i)
/-- return e, at the law: Q asks of the value alone -/
theorem sl_ret {Q : VK} (n : Now E00 E00 H H1) (tb : Tabs T H1) (h : EvL K T te σ H d) (q : ∀ v H2 H', Dt K H' v d → Q v H2) (hQ : D.rt = Q := by rfl) : tRet te D σ H1 := by
  subst hQ
  exact h H1 n.ex n.nt tb _ fun v H2 H' _ _ _ _ dv => q v H2 H' dv
end
/-- a, b = x, y, by a tuple -/
theorem st_asgPair {K : PySem.W.Frag} {H0 H10 H H1 : Hp} {σ : L2.St} {ss : List SD} {D : Ends} {i j : Nat} {tA : TA} {d e : PyData} (n : Now H0 H10 H H1) (s : Sl K H σ ss) (h : EvDs K tA σ H [d, e]) (k : ∀ σ' H' H2, Ext H H1 H' → Ex H1 H2 → Now H0 H10 H' H2 → Sl K H' σ' ((ss.set i (.dat d)).set j (.dat e)) → D.nx σ' H2) : tAsg (tTup tA) (gTup K 2 (gCons (gName i) (gCons (gName j) gNil))) D σ H1 :=
  h H1 n.ex _ fun vs H2 H' e2 ex x dv => by
    cases dv with
    | cons a b =>
      cases b with
      | cons b c =>
        cases c
        refine ⟨by show 2 ≤ sizeLine; decide, fun p hp => eg_pair (st_of upd_same) _ ?_⟩
        exact k _ H' _ x (e2.trans (Ex.new hp)) ⟨ex.trans (Ex.new hp), n.ext.trans n.grow x, (n.grow.trans e2).trans (Ex.new hp)⟩ (((s.ex x.ex).set (s := .dat d) (o := some _) a i).set (s := .dat e) (o := some _) b j)
/-- the law's promise: the tables are there -/
def spL (K : PySem.W.Frag) (T : List (Addr × Str)) : Sp := fun vs H1 Q _ => ∃ (a : Addr) (ns : List Int), vs = [.ref a] ∧ ns.length ≤ 63 ∧ SqL K H1 a (ns.map V.int) ∧ Tabs T H1 ∧ ∀ H2, Q (.bl true) H2
/-- what the law knows of the script -/
theorem script_only {K : PySem.W.Frag} {H1 : Hp} {a : Addr} {xs : List V} (h : SqL K H1 a xs) : ∃ H : Hp, Ex H H1 ∧ NT H ∧ SqL K H a xs := by
  rcases h with h | h
  · have only : ∀ b o, (if b = a then H1 b else none) = some o → b = a ∧ H1 b = some o := fun b o z => by
      by_cases e : b = a
      · rw [if_pos e] at z
        exact ⟨e, z⟩
      · rw [if_neg e] at z
        cases z
    refine ⟨fun b => if b = a then H1 b else none, fun b o z => (only b o z).2, fun b ps z => ?_, .inl ?_⟩
    · obtain ⟨rfl, z2⟩ := only b _ z
      rcases h with q | ⟨o, q⟩
      · rw [z2] at q
        cases q
      · rw [z2] at q
        cases q
    · have e : (fun b => if b = a then H1 b else none) a = H1 a := if_pos rfl
      rcases h with q | ⟨o, q⟩
      · exact .inl (e.trans q)
      · exact .inr ⟨o, e.trans q⟩
  · exact ⟨E00, (fun b o z => nomatch z), (fun b ps z => nomatch z), .inr h⟩
/-- the law by its body, its code object known -/
theorem fn_law {P : Program} {w : World} {K : PySem.W.Frag} {mg : Str → Option Value} {base : Heap} {nm qual : Str} {st : Stmt} {f : Addr} {fd : FuncData} {N ps : List Str} {k : Nat} {p : He.Defn} {sp : Sp} (F : FunD K nm qual (defArgs st) (defBody st) (defScope st) [] [] f fd) (hf : f = He.fAd K p) (S : FnScope N ps (defScope st)) (len : ∀ vs H Q E, sp vs H Q E → vs.length = ps.length)
    (body : ∀ (cdv : Value), cdv = .ref (He.codeOf K p) → ∀ (A : Around) (outer : List Env) (s : Shared) (H : Hp) (vs : List V) (Q : VK) (E : XK), Room k (A.deeper (envOfC qual (defScope st) s.heap.objs.size f cdv)) → sp vs H Q E →
      ∃ t, PSs (cxOf (CXL P w) P w K mg base N qual (defScope st) f cdv A outer s H E).nox (defBody st) t ∧ t { nx := fun _ H' => Q .non H', rt := Q } (L2.start N vs) H) : FnOk P w K mg base (CXL P w) (k + 1) f fd ps sp := by
  obtain ⟨oc, od, dV, kV, doc, pm, an, cdv, ct, osl, rfl, lk, hcd, _, _⟩ := F.ex
  have hc : ∃ c, cdv = .ref c := by
    cases cdv with
    | ref c => exact ⟨c, rfl⟩
    | _ => cases hcd
  obtain ⟨c, rfl⟩ := hc
  subst hf
  have e : He.codeOf K p = c := He.codeOf_eq lk rfl
  subst e
  refine fn_of lk hcd S len fun A outer s H vs Q E hr hsp => ?_
  obtain ⟨t, h1, h2⟩ := body _ rfl A outer s H vs Q E hr hsp
  exact ⟨t, h1.nox, h2⟩
/-- what _law_told tells -/
def toldD : Ans → PyData
  | .ok d => d
  | .error x => .tuple [.str "refused", .str x]
end LR

/-! ### enumerate(text) (own work) -/
namespace LR
open PySem PySem.Spec PyProof.Rows L2 Evl
/-- a text's signs, each with its place, in new pairs -/
def ItEs (x : Str) : It := ⟨fun i _ => i < x.cps.size, fun i H v H' => ∃ T c, v = .ref T ∧ H T = none ∧ x.cps[i]? = some c ∧ H' = upd H T (.tup [.int (i : Nat), .str ⟨#[c]⟩]), fun i _ => i = x.cps.size⟩
theorem draws_str {P : Program} {w : World} {A : Around} (hh : A.handled = none) (it : Addr) (x : Str) (t : Tok) : Draws P w A it [it] x.cps.size (fun i v => ∃ c u, x.cps[i]? = some c ∧ v = .str ⟨#[c]⟩ u) (fun i h => h.IsStrIter it (strIterType x) x t i) := by
  unfold strIterType
  cases x.cps.all (· < 128) with
  | true => exact Draws.strAscii hh it x t
  | false => exact Draws.strWide hh it x t
theorem turn_enumS {P : Program} {w : World} {K : PySem.W.Frag} {elts : List Expr} {kk : Nat} {tpos : Pos} (x : Str) (t : Tok) (e it : Addr) :
    Turn P w K (.Tuple elts kk tpos) (ItEs x) [e, it] e (fun i h => (∃ old, IsEnum h e it ((i : Nat) : Int) old) ∧ h.IsStrIter it (strIterType x) x t i ∧ e ≠ it) where
  mem := List.mem_cons_self
  obj := by
    rintro i h ⟨⟨old, he⟩, ⟨o, ho, hc, hd⟩, _⟩ b hb
    simp only [List.mem_cons, List.not_mem_nil, or_false] at hb
    rcases hb with rfl | rfl
    · exact ⟨_, he, fun v q => nomatch q⟩
    · exact ⟨o, ho, fun v q => by rw [hd] at q; cases q⟩
  keep := by
    rintro i h h' ⟨⟨old, he⟩, ⟨o, ho, r⟩, hne⟩ k
    exact ⟨⟨old, k e (by simp) _ he⟩, ⟨o, k it (by simp) o ho, r⟩, hne⟩
  item := by
    rintro X rfl rfl rfl hc i pins s σ H E I hf ⟨⟨old, he⟩, hit, hne⟩ hg
    have D := draws_str (P := X.prog) (w := X.w) (A := X.A.in1) (by simpa using I.ok.hd hc) it x t
    have lt1 : e < s.heap.objs.size := Heap.lt_size he
    have lt2 : it < s.heap.objs.size := by
      obtain ⟨_, z, _⟩ := hit
      exact Heap.lt_size z
    refine wpAny_pyNext_enum_itemD D he hit hg hne (by simpa using hne) fun v h' tk hv ho hit' hT hsz hk => ?_
    obtain ⟨c, u, hcx, rfl⟩ := hv
    refine ⟨_, rfl, wpAny_letOwnedTupleGo_enum (s := { s with heap := h', toks := tk + 1 }) ho fun h2 he2 sb => ?_⟩
    have at2 : h2.get? s.heap.objs.size = some { cls := .type "tuple", data := .seq #[.int i tk, .str ⟨#[c]⟩ u] } := (sb.2 _ (Nat.ne_of_gt lt1)).trans hT
    have new : ObjOk X.prog X.w (upd H s.heap.objs.size (.tup [.int (i : Nat), .str ⟨#[c]⟩])) h2 s.heap.objs.size (.tup [.int (i : Nat), .str ⟨#[c]⟩]) :=
      ⟨by show 2 ≤ sizeLine; decide, [.int i tk, .str ⟨#[c]⟩ u], .cons ⟨_, rfl⟩ (.cons ⟨_, rfl⟩ .nil), ⟨_, at2, rfl, _, rfl⟩⟩
    have I1 : Inv X pins σ (upd H s.heap.objs.size (.tup [.int (i : Nat), .str ⟨#[c]⟩])) { s with heap := h2, toks := tk + 1 } :=
      I.turnedNew (ch := [e, it]) (fun b ob hb z => by
        have n1 : b ≠ e := fun y => hb (y ▸ List.mem_cons_self)
        have n2 : b ≠ it := fun y => hb (y ▸ List.mem_cons_of_mem _ List.mem_cons_self)
        exact (sb.2 b n1).trans (hk b ob n1 n2 z)) hf (Nat.le_refl _) new
    refine ⟨.ref s.heap.objs.size, _, I1, rfl, ⟨_, c, rfl, I.hok.fresh (Nat.le_refl _), hcx, rfl⟩, ⟨⟨.str ⟨#[c]⟩ u, ?_⟩, ?_, hne⟩, fun b hb => ?_⟩
    · rw [show ((i + 1 : Nat) : Int) = (i : Int) + 1 by omega]
      exact he2
    · obtain ⟨o, z, r⟩ := hit'
      exact ⟨o, (sb.2 it (Ne.symm hne)).trans z, r⟩
    · have lt : b < s.heap.objs.size := by
        simp only [List.mem_cons, List.not_mem_nil, or_false] at hb
        rcases hb with rfl | rfl
        · exact lt1
        · exact lt2
      rw [upd_ne (Nat.ne_of_lt lt)]
      exact (hf b hb).1
  done := by
    rintro X rfl rfl rfl hc i pins s σ H E I hf ⟨⟨old, he⟩, hit, hne⟩ hg
    have D := draws_str (P := X.prog) (w := X.w) (A := X.A.in1) (by simpa using I.ok.hd hc) it x t
    have hi : i = x.cps.size := hg
    subst hi
    obtain ⟨f0, f1, _, f3, f4, f5⟩ := hf it (by simp)
    exact wpAny_pyNext_enum_endD D he hit fun h' eb => ⟨rfl, I.turned (t' := s.toks) (fun b o hb z => eb b o hb z) f0 f1 f3 f4 f5⟩
  self := fun A i s Q E st h => by
    obtain ⟨⟨_, he⟩, _⟩ := st
    exact wpAny_pyIter_enum he h
def iEnumS (ta : TA) : TI := fun σ H R => ta σ H fun vs H1 => ∃ x, vs = [.str x] ∧ R (ItEs x) H1
theorem pi_enumS {X : Cx} {e : Expr} {ta : TA} {p pos tpos : Pos} {elts : List Expr} {kk : Nat} (hg : Gl X "enumerate") (hm : X.mg "enumerate" = none) (ha : PA X [e] ta) (hs : starEach [e] X.env = [(false, eval e X.env)] := by rfl) :
    PI X (.Tuple elts kk tpos) (.Call (.Name "enumerate" p) [e] [] pos) (iEnumS ta) := by
  refine ⟨fun pins s σ H R I h => Call_ (ld_blt I hg hm boot_enumerate (PyProof.Rows.callWith_type1 (thn (ha.run pos pins s σ H _ I h) ?_) hs rfl))⟩
  rintro us s1 ⟨vs, H1, I1, r1, x, rfl, q⟩
  match us, r1 with
  | _, .cons r .nil =>
    obtain ⟨t, rfl⟩ := r
    refine call_enumerate_str fun h' he hit hsz hk => wpAny_pyIter_enum he ⟨s1.heap.objs.size + 1, [s1.heap.objs.size + 1, s1.heap.objs.size], _, _, H1, rfl, I1.kept (t' := s1.toks) hk, turn_enumS x t (s1.heap.objs.size + 1) s1.heap.objs.size, ⟨⟨.none, he⟩, hit, Nat.succ_ne_self _⟩, fun b hb => ?_, q⟩
    have le : s1.heap.objs.size ≤ b := by
      simp only [List.mem_cons, List.not_mem_nil, or_false] at hb
      rcases hb with z | z
      · rw [z]; exact Nat.le_succ _
      · rw [z]; exact Nat.le_refl _
    exact I1.fpOk le (I1.hok.fresh le)
/-- for place, sign in enumerate(text) -/
def YE (z : Str) : Hp → Nat → Hp → V → Hp → Prop := fun _ i H v H' => ∃ T c, v = .ref T ∧ H T = none ∧ z.cps[i]? = some c ∧ H' = upd H T (.tup [.int (i : Nat), .str ⟨#[c]⟩])
theorem ei_enumS {K : PySem.W.Frag} {σ : L2.St} {H : Hp} {te : TE} {z : Str} (h : EvD K te σ H (.str z)) : EvI (iEnumS (tCons te tNil)) σ H z.cps.size (YE z) := fun H1 e1 R r =>
  h H1 e1 _ fun v H2 H' e2 e x dv => ⟨z, by rw [dv.str_eq], r _ (fun _ => True) H2 H' e2 e x (fun _ _ => trivial) ⟨fun _ _ hi _ => hi, fun _ _ => rfl, fun _ _ _ _ _ _ y => y⟩⟩
end LR

/-! ### comprehensions over pairs (own work) -/
namespace LR
open PySem PySem.Spec PyProof.Rows L2 Evl
/-- [e for a, b in data if ..], the items pairs -/
theorem wipe2 {σ : L2.St} {i j : Nat} {x y : V} : L2.wipe (((L2.wipe σ [i, j]).set i (some x)).set j (some y)) [i, j] = L2.wipe σ [i, j] := by
  have e : ∀ τ : L2.St, L2.wipe τ [i, j] = (τ.set j none).set i none := fun τ => rfl
  rw [e, e]
  generalize hτ : σ.set j none = τ
  apply List.ext_getElem?
  intro k
  subst hτ
  simp only [List.length_set, List.getElem?_set]
  by_cases h1 : i = k
  · simp [h1]
  · by_cases h2 : j = k
    · simp [h1, h2]
    · simp [h1, h2]
theorem en_lcP {K : PySem.W.Frag} {σ : L2.St} {H : Hp} {ti te : TE} {tt : TT} {ds : List PyData} {i j : Nat} {vs : List Nat} {ss : List SD} (f : PyData → Option PyData) (s : Sl K H σ ss) (hw : EvI (iU K ti) σ H ds.length (YD K ds)) (h2 : ds.length ≤ 50000) (hv : vs = [i, j])
    (he : ∀ d ∈ ds, ∃ x y, d = .tuple [x, y] ∧ ∀ (σ2 : L2.St) (Hc : Hp), Ex H Hc → Sl K Hc σ2 (((wipeS ss vs).set i (.dat x)).set j (.dat y)) → ∃ b, EvB tt σ2 Hc b ∧ (b = false → f d = none) ∧ (b = true → ∃ z, f d = some z ∧ EvD K te σ2 Hc z)) :
    EvN K (tLc (iU K ti) (gTup K 2 (gCons (gName i) (gCons (gName j) gNil))) tt te vs) σ H (ds.filterMap f) := by
  subst hv
  refine en_lc (fun k => (ds[k]?).bind f) hw (fun k hk Hi Hb H2 x H3 e0 e1 e2 y => ?_) h2 (filterMap_range ds f).symm
  obtain ⟨rfl, d, hd, dx⟩ := y
  obtain ⟨p, q, rfl, hb⟩ := he d (List.mem_of_getElem? hd)
  obtain ⟨a, xs, rfl, ha, ra⟩ := dx.tup_eq
  obtain ⟨v1, v2, rfl, r1, r2⟩ : ∃ v1 v2, xs = [v1, v2] ∧ Dt K Hi v1 p ∧ Dt K Hi v2 q := by
    cases ra with
    | cons r1 rr =>
      cases rr with
      | cons r2 rr =>
        cases rr
        exact ⟨_, _, rfl, r1, r2⟩
  have sl : Sl K Hb (((L2.wipe σ [i, j]).set i (some v1)).set j (some v2)) (((wipeS ss [i, j]).set i (.dat p)).set j (.dat q)) := Sl.set (s := .dat q) (o := some v2) (Dt.ex e1 r2) j (Sl.set (s := .dat p) (o := some v1) (Dt.ex e1 r1) i (Sl.wipe [i, j] (s.ex (e0.trans e1))))
  obtain ⟨b, b1, b2, b3⟩ := hb _ Hb (e0.trans e1) sl
  refine ⟨Hb, ((L2.wipe σ [i, j]).set i (some v1)).set j (some v2), Ext.refl _ _, e2, Ex.refl _, eg_pair (ex_t (e1.trans e2) ha), wipe2 (σ := σ) (x := v1) (y := v2), b, b1, fun h => ?_, fun h => ?_⟩
  · show (ds[k]?).bind f = none
    rw [hd]
    exact b2 h
  · obtain ⟨z, z1, z2⟩ := b3 h
    refine ⟨z, ?_, z2⟩
    show (ds[k]?).bind f = some z
    rw [hd]
    exact z1
theorem ed_lcP {K : PySem.W.Frag} {σ : L2.St} {H : Hp} {ti te : TE} {tt : TT} {ds : List PyData} {i j : Nat} {vs : List Nat} {ss : List SD} (f : PyData → Option PyData) (s : Sl K H σ ss) (hw : EvI (iU K ti) σ H ds.length (YD K ds)) (h2 : ds.length ≤ 50000) (hv : vs = [i, j])
    (he : ∀ d ∈ ds, ∃ x y, d = .tuple [x, y] ∧ ∀ (σ2 : L2.St) (Hc : Hp), Ex H Hc → Sl K Hc σ2 (((wipeS ss vs).set i (.dat x)).set j (.dat y)) → ∃ b, EvB tt σ2 Hc b ∧ (b = false → f d = none) ∧ (b = true → ∃ z, f d = some z ∧ EvD K te σ2 Hc z)) :
    EvD K (tLc (iU K ti) (gTup K 2 (gCons (gName i) (gCons (gName j) gNil))) tt te vs) σ H (.list (ds.filterMap f)) := (en_lcP f s hw h2 hv he).ed
end LR

/-! ### zip of a list and a tuple; comprehensions over zips; dicts of the top (own work) -/
namespace LR
open PySem PySem.Spec PyProof.Rows L2 Evl
/-- the list at a and the tuple at b as they stand at each turn, the items in new pairs -/
def ItzM (K : PySem.W.Frag) (a b : Addr) : It :=
  ⟨fun i H => ∃ (xs ys : List V) (x y : V), SqL K H a xs ∧ SqT K H b ys ∧ xs[i]? = some x ∧ ys[i]? = some y,
    fun i H v H' => ∃ T x y, v = .ref T ∧ H T = none ∧ H' = upd H T (.tup [x, y]) ∧ (∀ xs, SqL K H a xs → xs[i]? = some x) ∧ ∀ ys, SqT K H b ys → ys[i]? = some y,
    fun i H => ∃ xs ys : List V, SqL K H a xs ∧ SqT K H b ys ∧ i ≤ xs.length ∧ i ≤ ys.length ∧ (i = xs.length ∨ i = ys.length)⟩
structure MApart (z TI TO i1 i2 a b : Addr) : Prop where
  TIz : TI ≠ z
  TOz : TO ≠ z
  TITO : TI ≠ TO
  TIi1 : TI ≠ i1
  TIi2 : TI ≠ i2
  TOi1 : TO ≠ i1
  TOi2 : TO ≠ i2
  i1z : i1 ≠ z
  i2z : i2 ≠ z
  i12 : i1 ≠ i2
  az : a ≠ z
  bz : b ≠ z
  aTO : a ≠ TO
  bTO : b ≠ TO
  ai1 : a ≠ i1
  ai2 : a ≠ i2
  bi1 : b ≠ i1
  bi2 : b ≠ i2
theorem MApart.sep {z TI TO i1 i2 a b : Addr} (D : MApart z TI TO i1 i2 a b) : ZipSep2 z TI TO i1 i2 [i1, a] [i2, b] where
  TIz := D.TIz
  TOz := D.TOz
  TITO := D.TITO
  TIi1 := D.TIi1
  mem1 := List.mem_cons_self
  zf1 := by simp [D.i1z.symm, D.az.symm]
  Tf1 := by simp [D.TOi1, D.aTO.symm]
  TIi2 := D.TIi2
  mem2 := List.mem_cons_self
  zf2 := by simp [D.i2z.symm, D.bz.symm]
  Tf2 := by simp [D.TOi2, D.bTO.symm]
  sep1_2 := by simp [D.i12, D.bi1.symm]
  sep2_1 := by simp [D.i12.symm, D.ai2.symm]
theorem turn_zipM {P : Program} {w : World} {K : PySem.W.Frag} {elts : List Expr} {kk : Nat} {tpos : Pos} {a b z TI TO i1 i2 : Addr} (D : MApart z TI TO i1 i2 a b) :
    Turn P w K (.Tuple elts kk tpos) (ItzM K a b) [z, TI, TO, i1, i2] z (fun i h => IsZip h z TI TO .none ∧ IsTupOf2 h TI (.ref i1) (.ref i2) ∧ (∃ x y, IsTupOf2 h TO x y) ∧ h.IsListIter i1 a i ∧ h.IsTupleIter i2 b i) where
  mem := by simp
  obj := fun i h st c hc => by
    obtain ⟨hz, hTI, ⟨x, y, hTO⟩, ⟨o1, e1, _, d1⟩, ⟨o2, e2, _, d2⟩⟩ := st
    have e' : c = z ∨ c = TI ∨ c = TO ∨ c = i1 ∨ c = i2 := by simpa using hc
    rcases e' with q | q | q | q | q
    · rw [q]; exact ⟨_, hz, fun v q => nomatch q⟩
    · rw [q]; exact ⟨_, hTI, fun v q => nomatch q⟩
    · rw [q]; exact ⟨_, hTO, fun v q => nomatch q⟩
    · rw [q]; exact ⟨o1, e1, fun v q => by rw [d1] at q; cases q⟩
    · rw [q]; exact ⟨o2, e2, fun v q => by rw [d2] at q; cases q⟩
  keep := fun i h h' st k => by
    obtain ⟨hz, hTI, ⟨x, y, hTO⟩, h1, h2⟩ := st
    exact ⟨k z (by simp) _ hz, k TI (by simp) _ hTI, ⟨x, y, k TO (by simp) _ hTO⟩, h1.at fun o q => k i1 (by simp) o q, h2.at fun o q => k i2 (by simp) o q⟩
  item := by
    intro X hP hw hK hc i pins s σ H E I hf st hg
    subst hP hw hK
    obtain ⟨hz, hTI, ⟨x0, y0, hTO⟩, h1, h2⟩ := st
    obtain ⟨xs, ys, x, y, hqx, hqy, hx, hy⟩ := hg
    obtain ⟨its, rv, p, _⟩ := I.list hqx
    obtain ⟨its2, rv2, p2, _⟩ := I.tuple hqy
    obtain ⟨u, hu, ru⟩ := rv.get hx
    obtain ⟨u2, hu2, ru2⟩ := rv2.get hy
    have hzl : z < s.heap.objs.size := Heap.lt_size hz
    have hh : X.A.in1.in1.handled = none := by simpa using I.ok.hd hc
    have D1 := Draws.list (prog := X.prog) (w := X.w) (A := X.A.in1) (by simpa using I.ok.hd hc) i1 a D.ai1 its.toArray
    have D2 := Draws.tuple (prog := X.prog) (w := X.w) (A := X.A.in1) (by simpa using I.ok.hd hc) i2 b D.bi2 its2.toArray
    have lt1 : i < its.toArray.size := by simpa using (List.getElem?_eq_some_iff.mp hu).1
    have lt2 : i < its2.toArray.size := by simpa using (List.getElem?_eq_some_iff.mp hu2).1
    refine wpAny_pyNext_zipD2_item D.sep D1 D2 hz hTI hTO ⟨h1, p.isList⟩ ⟨h2, p2⟩ lt1 lt2 fun v1 v2 h' tk y1 y2 z' TO' st1 st2 hT hsz hk => ?_
    have e1 : v1 = u := by
      have : its[i]? = some v1 := by simpa using y1
      rw [hu] at this
      exact (Option.some.inj this).symm
    have e2 : v2 = u2 := by
      have : its2[i]? = some v2 := by simpa using y2
      rw [hu2] at this
      exact (Option.some.inj this).symm
    subst e1 e2
    refine ⟨_, rfl, wpAny_letOwnedTupleGo_zip (s := { s with heap := h', toks := tk }) z' fun h'' z'' sb => ?_⟩
    have hT2 : h''.get? s.heap.objs.size = some { cls := .type "tuple", data := .seq #[v1, v2] } := (sb.2 _ (Nat.ne_of_gt hzl)).trans hT
    have new : ObjOk X.prog X.w (upd H s.heap.objs.size (.tup [x, y])) h'' s.heap.objs.size (.tup [x, y]) :=
      ⟨by show 2 ≤ sizeLine; decide, [v1, v2], .cons ru (.cons ru2 .nil), ⟨_, hT2, rfl, _, rfl⟩⟩
    have I1 : Inv X pins σ (upd H s.heap.objs.size (.tup [x, y])) { s with heap := h'', toks := tk } :=
      I.turnedNew (t' := tk) (ch := [z, TI, TO, i1, i2]) (fun c o hb q => (sb.2 c (fun q' => hb (by simp [q']))).trans (hk c o (fun q' => hb (by simp [q'])) (fun q' => hb (by simp [q'])) (fun q' => hb (by simp [q'])) (fun q' => hb (by simp [q'])) q)) hf (Nat.le_refl _) new
    refine ⟨.ref s.heap.objs.size, _, I1, rfl, ⟨_, x, y, rfl, I.hok.fresh (Nat.le_refl _), rfl, fun l hl => by rw [I.list_inj hl hqx]; exact hx, fun l hl => by rw [I.tuple_inj hl hqy]; exact hy⟩, ⟨z'', ?_, ⟨v1, v2, ?_⟩, ?_, ?_⟩, fun c hcm => ?_⟩
    · exact (sb.2 _ D.TIz).trans (hk _ _ D.TIz D.TITO D.TIi1 D.TIi2 hTI)
    · exact (sb.2 _ D.TOz).trans TO'
    · exact st1.1.at fun o q => (sb.2 _ D.i1z).trans q
    · exact st2.1.at fun o q => (sb.2 _ D.i2z).trans q
    · have hlt : c < s.heap.objs.size := by
        have e' : c = z ∨ c = TI ∨ c = TO ∨ c = i1 ∨ c = i2 := by simpa using hcm
        rcases e' with q | q | q | q | q
        · rw [q]; exact hzl
        · rw [q]; exact Heap.lt_size hTI
        · rw [q]; exact Heap.lt_size hTO
        · rw [q]; obtain ⟨_, e1, _⟩ := h1; exact Heap.lt_size e1
        · rw [q]; obtain ⟨_, e2, _⟩ := h2; exact Heap.lt_size e2
      rw [upd_ne (Nat.ne_of_lt hlt)]
      exact (hf c hcm).1
  done := by
    intro X hP hw hK hc i pins s σ H E I hf st hg
    subst hP hw hK
    obtain ⟨hz, hTI, ⟨x0, y0, hTO⟩, h1, h2⟩ := st
    obtain ⟨xs, ys, hqx, hqy, le1, le2, hend⟩ := hg
    obtain ⟨its, rv, p, _⟩ := I.list hqx
    obtain ⟨its2, rv2, p2, _⟩ := I.tuple hqy
    have l1 := rv.length
    have l2 := rv2.length
    have D1 := Draws.list (prog := X.prog) (w := X.w) (A := X.A.in1) (by simpa using I.ok.hd hc) i1 a D.ai1 its.toArray
    have D2 := Draws.tuple (prog := X.prog) (w := X.w) (A := X.A.in1) (by simpa using I.ok.hd hc) i2 b D.bi2 its2.toArray
    have s1 : its.toArray.size = its.length := by simp
    have s2 : its2.toArray.size = its2.length := by simp
    refine wpAny_pyNext_zipD2_end D.sep D1 D2 hz hTI hTO ⟨h1, p.isList⟩ ⟨h2, p2⟩ (by omega) (by omega) (by omega) fun h' tk hk => ⟨rfl, I.turnedL (t' := tk) (ch := [z, TI, TO, i1, i2]) (fun c o hb q =>
      hk c o (fun q' => hb (by simp [q'])) (fun q' => hb (by simp [q'])) (fun q' => hb (by simp [q'])) (fun q' => hb (by simp [q'])) q) hf⟩
  self := fun A i s Q E st h => wpAny_pyIter_zip st.1 h
theorem mapart {n a b : Nat} (ha : a < n) (hb : b < n) : MApart (n + 4) (n + 2) (n + 3) n (n + 1) a b := by
  constructor <;> (show @Ne Nat _ _; omega)
/-- zip of two lists, two tuples, a list and a tuple -/
def iZipU (K : PySem.W.Frag) (ta : TA) : TI := fun σ H R => ta σ H fun vs H1 => ∃ a b xs ys, vs = [.ref a, .ref b] ∧ ((SqL K H1 a xs ∧ SqL K H1 b ys ∧ R (Itz K a b) H1) ∨ ((SqT K H1 a xs ∧ SqT K H1 b ys ∧ R (RZ.ItzT K a b) H1) ∨ (SqL K H1 a xs ∧ SqT K H1 b ys ∧ R (ItzM K a b) H1)))
theorem pi_zipU {X : Cx} {e e2 : Expr} {ta : TA} {p pos tpos : Pos} {elts : List Expr} {kk : Nat} (hg : Gl X "zip") (hm : X.mg "zip" = none) (ha : PA X [e, e2] ta)
    (hs : starEach [e, e2] X.env = (false, eval e X.env) :: starEach [e2] X.env := by rfl) (hpl : (backTo pos (starEach [e2] X.env)).any (·.1) = false := by rfl) :
    PI X (.Tuple elts kk tpos) (.Call (.Name "zip" p) [e, e2] [] pos) (iZipU X.K ta) := by
  refine ⟨fun pins s σ H R I h => ?_⟩
  refine Call_ (ld_blt I hg hm PyProof.Rows.boot_zip (PyProof.Rows.callWith_type1 (thn (ha.run pos pins s σ H _ I h) fun us s1 ⟨vs, H1, I1, r1, q1⟩ => ?_) hs hpl))
  obtain ⟨a, b, xs, ys, ex, q1⟩ := q1
  subst ex
  cases r1 with
  | cons r rr =>
    cases rr with
    | cons r' rr =>
      cases rr
      cases r
      cases r'
      have fresh5 : ∀ c, c ∈ [s1.heap.objs.size + 4, s1.heap.objs.size + 2, s1.heap.objs.size + 3, s1.heap.objs.size, s1.heap.objs.size + 1] → FpOk X pins H1 c := fun c hcm => by
        have e' : c = s1.heap.objs.size + 4 ∨ c = s1.heap.objs.size + 2 ∨ c = s1.heap.objs.size + 3 ∨ c = s1.heap.objs.size ∨ c = s1.heap.objs.size + 1 := by simpa using hcm
        have hle : s1.heap.objs.size ≤ c := by omega
        exact I1.fpOk hle (I1.hok.fresh hle)
      rcases q1 with ⟨hqx, hqy, q⟩ | ⟨hqx, hqy, q⟩ | ⟨hqx, hqy, q⟩
      · obtain ⟨its, rv, p1, _⟩ := I1.list hqx
        obtain ⟨its2, rv2, p2, _⟩ := I1.list hqy
        refine call_zip_2 p1.isList p2.isList fun h' hz hTI hTO h1 h2 hsz hk => wpAny_pyIter_zip hz ?_
        have I2 : Inv X pins σ H1 { s1 with heap := h' } := I1.kept (t' := s1.toks) hk
        exact ⟨s1.heap.objs.size + 4, [s1.heap.objs.size + 4, s1.heap.objs.size + 2, s1.heap.objs.size + 3, s1.heap.objs.size, s1.heap.objs.size + 1], _, _, H1, rfl, I2, turn_zip (PySem.W.ktu_apart s1.heap.objs.size a b p1.lt p2.lt), ⟨hz, hTI, ⟨_, _, hTO⟩, h1, h2⟩, fresh5, q⟩
      · obtain ⟨its, rv, p1, _⟩ := I1.tuple hqx
        obtain ⟨its2, rv2, p2, _⟩ := I1.tuple hqy
        obtain ⟨o1, ho1, _⟩ := id p1
        obtain ⟨o2, ho2, _⟩ := id p2
        refine RZ.call_zipT (show s1.heap.IsTuple a its.toArray from p1) (show s1.heap.IsTuple b its2.toArray from p2) fun h' hz hTI hTO h1 h2 hsz hk => wpAny_pyIter_zip hz ?_
        have I2 : Inv X pins σ H1 { s1 with heap := h' } := I1.kept (t' := s1.toks) hk
        exact ⟨s1.heap.objs.size + 4, [s1.heap.objs.size + 4, s1.heap.objs.size + 2, s1.heap.objs.size + 3, s1.heap.objs.size, s1.heap.objs.size + 1], _, _, H1, rfl, I2, RZ.turn_zipT (PySem.W.ktu_apart s1.heap.objs.size a b (Heap.lt_size ho1) (Heap.lt_size ho2)), ⟨hz, hTI, ⟨_, _, hTO⟩, h1, h2⟩, fresh5, q⟩
      · obtain ⟨its, rv, p1, _⟩ := I1.list hqx
        obtain ⟨its2, rv2, p2, _⟩ := I1.tuple hqy
        obtain ⟨o2, ho2, _⟩ := id p2
        refine zip_begins2 (begins_list a its.toArray) (begins_tuple b its2.toArray) p1.isList (show s1.heap.IsTuple b its2.toArray from p2) fun h' hz hTI hTO h1 h2 hsz hk => wpAny_pyIter_zip hz ?_
        have I2 : Inv X pins σ H1 { s1 with heap := h' } := I1.kept (t' := s1.toks) hk
        exact ⟨s1.heap.objs.size + 4, [s1.heap.objs.size + 4, s1.heap.objs.size + 2, s1.heap.objs.size + 3, s1.heap.objs.size, s1.heap.objs.size + 1], _, _, H1, rfl, I2, turn_zipM (mapart p1.lt (Heap.lt_size ho2)), ⟨hz, hTI, ⟨_, _, hTO⟩, ⟨_, h1, rfl, rfl⟩, ⟨_, h2, rfl, rfl⟩⟩, fresh5, q⟩
theorem pi_zipUK {X : Cx} {K : PySem.W.Frag} {e e2 : Expr} {ta : TA} {p pos tpos : Pos} {elts : List Expr} {kk : Nat} (hK : X.K = K) (hg : Gl X "zip") (hm : X.mg "zip" = none) (ha : PA X [e, e2] ta)
    (hs : starEach [e, e2] X.env = (false, eval e X.env) :: starEach [e2] X.env := by rfl) (hpl : (backTo pos (starEach [e2] X.env)).any (·.1) = false := by rfl) :
    PI X (.Tuple elts kk tpos) (.Call (.Name "zip" p) [e, e2] [] pos) (iZipU K ta) := hK ▸ pi_zipU hg hm ha hs hpl
section
variable {K : PySem.W.Frag} {a b : Addr} {xs ys : List V}
theorem walk_zipM {n : Nat} (hn : n = min xs.length ys.length) : Walk (ItzM K a b) n (fun H => SqL K H a xs ∧ SqT K H b ys) (YPair (fun i => xs[i]?) (fun i => ys[i]?)) := by
  refine ⟨fun i H hi h => ?_, fun H h => ?_, fun i H v H' hi h y => ?_⟩
  · have l1 : i < xs.length := by omega
    have l2 : i < ys.length := by omega
    exact ⟨xs, ys, _, _, h.1, h.2, List.getElem?_eq_getElem l1, List.getElem?_eq_getElem l2⟩
  · exact ⟨xs, ys, h.1, h.2, by omega, by omega, by omega⟩
  · obtain ⟨T, x, y, e1, e2, e3, e4, e5⟩ := y
    exact ⟨T, x, y, e1, e2, e3, e4 xs h.1, e5 ys h.2⟩
theorem walk_zipTT {n : Nat} (hn : n = min xs.length ys.length) : Walk (RZ.ItzT K a b) n (fun H => SqT K H a xs ∧ SqT K H b ys) (YPair (fun i => xs[i]?) (fun i => ys[i]?)) := by
  refine ⟨fun i H hi h => ?_, fun H h => ?_, fun i H v H' hi h y => ?_⟩
  · have l1 : i < xs.length := by omega
    have l2 : i < ys.length := by omega
    exact ⟨xs, ys, _, _, h.1, h.2, List.getElem?_eq_getElem l1, List.getElem?_eq_getElem l2⟩
  · exact ⟨xs, ys, h.1, h.2, by omega⟩
  · obtain ⟨T, x, y, e1, e2, e3, e4, e5⟩ := y
    exact ⟨T, x, y, e1, e2, e3, e4 xs h.1, e5 ys h.2⟩
end
section
variable {K : PySem.W.Frag} {σ : L2.St} {H : Hp} {tA : TA} {ds es : List PyData}
theorem two_dt {vs : List V} {d e : PyData} (h : DtAll K H vs [d, e]) : ∃ x y, vs = [x, y] ∧ Dt K H x d ∧ Dt K H y e := by
  cases h with
  | cons d1 d2 =>
    cases d2 with
    | cons d2 d3 =>
      cases d3
      exact ⟨_, _, rfl, d1, d2⟩
theorem ei_zipLL (h : EvDs K tA σ H [.list ds, .list es]) : EvI (iZipU K tA) σ H (min ds.length es.length) (YZ K ds es) := fun H1 e1 R r =>
  h H1 e1 _ fun vs H2 H' e2 e x dv => by
    obtain ⟨v1, v2, rfl, d1, d2⟩ := two_dt dv
    obtain ⟨a, xs, rfl, ha, ra⟩ := d1.lst_eq
    obtain ⟨b, ys, rfl, hb, rb⟩ := d2.lst_eq
    refine ⟨a, b, xs, ys, rfl, .inl ⟨sq_of (e a _ ha), sq_of (e b _ hb), r _ (fun H3 => Ex H' H3) H2 H' e2 e x (fun H3 e3 => e3) ?_⟩⟩
    refine (walk_zip (K := K) (a := a) (b := b) (xs := xs) (ys := ys) (by rw [ra.length, rb.length])).mono (fun H3 e3 => ⟨sq_of (e3 a _ ha), sq_of (e3 b _ hb)⟩) fun i H3 v H4 hi e3 z => ?_
    obtain ⟨T, x, y, h1, h2, h3, h4, h5⟩ := z
    obtain ⟨d, q1, q2⟩ := ra.get' h4
    obtain ⟨d', q3, q4⟩ := rb.get' h5
    exact ⟨T, x, y, d, d', h1, h2, h3, q1, q3, q2, q4⟩
theorem ei_zipTT (h : EvDs K tA σ H [.tuple ds, .tuple es]) : EvI (iZipU K tA) σ H (min ds.length es.length) (YZ K ds es) := fun H1 e1 R r =>
  h H1 e1 _ fun vs H2 H' e2 e x dv => by
    obtain ⟨v1, v2, rfl, d1, d2⟩ := two_dt dv
    obtain ⟨a, xs, rfl, ha, ra⟩ := d1.tup_eq
    obtain ⟨b, ys, rfl, hb, rb⟩ := d2.tup_eq
    refine ⟨a, b, xs, ys, rfl, .inr (.inl ⟨ex_t e ha, ex_t e hb, r _ (fun H3 => Ex H' H3) H2 H' e2 e x (fun H3 e3 => e3) ?_⟩)⟩
    refine (walk_zipTT (K := K) (a := a) (b := b) (xs := xs) (ys := ys) (by rw [ra.length, rb.length])).mono (fun H3 e3 => ⟨ex_t e3 ha, ex_t e3 hb⟩) fun i H3 v H4 hi e3 z => ?_
    obtain ⟨T, x, y, h1, h2, h3, h4, h5⟩ := z
    obtain ⟨d, q1, q2⟩ := ra.get' h4
    obtain ⟨d', q3, q4⟩ := rb.get' h5
    exact ⟨T, x, y, d, d', h1, h2, h3, q1, q3, q2, q4⟩
theorem ei_zipLT (h : EvDs K tA σ H [.list ds, .tuple es]) : EvI (iZipU K tA) σ H (min ds.length es.length) (YZ K ds es) := fun H1 e1 R r =>
  h H1 e1 _ fun vs H2 H' e2 e x dv => by
    obtain ⟨v1, v2, rfl, d1, d2⟩ := two_dt dv
    obtain ⟨a, xs, rfl, ha, ra⟩ := d1.lst_eq
    obtain ⟨b, ys, rfl, hb, rb⟩ := d2.tup_eq
    refine ⟨a, b, xs, ys, rfl, .inr (.inr ⟨sq_of (e a _ ha), ex_t e hb, r _ (fun H3 => Ex H' H3) H2 H' e2 e x (fun H3 e3 => e3) ?_⟩)⟩
    refine (walk_zipM (K := K) (a := a) (b := b) (xs := xs) (ys := ys) (by rw [ra.length, rb.length])).mono (fun H3 e3 => ⟨sq_of (e3 a _ ha), ex_t e3 hb⟩) fun i H3 v H4 hi e3 z => ?_
    obtain ⟨T, x, y, h1, h2, h3, h4, h5⟩ := z
    obtain ⟨d, q1, q2⟩ := ra.get' h4
    obtain ⟨d', q3, q4⟩ := rb.get' h5
    exact ⟨T, x, y, d, d', h1, h2, h3, q1, q3, q2, q4⟩
/-- [e for a, b in zip(..)] -/
theorem ed_lcZ {wi : TI} {te : TE} {i j : Nat} {vs : List Nat} {ss : List SD} (f : PyData → PyData → PyData) (s : Sl K H σ ss) (hw : EvI wi σ H (min ds.length es.length) (YZ K ds es)) (h2 : min ds.length es.length ≤ 50000) (hv : vs = [i, j])
    (he : ∀ (k : Nat) (x y : PyData), ds[k]? = some x → es[k]? = some y → ∀ (σ2 : L2.St) (Hc : Hp), Ex H Hc → Sl K Hc σ2 (((wipeS ss vs).set i (.dat x)).set j (.dat y)) → EvD K te σ2 Hc (f x y)) :
    EvD K (tLc wi (gTup K 2 (gCons (gName i) (gCons (gName j) gNil))) tYes te vs) σ H (.list (List.zipWith f ds es)) := by
  subst hv
  have e0 : (ds.zip es).length = min ds.length es.length := List.length_zip
  refine ed_lc (fun k => ((ds.zip es)[k]?).bind fun p => some (f p.1 p.2)) hw (fun k hk Hi Hb H2 x H3 e0 e1 e2 y => ?_) h2 ?_
  · obtain ⟨Tt, v1, v2, d, e, rfl, hT, rfl, hd, hes, r1, r2⟩ := y
    have hz : (ds.zip es)[k]? = some (d, e) := by
      rw [List.getElem?_zip_eq_some]
      exact ⟨hd, hes⟩
    have sl : Sl K Hb (((L2.wipe σ [i, j]).set i (some v1)).set j (some v2)) (((wipeS ss [i, j]).set i (.dat d)).set j (.dat e)) := Sl.set (s := .dat e) (o := some v2) (Dt.ex e1 r2) j (Sl.set (s := .dat d) (o := some v1) (Dt.ex e1 r1) i (Sl.wipe [i, j] (s.ex (e0.trans e1))))
    refine ⟨Hb, ((L2.wipe σ [i, j]).set i (some v1)).set j (some v2), Ext.refl _ _, e2.trans (Ex.new hT), Ex.new hT, eg_pair (st_of upd_same), wipe2 (σ := σ) (x := v1) (y := v2), true, fun H1 _ Q q => q H1 (Ex.refl _), (fun h => nomatch h), fun _ => ⟨f d e, ?_, he k d e hd hes _ Hb (e0.trans e1) sl⟩⟩
    show ((ds.zip es)[k]?).bind _ = _
    rw [hz]
    rfl
  · rw [← e0, filterMap_range]
    have : List.zipWith f ds es = (ds.zip es).map fun p => f p.1 p.2 := by
      rw [List.zip, List.map_zipWith]
    rw [this]
    exact (congrFun List.filterMap_eq_map' _).symm
end
/-! dicts of the top -/
structure DcT (w : World) (K : PySem.W.Frag) (mg : Str → Option Value) (x : Str) (kvs : List (Str × He.Dv)) : Prop where
  glo : mg x = some (.ref (gaE K x))
  at_ : ∀ q ∈ kvs, KDct K w (gaE K x) q.1 (q.2.v K)
theorem ix_kdK {X : Cx} {K : PySem.W.Frag} {w : World} (hK : X.K = K) (hw : X.w = w) : IxR X (rIxD K w) := hK ▸ hw ▸ ix_kdict
theorem ed_ixK {K : PySem.W.Frag} {w : World} {σ : L2.St} {H : Hp} {te : TE} {a : Addr} {z : Str} {v : V} {d : PyData} (h : EvD K te σ H (.str z)) (hk : KDct K w a z v) (hd : ∀ H, Dt K H v d) : EvD K (tOp (rIxD K w) (tC (.ref a)) te) σ H d := fun H1 e1 Q q =>
  h H1 e1 _ fun y H2 Ha e2 ea xa da => ⟨a, z, v, rfl, da.str_eq, hk, q v H2 Ha e2 ea xa (hd Ha)⟩
/-- text.split(text) -/
theorem ed_split {K : PySem.W.Frag} {σ : L2.St} {H : Hp} {ta tb : TE} {a b : Str} (ha : EvD K ta σ H (.str a)) (hb : EvD K tb σ H (.str b)) (h1 : (b.length == 0) = false) (h2 : a.length ≤ 60000) : EvD K (tM1 (fun x xs H Q => ∃ a b, x = .str a ∧ xs = [.str b] ∧ (b.length == 0) = false ∧ a.length + 2 ≤ sizeLine ∧ rNewStrs (Txt.split a b) H Q) ta tb) σ H (.list ((Txt.split a b).map .str)) := fun H1 e1 Q q =>
  ha H1 e1 _ fun v H2 Ha e2 ea xa da => ⟨⟨a, da.str_eq⟩, (hb.mono xa.ex) H2 ea _ fun v' H3 Hb e3 eb xb db => ⟨a, b, da.str_eq, by rw [db.str_eq], h1, Nat.le_trans (show a.length + 2 ≤ 60002 by omega) (by decide), fun p hp =>
    q _ _ (upd Hb p _) ((e2.trans e3).trans (Ex.new hp)) (ex_upd eb) ((xa.trans e2 xb).trans (e2.trans e3) (Ext.new eb hp)) (.lst upd_same (dp_strs _))⟩⟩
end LR

/-! ### t[::-1] of a tuple; enumerate(list); tuples times a number (own work) -/
namespace LR
open PySem PySem.Spec PyProof.Rows L2 Evl
theorem rev_places (n : Nat) : Builtin.Slice.sliceAdjust none none (-1) (n : Int) = ((n : Int) - 1, -1) ∧ Builtin.Slice.slicePlaces ((n : Int) - 1) (-1) (-1) = n := by
  refine ⟨rfl, ?_⟩
  unfold Builtin.Slice.slicePlaces
  have h1 : ¬ ((-1 : Int) > 0) := by decide
  simp only [h1, if_false]
  have e : (-(-1) : Int) = 1 := by decide
  rw [e]
  split
  · rw [Int.ediv_one]
    omega
  · omega
theorem fm_congr {α β : Type} {f g : α → Option β} : ∀ {l : List α}, (∀ a ∈ l, f a = g a) → l.filterMap f = l.filterMap g
  | [], _ => rfl
  | a :: r, h => by
    rw [List.filterMap_cons, List.filterMap_cons, h a List.mem_cons_self, fm_congr fun x hx => h x (List.mem_cons_of_mem _ hx)]
theorem rev_pick (xs : Array Value) : ((List.range xs.size).filterMap fun (m : Nat) => xs[(((xs.size : Int) - 1) + (m : Int) * (-1)).toNat]?).toArray = xs.toList.reverse.toArray := by
  congr 1
  have h := filterMap_range xs.toList.reverse some
  rw [List.length_reverse, Array.length_toList] at h
  rw [show xs.toList.reverse.filterMap some = xs.toList.reverse by rw [List.filterMap_some]] at h
  rw [← h]
  refine fm_congr fun m hm => ?_
  have hm' := List.mem_range.mp hm
  have hl : m < xs.toList.length := by rw [Array.length_toList]; exact hm'
  rw [List.getElem?_reverse hl, Array.length_toList]
  have e : (((xs.size : Int) - 1) + (m : Int) * (-1)).toNat = xs.size - 1 - m := by omega
  rw [e]
  cases q : xs[xs.size - 1 - m]? with
  | none =>
    have : xs.toList[xs.size - 1 - m]? = none := by rw [Array.getElem?_toList]; exact q
    rw [this]
    rfl
  | some v =>
    have : xs.toList[xs.size - 1 - m]? = some v := by rw [Array.getElem?_toList]; exact q
    rw [this]
    rfl
section
variable {prog : Program} {w : World} {A : Around} {E : Value → Shared → Prop} {s : Shared}
theorem sliceApplied_rev {sl : Addr} {tk : Tok} {n : Nat} {Q : Int × Int × Nat → Shared → Prop} (hs : s.heap.IsSliceOf sl .none .none (.int (-1) tk)) (h : Q ((n : Int) - 1, -1, n) s) : wpAny (model prog w) A (Builtin.Slice.sliceApplied (.ref sl) (pure (n : Int))) Q E s := by
  obtain ⟨os, hos, hcs, hds⟩ := id hs
  unfold Builtin.Slice.sliceApplied Builtin.Slice.sliceFields
  refine wpAny_bind (wpAny_bind (wpAny_field hos hds (x := .none) rfl (wpAny_bind (wpAny_field hos hds (x := .none) rfl (wpAny_bind (wpAny_field hos hds (x := .int (-1) tk) rfl (wpAny_pure ?_)))))))
  refine wpAny_bind (HT.slicePart_ (IsPart.int (-1) tk) ?_)
  show wpAny _ _ (if ((-1 : Int) == 0) = true then _ else _) _ _ s
  rw [if_neg (by decide)]
  refine wpAny_bind (HT.slicePart_ IsPart.none (wpAny_bind (HT.slicePart_ IsPart.none (wpAny_bind (wpAny_pure ?_)))))
  show wpAny _ _ (match Builtin.Slice.sliceAdjust none none (-1) (n : Int) with | (lo, hi) => pure (lo, (-1 : Int), Builtin.Slice.slicePlaces lo hi (-1))) _ _ s
  rw [(rev_places n).1]
  show wpAny _ _ (pure ((n : Int) - 1, (-1 : Int), Builtin.Slice.slicePlaces ((n : Int) - 1) (-1) (-1))) _ _ s
  rw [(rev_places n).2]
  exact wpAny_pure h
theorem getItem_tuple_rev {t sl : Addr} {tk : Tok} {items : Array Value} {Q : Value → Shared → Prop} (ht : IsTup s.heap t items) (hs : s.heap.IsSliceOf sl .none .none (.int (-1) tk))
    (h : Q (.ref s.heap.objs.size) { s with heap := s.heap.push { cls := .type "tuple", data := .seq items.toList.reverse.toArray } })
    (hsz : items.size ≤ sizeLine) : wpAny (model prog w) A (getItem (.ref t) (.ref sl)) Q E s := by
  have htake : sizeOk (.seq items.toList.reverse.toArray) := by
    show items.toList.reverse.toArray.size ≤ sizeLine
    rw [List.size_toArray, List.length_reverse, Array.length_toList]
    exact hsz
  obtain ⟨os, hos, hcs, hds⟩ := id hs
  have hTs : s.TypeIs (.ref sl) "slice" := ⟨os, hos, hcs⟩
  unfold getItem
  try with_reducible refine wpAny_holding ?_
  first | refine wpAny_bind (wpAny_pure ?_) | skip
  refine wpAny_bind (wpAny_sequenceKey ht.typeIs (by decide) ?_)
  refine wpAny_bind (wpAny_callSpecial?_slot (name := Str.ofString "__getitem__") ht.typeIs PyProof.Rows.slot_tuple_getitem
    (wpAny_call_entry PyProof.Rows.slot_tuple_getitem ht.typeIs PyProof.Rows.entry_tuple_getitem ?_ (PyProof.Rows.args_tuple_getitem _ _)))
  show wpAny _ _ (Builtin.Tuple.tupleItemsOf (.ref t) >>= _) _ _ s
  refine wpAny_bind (PyProof.Rows.tupleItemsOf_ ht ?_)
  refine wpAny_bind (wpAny_typeOf hTs ?_)
  rw [if_pos (by decide)]
  refine wpAny_bind (sliceApplied_rev hs ?_)
  have hno : ¬ (((items.size : Int) - 1 == 0 && (-1 : Int) == 1 && items.size == items.size) = true) := by
    intro q
    rw [Bool.and_eq_true, Bool.and_eq_true] at q
    exact absurd q.1.2 (by decide)
  show wpAny _ _ (if ((items.size : Int) - 1 == 0 && (-1 : Int) == 1 && items.size == items.size) = true then _ else _) _ _ s
  rw [if_neg hno, rev_pick]
  first
    | exact wpAny_bind (m := Builtin.Tuple.tupleExact _) (wpAny_newObj_type (wpAny_pure ⟨_, rfl, wpAny_pure h⟩) htake)
    | exact wpAny_bind (m := Builtin.Tuple.tupleExact _) (wpAny_newObj_type (wpAny_bind (wpAny_pure (wpAny_pure ⟨_, rfl, wpAny_pure h⟩))) htake)
    | exact wpAny_bind (wpAny_bind (m := Builtin.Tuple.tupleExact _) (wpAny_newObj_type (wpAny_pure (wpAny_pure ⟨_, rfl, wpAny_pure h⟩)) htake))
    | exact wpAny_bind (wpAny_bind (m := Builtin.Tuple.tupleExact _) (wpAny_newObj_type (wpAny_pure ⟨_, rfl, wpAny_pure h⟩) htake))
end
theorem Vals.reverse {xs : List V} {us : List Value} (r : Vals xs us) : Vals xs.reverse us.reverse := by
  induction r with
  | nil => exact .nil
  | cons a _ ih =>
    rw [List.reverse_cons, List.reverse_cons]
    exact ih.append (.cons a .nil)
def tRev (K : PySem.W.Frag) (te ts : TE) : TE := fun σ H Q => te σ H fun x H1 => ts σ H1 fun y H2 => y = .int (-1) ∧ ∃ a xs, x = .ref a ∧ SqT K H2 a xs ∧ ∀ p, H2 p = none → Q (.ref p) (upd H2 p (.tup xs.reverse))
theorem pe_rev {X : Cx} {K : PySem.W.Frag} {e st : Expr} {te ts : TE} {p2 pos : Pos} (hK : X.K = K) (he : PE X e te) (hst : PE X st ts) : PE X (.Subscript e (.Slice none none (some st) p2) pos) (tRev K te ts) := by
  subst hK
  refine ⟨fun pins s σ H Q I h => ?_⟩
  refine Subscript_ (thn (he.run pins s σ H _ I h) fun v s1 ⟨x, H1, I1, r1, q1⟩ => ?_)
  refine wpAny_Slice ?_
  rw [evalPart_none]
  refine wpAny_pure (wpAny_pure ?_)
  rw [evalPart_some]
  refine thn (hst.run pins s1 σ H1 _ I1 q1) fun vs s3 ⟨y, H3, I3, ry, q3⟩ => ?_
  obtain ⟨rfl, a, xs, rfl, hx, q⟩ := q3
  obtain ⟨tk, rfl⟩ := ry
  have I4 : Inv X pins σ H3 { s3 with heap := s3.heap.push { cls := .type "slice", data := .fields #[.none, .none, .int (-1) tk] } } := I3.kept (t' := s3.toks) fun b ob q => Heap.get?_push_of_some _ q
  cases r1
  obtain ⟨its, r, ht, hz⟩ := I4.tuple hx
  show wpAny (model X.prog X.w) X.A (subscriptTail e (.Slice none none (some st) p2) (.ref a) (.ref s3.heap.objs.size)) (EP X pins σ Q) X.xe { s3 with heap := s3.heap.push { cls := .type "slice", data := .fields #[.none, .none, .int (-1) tk] } }
  refine tail_any (ops := [.ref a, .ref s3.heap.objs.size]) ht.typeIs PyProof.Rows.slot_tuple_getitem.lookup ?_ (by with_unfolding_all rfl)
  have hlen : its.toArray.size = xs.length := by rw [List.size_toArray]; exact r.length.symm
  refine getItem_tuple_rev ht (Heap.IsSliceOf.new ..) ?_ (by rw [hlen]; exact hz)
  refine ⟨.ref _, _, I4.laid (t' := s3.toks) (o := .tup xs.reverse) (fun b ob q => Heap.get?_push_of_some _ q) (Nat.le_refl _) ?_, rfl, q _ (I4.hok.fresh (Nat.le_refl _))⟩
  exact ⟨by rw [List.length_reverse]; exact hz, _, Vals.reverse r, IsTup.new _ _⟩
section
variable {K : PySem.W.Frag} {σ : L2.St} {H : Hp} {te ts : TE}
theorem DtAll.reverse : ∀ {vs : List V} {ds : List PyData}, DtAll K H vs ds → DtAll K H vs.reverse ds.reverse
  | _, _, .nil => .nil
  | _, _, .cons a b => by
    rw [List.reverse_cons, List.reverse_cons]
    exact (DtAll.reverse b).append (.cons a .nil)
theorem ed_rev {ds : List PyData} (h : EvD K te σ H (.tuple ds)) (hs : EvD K ts σ H (.int (-1))) : EvD K (tRev K te ts) σ H (.tuple ds.reverse) := fun H1 e1 Q q =>
  h H1 e1 _ fun v H2 Ha e2 ea xa da => (hs.mono xa.ex) H2 ea _ fun y H3 Hb e3 eb xb db => by
    obtain ⟨a, xs, rfl, ha, ra⟩ := da.tup_eq
    refine ⟨db.int_eq, a, xs, rfl, ex_t (xb.ex.trans eb) ha, fun p hp => ?_⟩
    exact q _ _ (upd Hb p _) ((e2.trans e3).trans (Ex.new hp)) (ex_upd eb) ((xa.trans e2 xb).trans (e2.trans e3) (Ext.new eb hp)) (.tup (st_of upd_same) (DtAll.ex (xb.ex.trans (Ex.new (fresh_back eb hp))) (DtAll.reverse ra)))
end
end LR
namespace LR
open PySem PySem.Spec PyProof.Rows L2 Evl
section
variable {K : PySem.W.Frag} {σ : L2.St} {H : Hp} {te : TE}
/-- enumerate(list) -/
theorem ei_enumL {ds : List PyData} (h : EvD K te σ H (.list ds)) : EvI (iEnum K (tCons te tNil)) σ H (min ((List.range ds.length).map fun i : Nat => PyData.int i).length ds.length) (YZ K ((List.range ds.length).map fun i : Nat => PyData.int i) ds) := fun H1 e1 R r =>
  h H1 e1 _ fun v H2 H' e2 e x dv => by
    obtain ⟨a, xs, rfl, ha, ra⟩ := dv.lst_eq
    refine ⟨a, xs, rfl, sq_of (e a _ ha), r _ (fun H3 => Ex H' H3) H2 H' e2 e x (fun H3 e3 => e3) ?_⟩
    rw [List.length_map, List.length_range, Nat.min_self, ← ra.length]
    refine (walk_enum (K := K) (a := a) (xs := xs)).mono (fun H3 e3 => sq_of (e3 a _ ha)) fun i H3 v H4 hi e3 z => ?_
    obtain ⟨T, x, y, h1, h2, h3, h4, h5⟩ := z
    obtain ⟨d', q3, q4⟩ := ra.get' h5
    cases h4
    refine ⟨T, _, y, .int i, d', h1, h2, h3, ?_, q3, .int _, q4⟩
    rw [List.getElem?_map, List.getElem?_range hi]
    rfl
theorem pi_enumK {X : Cx} {e : Expr} {ta : TA} {p pos tpos : Pos} {elts : List Expr} {kk : Nat} (hK : X.K = K) (hg : Gl X "enumerate") (hm : X.mg "enumerate" = none) (ha : PA X [e] ta) (hs : starEach [e] X.env = [(false, eval e X.env)] := by rfl) :
    PI X (.Tuple elts kk tpos) (.Call (.Name "enumerate" p) [e] [] pos) (iEnum K ta) := hK ▸ pi_enum hg hm ha hs
end
end LR
namespace LR
open PySem PySem.Spec PyProof.Rows L2 Evl
section
variable {K : PySem.W.Frag} {σ : L2.St} {H : Hp} {te : TE}
theorem DtAll.rep {vs : List V} {ds : List PyData} (h : DtAll K H vs ds) : ∀ n : Nat, DtAll K H (List.replicate n vs).flatten (List.replicate n ds).flatten
  | 0 => .nil
  | n + 1 => by
    rw [List.replicate_succ, List.replicate_succ, List.flatten_cons, List.flatten_cons]
    exact h.append (DtAll.rep h n)
/-- t * k -/
theorem rd_mulT {ds : List PyData} {k : Int} (hne : ds ≠ []) (h2 : 2 ≤ k) (h3 : k ≤ 1000) (hl : ds.length ≤ 1000) : RD2 K (rMulU K) (.tuple ds) (.int k) H (.tuple (List.replicate k.toNat ds).flatten) := fun H' x y _ dx dy H1 e1 Q q => by
  obtain ⟨a, xs, rfl, ha, ra⟩ := dx.tup_eq
  refine .inr (.inr (.inr ⟨a, k, xs, rfl, dy.int_eq, ex_t e1 ha, fun z => ?_, h2, h3, by rw [ra.length]; exact hl, fun p hp => ?_⟩))
  · subst z
    cases ra
    exact hne rfl
  · exact q.new e1 hp (.tup (st_of upd_same) (DtAll.ex (Ex.new (fresh_back e1 hp)) (DtAll.rep ra _)))
end
end LR

/-! ### dicts of one's own: text or number to plain values (own work) -/
namespace LR
open PySem PySem.Spec PyProof.Rows L2 Evl
theorem units1 {n : Nat} (h : n + 64 < cLine) : n + 1 < cLine := Nat.lt_of_le_of_lt (Nat.add_le_add_left (by decide) n) h
/-- an object of one's own, as it stands -/
structure OwnO (H10 H H1 : Hp) (l : Addr) (o : HO) : Prop where
  no : H l = none
  old : H10 l = none
  at_ : H1 l = some o
section
variable {K : PySem.W.Frag} {H0 H10 H H1 : Hp} {σ : L2.St} {ss : List SD} {te ty tv : TE} {d : PyData} {D : Ends} {l : Addr} {o : HO}
theorem OwnO.on {H' H2 : Hp} (w : OwnO H10 H H1 l o) (x : Ext H H1 H') (e : Ex H1 H2) : OwnO H10 H' H2 l o := ⟨x.off w.no w.at_, w.old, e l _ w.at_⟩
theorem OwnO.to {o' : HO} (w : OwnO H10 H H1 l o) : OwnO H10 H (upd H1 l o') l o' := ⟨w.no, w.old, upd_same⟩
/-- another object is changed -/
theorem OwnO.past {b : Addr} {o' : HO} (w : OwnO H10 H H1 l o) (h : l ≠ b) : OwnO H10 H (upd H1 b o') l o := ⟨w.no, w.old, by rw [upd_ne h]; exact w.at_⟩
/-- it is not changed any more -/
theorem OwnO.freeze (w : OwnO H10 H H1 l o) (n : Now H0 H10 H H1) (ht : ∀ ps, o ≠ .tbl ps) : Ex H (upd H l o) ∧ Now H0 H10 (upd H l o) H1 := by
  have e1 : Ex H (upd H l o) := Ex.new w.no
  refine ⟨e1, ?_, ⟨n.ext.ex.trans e1, fun b u hb => ?_⟩, n.grow⟩
  · intro b u hb
    by_cases z : b = l
    · subst z
      rw [upd_same] at hb
      cases hb
      exact w.at_
    · rw [upd_ne z] at hb
      exact n.ex b u hb
  · by_cases z : b = l
    · subst z
      rw [upd_same] at hb
      cases hb
      exact .inr ⟨w.old, ht⟩
    · rw [upd_ne z] at hb
      exact n.ext.fresh b u hb
/-- x = {} -/
theorem st_newDk {i : Nat} (n : Now H0 H10 H H1) (s : Sl K H σ ss) (k : ∀ l σ' H2, Ex H1 H2 → H1 l = none → OwnO H10 H H2 l (.dK []) → Now H0 H10 H H2 → Sl K H σ' (ss.set i (.val (.ref l))) → D.nx σ' H2) : tAsg tDNewK (gName i) D σ H1 :=
  fun p hp => k p _ _ (Ex.new hp) hp ⟨fresh_back n.ex hp, fresh_back n.grow hp, upd_same⟩ ⟨n.ex.trans (Ex.new hp), n.ext, n.grow.trans (Ex.new hp)⟩ (s.set (s := .val (.ref p)) (o := some (.ref p)) rfl i)
/-- d[k] = v -/
theorem st_dput {i : Nat} {kvs : List (Key × V)} {k : Key} {kd : PyData} {v : V} (n : Now H0 H10 H H1) (s : Sl K H σ ss) (hi : ss[i]? = some (.val (.ref l))) (w : OwnO H10 H H1 l (.dK kvs)) (hz : kvs.length < 100000) (hy : EvD K ty σ H kd) (hk : ∀ H v, Dt K H v kd → v = kV k) (hv : EvD K tv σ H d) (hd : ∀ H u, Dt K H u d → u = v)
    (q : ∀ H' H2, Ext H H1 H' → OwnO H10 H' H2 l (.dK (putK kvs k v)) → (∀ b u, b ≠ l → H1 b = some u → H2 b = some u) → Now H0 H10 H' H2 → Sl K H' σ ss → D.nx σ H2) : sDPut (tVar i) ty tv D σ H1 :=
  hv H1 n.ex _ fun u H2 Ha e2 ea xa da => ⟨.ref l, s.val hi, (hy.mono xa.ex) H2 ea _ fun y H3 Hb e3 eb xb db => by
    have w3 := (w.on xa e2).on xb e3
    refine ⟨l, _, rfl, .inl ⟨kvs, k, w3.at_, hk _ _ db, sz_lt hz, rfl⟩, ?_⟩
    rw [hd _ _ da]
    exact q Hb _ (xa.trans e2 xb) w3.to (fun b u hb hu => by rw [upd_ne hb]; exact e3 b u (e2 b u hu)) (((n.on e2 ea xa).on e3 eb xb).mut w3.no w3.old) ((s.ex xa.ex).ex xb.ex)⟩
/-- d[k], the dict known -/
theorem ed_dget {i : Nat} {kvs : List (Key × V)} {k : Key} {kd : PyData} {v : V} (s : Sl K H σ ss) (hi : ss[i]? = some (.val (.ref l))) (hl : H l = some (.dK kvs)) (hy : EvD K ty σ H kd) (hk : ∀ H v, Dt K H v kd → v = kV k) (hv : valV kvs k = some v) (hd : ∀ H, Dt K H v d) : EvD K (tDGet (tVar i) ty) σ H d := fun H1 e1 Q q =>
  ⟨.ref l, s.val hi, hy H1 e1 _ fun y H2 Ha e2 ea xa da => by
    refine ⟨l, v, rfl, ?_, q v H2 Ha e2 ea xa (hd Ha)⟩
    rw [hk _ _ da, ← hv]
    exact DGet.k ((e1.trans e2) l _ hl)⟩
theorem key_str {z : Str} : ∀ (H : Hp) (v : V), Dt K H v (.str z) → v = kV (.inr z) := fun _ _ h => h.str_eq
theorem key_int {z : Int} : ∀ (H : Hp) (v : V), Dt K H v (.int z) → v = kV (.inl z) := fun _ _ h => h.int_eq
theorem val_str {z : Str} : ∀ (H : Hp) (v : V), Dt K H v (.str z) → v = .str z := fun _ _ h => h.str_eq
/-- sorted(d) -/
def rSortD : List V → Hp → VK → Prop := fun xs H Q => ∃ (a : Addr) (kvs : List (Key × V)) (ks : List Str), xs = [.ref a] ∧ Rd H a (.dK kvs) ∧ kvs.map (·.1) = ks.map Sum.inr ∧ ks.length < 64 ∧
    ∀ ys p, ys.Perm ks → sortedS ys = true → H p = none → Q (.ref p) (upd H p (.lst (ys.map V.str)))
theorem cr_sortD {X : Cx} (hc : X.calm = true) : CallR X (.builtin "sorted") rSortD := call_sortedD hc
theorem ed_sortD {i : Nat} {kvs : List (Key × V)} {ks : List Str} (s : Sl K H σ ss) (hi : ss[i]? = some (.val (.ref l))) (hl : H l = some (.dK kvs)) (hk : kvs.map (·.1) = ks.map Sum.inr) (nd : ks.Nodup) (hn : ks.length < 64) : EvD K (tCB rSortD (tCons (tVar i) tNil)) σ H (.list ((usort ltS ks).map .str)) := fun H1 e1 Q q =>
  ⟨.ref l, s.val hi, l, kvs, ks, rfl, .inl (e1 l _ hl), hk, hn, fun ys p pm so hp => by
    have e : ys = usort ltS ks := ris_eq tot_ltS (sortedS_ris so (pm.nodup_iff.mpr nd)) (ris_usort tot_ltS ks) fun z => pm.mem_iff.trans (mem_usort tot_ltS).symm
    rw [e]
    exact q _ _ (upd H p _) (Ex.new hp) (ex_upd e1) (Ext.new e1 hp) (.lst upd_same (dp_strs _))⟩
end
/-! a book of texts -/
def bookK (b : List (Str × Str)) : List (Key × V) := b.map fun p => (Sum.inr p.1, V.str p.2)
def putB (b : List (Str × Str)) (k v : Str) : List (Str × Str) := if (b.any fun p => decide (p.1 = k)) = true then b.map (fun p => if p.1 = k then (p.1, v) else p) else b ++ [(k, v)]
theorem book_put (b : List (Str × Str)) (k v : Str) : putK (bookK b) (.inr k) (.str v) = bookK (putB b k v) := by
  have e : ∀ b : List (Str × Str), ((bookK b).any fun kv => decide (kv.1 = Sum.inr k)) = b.any fun p => decide (p.1 = k) := fun b => by
    unfold bookK
    rw [List.any_map]
    congr 1
    funext p
    show decide ((Sum.inr p.1 : Key) = Sum.inr k) = decide (p.1 = k)
    exact decide_eq_decide.mpr ⟨fun h => Sum.inr.inj h, fun h => by rw [h]⟩
  unfold putK putB
  rw [e]
  split
  · unfold bookK
    rw [List.map_map, List.map_map]
    apply List.map_congr_left
    intro p _
    show (if (Sum.inr p.1 : Key) = Sum.inr k then _ else _) = (fun p : Str × Str => ((Sum.inr p.1 : Key), V.str p.2)) (if p.1 = k then (p.1, v) else p)
    by_cases z : p.1 = k
    · rw [if_pos z, if_pos (by rw [z])]
    · rw [if_neg z, if_neg fun h => z (Sum.inr.inj h)]
  · unfold bookK
    rw [List.map_append]
    rfl
theorem book_keys (b : List (Str × Str)) : (bookK b).map (·.1) = (b.map (·.1)).map Sum.inr := by
  unfold bookK
  rw [List.map_map, List.map_map]
  rfl
theorem putB_len (b : List (Str × Str)) (k v : Str) : (putB b k v).length ≤ b.length + 1 := by
  unfold putB
  split
  · rw [List.length_map]; omega
  · rw [List.length_append]; exact Nat.le_refl _
theorem putB_keys (b : List (Str × Str)) (k v : Str) : (putB b k v).map (·.1) = if (b.any fun p => decide (p.1 = k)) = true then b.map (·.1) else b.map (·.1) ++ [k] := by
  unfold putB
  split
  · rw [List.map_map]
    apply List.map_congr_left
    intro p _
    show (if p.1 = k then (p.1, v) else p).1 = p.1
    split <;> rfl
  · rw [List.map_append]
    rfl
theorem putB_nodup {b : List (Str × Str)} {k v : Str} (h : (b.map (·.1)).Nodup) : ((putB b k v).map (·.1)).Nodup := by
  rw [putB_keys]
  split
  · exact h
  · rename_i c
    rw [List.nodup_append]
    refine ⟨h, by simp, fun x hx y hy => ?_⟩
    rw [List.mem_singleton.mp hy]
    intro z
    subst z
    obtain ⟨p, hp, e⟩ := List.mem_map.mp hx
    exact c (List.any_eq_true.mpr ⟨p, hp, decide_eq_true e⟩)
theorem putB_all {q : Str × Str → Prop} {b : List (Str × Str)} {k v : Str} (h : ∀ p ∈ b, q p) (hn : q (k, v)) : ∀ p ∈ putB b k v, q p := by
  intro p hp
  unfold putB at hp
  split at hp
  · obtain ⟨p', hp', e⟩ := List.mem_map.mp hp
    by_cases z : p'.1 = k
    · rw [if_pos z] at e
      rw [← e, z]
      exact hn
    · rw [if_neg z] at e
      rw [← e]
      exact h p' hp'
  · rcases List.mem_append.mp hp with m | m
    · exact h p m
    · rw [List.mem_singleton.mp m]
      exact hn
/-- what stands under a key -/
theorem book_get {b : List (Str × Str)} {k : Str} (h : k ∈ b.map (·.1)) : ∃ v, valV (bookK b) (.inr k) = some (.str v) ∧ (k, v) ∈ b := by
  induction b with
  | nil => cases h
  | cons p r ih =>
    by_cases z : p.1 = k
    · refine ⟨p.2, ?_, ?_⟩
      · show valV (((Sum.inr p.1 : Key), V.str p.2) :: bookK r) (Sum.inr k) = _
        rw [valV_pos (by show (Sum.inr p.1 : Key) = _; rw [z])]
      · rw [← z]
        exact List.mem_cons_self
    · rw [List.map_cons] at h
      rcases List.mem_cons.mp h with e | e
      · exact absurd e.symm z
      · obtain ⟨v, h1, h2⟩ := ih e
        refine ⟨v, ?_, List.mem_cons_of_mem _ h2⟩
        show valV (((Sum.inr p.1 : Key), V.str p.2) :: bookK r) (Sum.inr k) = _
        rw [valV_neg (by show ¬ (Sum.inr p.1 : Key) = _; exact fun h => z (Sum.inr.inj h))]
        exact h1
theorem g_set {j : Nat} {x : V} {σ : L2.St} {H : Hp} {Q : L2.St → Hp → Prop} (h : Q (List.set σ j (some x)) H) : gName j x σ H Q := h
theorem t_seq {t1 t2 : TS} {D : Ends} {σ : L2.St} {H : Hp} (h : t1 { D with nx := t2 D } σ H) : tSeq t1 t2 D σ H := h
theorem t_next {D : Ends} {σ : L2.St} {H : Hp} (h : D.nx σ H) : tNext D σ H := h
end LR

/-! ### objects that change: what is known of them, methods, calls (own work) -/
namespace LR
open PySem PySem.Spec PyProof.Rows L2 Evl L2H LamX
open Classical in
/-- a heap without some places -/
noncomputable def less (H1 : Hp) (fp : Addr → Prop) : Hp := fun b => if fp b then none else H1 b
section
variable {H H1 H2 H' H0 H10 : Hp} {fp : Addr → Prop} {b : Addr} {o : HO}
theorem less_no (h : fp b) : less H1 fp b = none := if_pos h
theorem less_at (h : ¬ fp b) : less H1 fp b = H1 b := if_neg h
theorem less_some (h : less H1 fp b = some o) : ¬ fp b ∧ H1 b = some o := by
  by_cases c : fp b
  · rw [less_no c] at h
    cases h
  · rw [less_at c] at h
    exact ⟨c, h⟩
theorem less_none (h : less H1 fp b = none) : fp b ∨ H1 b = none := by
  by_cases c : fp b
  · exact .inl c
  · rw [less_at c] at h
    exact .inr h
theorem ex_less : Ex (less H1 fp) H1 := fun _ _ h => (less_some h).2
theorem less_ex (e : Ex H1 H2) : Ex (less H1 fp) (less H2 fp) := fun b o h => by
  obtain ⟨c, h⟩ := less_some h
  rw [less_at c]
  exact e b o h
/-- what stays of H10: none of it lies in fp -/
theorem ex_into (e : Ex H10 H1) (hf : ∀ b, fp b → H10 b = none) : Ex H10 (less H1 fp) := fun b o h => by
  have c : ¬ fp b := fun z => by
    rw [hf b z] at h
    cases h
  rw [less_at c]
  exact e b o h
end
/-- instances, dicts, lists -/
def PlainO : HO → Prop
  | .ins _ _ _ => True
  | .dK _ => True
  | .lst _ => True
  | _ => False
theorem PlainO.tbl {o : HO} (h : PlainO o) : ∀ ps, o ≠ .tbl ps := fun ps z => by
  subst z
  exact h
/-- a kind of object: where it stands, what it holds -/
structure ObjK (K : PySem.W.Frag) (C : Addr) (ms : List Str) (σ : Type) where
  At : Addr → Hp → Hp → (Addr → Prop) → σ → Prop
  self : ∀ {p H H1 fp S}, At p H H1 fp S → fp p
  off : ∀ {p H H1 fp S b}, At p H H1 fp S → fp b → H b = none
  al : ∀ {p H H1 fp S b}, At p H H1 fp S → fp b → ∃ o, H1 b = some o ∧ PlainO o
  keep : ∀ {p H H1 fp S H2}, At p H H1 fp S → (∀ b o, fp b → H1 b = some o → H2 b = some o) → At p H H2 fp S
  more : ∀ {p H H1 fp S H'}, At p H H1 fp S → Ex H H' → (∀ b, fp b → H' b = none) → At p H' H1 fp S
  on : ∀ {p H H1 fp S H' H2}, At p H H1 fp S → Ext H H1 H' → Ex H1 H2 → At p H' H2 fp S
  ins : ∀ {p H H1 fp S}, At p H H1 fp S → ∃ dx fs, H1 p = some (.ins C dx fs) ∧ ∀ m ∈ ms, fs.lookup m = none
section
variable {K : PySem.W.Frag} {C : Addr} {ms : List Str} {τ : Type} (O : ObjK K C ms τ)
/-- what a caller finds behind a call: the heap, what is known, where the object stands -/
structure Aft (p : Addr) (H B H2 H' : Hp) (fp' : Addr → Prop) (S' : τ) : Prop where
  up : Ex B H2
  ex : Ex H' H2
  ext : Ext H B H'
  at_ : O.At p H' H2 fp' S'
  nw : ∀ b, fp' b → B b = none
def KM (E : XK) (p : Addr) (H B : Hp) (Q : VK) (S' : τ) : Ans → Prop
  | .ok d => ∀ v H2 H' fp', Aft O p H B H2 H' fp' S' → Dt K H' v d → Q v H2
  | .error x => ∀ H2 H' fp', Aft O p H B H2 H' fp' S' → E (.ref (gaE K x)) none H2
/-- the promise of a method -/
def spM (n : Nat) (R : τ → List PyData → Ans → τ → Prop) : Sp := fun vs H1 Q E => ∃ H p S args ds r S' fp, vs = V.ref p :: args ∧ Ex H H1 ∧ O.At p H H1 fp S ∧ DtAll K H args ds ∧ ds.length = n ∧ R S ds r S' ∧ KM O E p H (less H1 fp) Q S' r
theorem spM_len {n : Nat} {R : τ → List PyData → Ans → τ → Prop} {vs : List V} {H1 : Hp} {Q : VK} {E : XK} (h : spM O n R vs H1 Q E) : vs.length = n + 1 := by
  obtain ⟨H, p, S, args, ds, r, S', fp, rfl, _, _, da, hl, _⟩ := h
  rw [List.length_cons, da.length, hl]
/-- a method that is called by its name -/
structure Mx (P : Program) (w : World) (K : PySem.W.Frag) (C : Addr) (mg : Str → Option Value) (base : Heap) (k : Nat) (m : Str) (ps : List Str) (sp : Sp) : Prop where
  ex : ∃ (f : Addr) (fd : FuncData), FnOk P w K mg base (CXL P w) k f fd ps sp ∧ Meth K C m f ∧ Binds K fd ps []
theorem pe_mx {X : Cx} {C : Addr} {k j : Nat} {m : Str} {ps : List Str} {sp : Sp} {E : XK} {pos apos : Pos} {o e : Expr} {es : List Expr} {ta : TE} {t : TA} {pl : Sem Bool} (c : Mx X.prog X.w X.K C X.mg X.base k m ps sp) (hC : Cls X.K C) (hr : Room j X.A) (hk : k ≤ j) (hx : Passes (CXL X.prog X.w) X E) (ho : PE X o ta) (ha : PA X (e :: es) t)
    (hst : starEach (e :: es) X.env = (false, eval e X.env) :: starEach es X.env := by rfl) (hpl : (backTo pos (starEach es X.env)).any (·.1) = false := by rfl)
    (ht : eval (.Call (.Attribute o m apos) (e :: es) [] pos) X.env = (do
      let ov ← eval o X.env
      standAt apos.atName
      let (f, first) ← holding [ov] (getMethod ov m pl)
      callWith pos f first (backTo pos (starEach (e :: es) X.env)) (backToKw pos (keywordEach [] X.env))) := by rfl) :
    PE X (.Call (.Attribute o m apos) (e :: es) [] pos) (tMeth C m sp [] E ta t) := by
  obtain ⟨f, fd, F, hm, b⟩ := c.ex
  exact pe_meth (pl := pl) ho hC hm F (hr.mono hk) b .nil hx ha hst hpl ht
theorem pe_mx0 {X : Cx} {C : Addr} {k j : Nat} {m : Str} {ps : List Str} {sp : Sp} {E : XK} {pos apos : Pos} {o : Expr} {ta : TE} {pl : Sem Bool} (c : Mx X.prog X.w X.K C X.mg X.base k m ps sp) (hC : Cls X.K C) (hr : Room j X.A) (hk : k ≤ j) (hx : Passes (CXL X.prog X.w) X E) (ho : PE X o ta)
    (ht : eval (.Call (.Attribute o m apos) [] [] pos) X.env = (do
      let ov ← eval o X.env
      standAt apos.atName
      let (f, first) ← holding [ov] (getMethod ov m pl)
      callWith pos f first (backTo pos (starEach [] X.env)) (backToKw pos (keywordEach [] X.env))) := by rfl) :
    PE X (.Call (.Attribute o m apos) [] [] pos) (tMeth C m sp [] E ta tNil) := by
  obtain ⟨f, fd, F, hm, b⟩ := c.ex
  exact pe_meth0 (pl := pl) ho hC hm F (hr.mono hk) b .nil hx ht
variable {O}
/-- what a call leaves to its caller: all that is not the object's -/
structure Kept (H H1 : Hp) (fp : Addr → Prop) (H' H2 : Hp) (fp' : Addr → Prop) : Prop where
  fr : ∀ b u, H1 b = some u → ¬ fp b → H2 b = some u
  of : ∀ b u, H b = none → H1 b = some u → ¬ fp b → H' b = none
  nw : ∀ b, fp' b → fp b ∨ H1 b = none
section
variable {H0 H10 H H1 : Hp} {σ : L2.St} {ss : List SD} {ta : TA} {ds : List PyData} {E : XK} {Q : VK} {p : Addr} {fp : Addr → Prop} {S S' : τ} {r : Ans} {n : Nat} {R : τ → List PyData → Ans → τ → Prop} {i : Nat} {m : Str}
/-- behind a call, in the caller's words -/
theorem Aft.now {Ha H2 H3 H' : Hp} {fp' : Addr → Prop} (nw : Now H0 H10 H H1) (hf : ∀ b, fp b → H10 b = none) (e2 : Ex H1 H2) (xa : Ext H H1 Ha) (a : Aft O p Ha (less H2 fp) H3 H' fp' S') : Now H0 H10 H' H3 ∧ (∀ b, fp' b → H10 b = none) ∧ Ex H H' ∧ Kept H H1 fp H' H3 fp' := by
  have e10 : Ex H10 (less H2 fp) := ex_into (nw.grow.trans e2) hf
  refine ⟨⟨a.ex, (nw.ext.trans nw.grow xa).trans e10 a.ext, e10.trans a.up⟩, fun b hb => fresh_back e10 (a.nw b hb), xa.ex.trans a.ext.ex, ⟨fun b u h c => ?_, fun b u h h1 c => ?_, fun b hb => ?_⟩⟩
  · exact a.up b u (by rw [less_at c]; exact e2 b u h)
  · exact a.ext.off (xa.off h h1) (show less H2 fp b = some u by rw [less_at c]; exact e2 b u h1)
  · rcases less_none (a.nw b hb) with z | z
    · exact .inl z
    · exact .inr (fresh_back e2 z)
/-- x.m(..) -/
theorem tm_call (nw : Now H0 H10 H H1) (s : Sl K H σ ss) (hi : ss[i]? = some (.val (.ref p))) (at_ : O.At p H H1 fp S) (hf : ∀ b, fp b → H10 b = none) (hm : m ∈ ms) (ha : EvDs K ta σ H ds) (hR : R S ds r S')
    (ok : ∀ d, r = .ok d → ∀ v H2 H' fp', Now H0 H10 H' H2 → Ex H H' → O.At p H' H2 fp' S' → (∀ b, fp' b → H10 b = none) → Kept H H1 fp H' H2 fp' → Dt K H' v d → Q v H2)
    (er : ∀ x, r = .error x → ∀ H2 H' fp', Now H0 H10 H' H2 → Ex H H' → O.At p H' H2 fp' S' → (∀ b, fp' b → H10 b = none) → Kept H H1 fp H' H2 fp' → E (.ref (gaE K x)) none H2) (hn : ds.length = n := by rfl) : tMeth C m (spM O n R) [] E (tVar i) ta σ H1 Q := by
  obtain ⟨dx, fs, h1, hl⟩ := O.ins at_
  refine ⟨.ref p, s.val hi, p, dx, fs, rfl, h1, hl m hm, ha H1 nw.ex _ fun vs H2 Ha e2 ea xa da => ?_⟩
  show spM O n R (.ref p :: (vs ++ [])) H2 Q E
  rw [List.append_nil]
  refine ⟨Ha, p, S, vs, ds, r, S', fp, rfl, ea, O.on at_ xa e2, da, hn, hR, ?_⟩
  cases r with
  | ok d =>
    intro v H3 H' fp' a dv
    obtain ⟨a1, a2, a3, a4⟩ := a.now nw hf e2 xa
    exact ok d rfl v H3 H' fp' a1 a3 a.at_ a2 a4 dv
  | error x =>
    intro H3 H' fp' a
    obtain ⟨a1, a2, a3, a4⟩ := a.now nw hf e2 xa
    exact er x rfl H3 H' fp' a1 a3 a.at_ a2 a4
theorem tm_call0 (nw : Now H0 H10 H H1) (s : Sl K H σ ss) (hi : ss[i]? = some (.val (.ref p))) (at_ : O.At p H H1 fp S) (hf : ∀ b, fp b → H10 b = none) (hm : m ∈ ms) (hR : R S [] r S')
    (ok : ∀ d, r = .ok d → ∀ v H2 H' fp', Now H0 H10 H' H2 → Ex H H' → O.At p H' H2 fp' S' → (∀ b, fp' b → H10 b = none) → Kept H H1 fp H' H2 fp' → Dt K H' v d → Q v H2)
    (er : ∀ x, r = .error x → ∀ H2 H' fp', Now H0 H10 H' H2 → Ex H H' → O.At p H' H2 fp' S' → (∀ b, fp' b → H10 b = none) → Kept H H1 fp H' H2 fp' → E (.ref (gaE K x)) none H2) : tMeth C m (spM O 0 R) [] E (tVar i) tNil σ H1 Q :=
  tm_call (n := 0) nw s hi at_ hf hm eds_nil hR ok er
end
section
variable {P : Program} {w : World} {mg : Str → Option Value} {base : Heap}
/-- a method keeps its promise -/
theorem fn_meth {nm qual : Str} {st : Stmt} {f : Addr} {fd : FuncData} {N ps : List Str} {k n : Nat} {dvs : List V} {kws : List (Str × V)} {R : τ → List PyData → Ans → τ → Prop} (F : FunD K nm qual (defArgs st) (defBody st) (defScope st) dvs kws f fd) (S : FnScope N ps (defScope st)) (hn : ps.length = n + 1)
    (body : ∀ (cdv : Value) (A : Around) (outer : List Env) (s : Shared) (Hs : Hp) (E : XK), Room k (A.deeper (envOfC qual (defScope st) s.heap.objs.size f cdv)) → ∀ (S : τ) (ds : List PyData) (r : Ans) (S' : τ), ds.length = n → R S ds r S' →
      ∃ t, PSs (cxOf (CXL P w) P w K mg base N qual (defScope st) f cdv A outer s Hs E) (defBody st) t ∧
        ∀ (σ : L2.St) (p : Addr) (H H1 : Hp) (fp : Addr → Prop) (Q : VK), Now H (less H1 fp) H H1 → O.At p H H1 fp S → Sl K H σ (SD.val (.ref p) :: (ds.map .dat ++ List.replicate (N.length - (n + 1)) .unk)) → KM O E p H (less H1 fp) Q S' r → t { nx := fun _ H' => Q .non H', rt := Q } σ H1) :
    FnOk P w K mg base (CXL P w) (k + 1) f fd ps (spM O n R) := by
  refine F.ok S (fun vs H Q E h => by rw [hn]; exact spM_len O h) (fun cdv A outer s H1 vs Q E hr h => ?_)
  obtain ⟨H, p, S0, args, ds, r, S', fp, rfl, e, at_, da, hl, hR, q⟩ := h
  obtain ⟨t, ht, hk⟩ := body cdv A outer s H1 E hr S0 ds r S' hl hR
  refine ⟨t, ht, hk _ p H H1 fp Q ⟨e, Ext.refl _ _, ex_less⟩ at_ ?_ q⟩
  have lv : args.length = n := da.length.trans hl
  have z := sl_start (K := K) (H := H) (N.length - (n + 1)) da
  have e2 : (V.ref p :: args).length = n + 1 := by rw [List.length_cons, lv]
  unfold L2.start
  rw [e2]
  exact .cons rfl z
theorem mx_raise {m nm qual : Str} {st : Stmt} {f : Addr} {fd : FuncData} {N ps : List Str} {k n : Nat} {R : τ → List PyData → Ans → τ → Prop} (F : FunD K nm qual (defArgs st) (defBody st) (defScope st) [] [] f fd) (hm : Meth K C m f) (S : FnScope N ps (defScope st)) (hn : ps.length = n + 1)
    (hb : ∀ (kV doc pm : Value) (an : Option Addr) (cdv ct : Value) (us : List Value), us.length = ps.length → bindArgs (PySem.W.fnOf nm qual (defArgs st) (defBody st) (defScope st) .none kV doc pm an cdv ct) ⟨us, []⟩ = pure (ps.zip us))
    (body : ∀ (cdv : Value) (A : Around) (outer : List Env) (s : Shared) (Hs : Hp) (E : XK), Room k (A.deeper (envOfC qual (defScope st) s.heap.objs.size f cdv)) → ∀ (S : τ) (ds : List PyData) (r : Ans) (S' : τ), ds.length = n → R S ds r S' →
      ∃ t, PSs (cxOf (CXL P w) P w K mg base N qual (defScope st) f cdv A outer s Hs E) (defBody st) t ∧
        ∀ (σ : L2.St) (p : Addr) (H H1 : Hp) (fp : Addr → Prop) (Q : VK), Now H (less H1 fp) H H1 → O.At p H H1 fp S → Sl K H σ (SD.val (.ref p) :: (ds.map .dat ++ List.replicate (N.length - (n + 1)) .unk)) → KM O E p H (less H1 fp) Q S' r → t { nx := fun _ H' => Q .non H', rt := Q } σ H1) :
    Mx P w K C mg base (k + 1) m ps (spM O n R) := ⟨f, fd, fn_meth F S hn body, hm, F.bindsN hb⟩
end
end
/-! ### fields -/
/-- an expression that tells a value and changes nothing -/
def EvV (te : TE) (σ : L2.St) (H : Hp) (v : V) : Prop := ∀ H1, Ex H H1 → ∀ Q : VK, Q v H1 → te σ H1 Q
section
variable {K : PySem.W.Frag} {C dx p : Addr} {H0 H10 H H1 Hx : Hp} {σ : L2.St} {ss : List SD} {i : Nat} {f : Str} {fs : List (Str × V)} {v : V} {d : PyData} {D : Ends} {tv te ty : TE} {tt : TT} {t1 t2 : TS} {b : Bool}
theorem ev_sl (s : Sl K H σ ss) (hi : ss[i]? = some (.val v)) : EvV (tVar i) σ H v := fun _ _ _ q => ⟨v, s.val hi, q⟩
theorem ev_fld (h : EvV te σ H (.ref p)) (hp : H p = some (.ins C dx fs)) (hC : Cls K C) (hn : NoAttr K C f) (hl : fs.lookup f = some v) : EvV (tFld K te f) σ H v := fun H1 e Q q => h H1 e _ ⟨p, C, dx, fs, v, rfl, e p _ hp, hC, hn, hl, q⟩
theorem EvV.ed (h : EvV te σ H v) (hd : Dt K H v d) : EvD K te σ H d := fun H1 e Q q => h H1 e Q (q v H1 H (Ex.refl _) e (Ext.refl _ _) hd)
/-- a heap without one place -/
def del (H : Hp) (p : Addr) : Hp := fun b => if b = p then none else H b
theorem del_same : del H p p = none := if_pos rfl
theorem del_ne {b : Addr} (h : b ≠ p) : del H p b = H b := if_neg h
theorem ex_del : Ex (del H p) H := fun b o h => by
  by_cases c : b = p
  · subst c
    rw [del_same] at h
    cases h
  · rw [del_ne c] at h
    exact h
/-- instances and dicts are no data -/
def NoData : HO → Prop
  | .ins _ _ _ => True
  | .dK _ => True
  | _ => False
theorem nodata_ne {o : HO} {a : Addr} (hp : H p = some o) (nd : NoData o) {xs : List V} (h : H a = some (.lst xs)) : a ≠ p := fun e => by
  subst e
  rw [h] at hp
  cases hp
  exact nd
theorem sqt_del {o : HO} {a : Addr} (hp : H p = some o) (nd : NoData o) {xs : List V} (h : SqT K H a xs) : SqT K (del H p) a xs := by
  rcases h with (h | ⟨ob, h⟩) | h
  · have c : a ≠ p := fun e => by
      subst e
      rw [h] at hp
      cases hp
      exact nd
    exact .inl (.inl (by rw [del_ne c]; exact h))
  · have c : a ≠ p := fun e => by
      subst e
      rw [h] at hp
      cases hp
      exact nd
    exact .inl (.inr ⟨ob, by rw [del_ne c]; exact h⟩)
  · exact .inr h
theorem sql_del {o : HO} {a : Addr} (hp : H p = some o) (nd : NoData o) {xs : List V} (h : SqL K H a xs) : SqL K (del H p) a xs := by
  rcases h with (h | ⟨ob, h⟩) | h
  · have c : a ≠ p := nodata_ne hp nd h
    exact .inl (.inl (by rw [del_ne c]; exact h))
  · have c : a ≠ p := fun e => by
      subst e
      rw [h] at hp
      cases hp
      exact nd
    exact .inl (.inr ⟨ob, by rw [del_ne c]; exact h⟩)
  · exact .inr h
mutual
theorem Dt.del {o : HO} (hp : H p = some o) (nd : NoData o) : ∀ {v : V} {d : PyData}, Dt K H v d → Dt K (del H p) v d
  | _, _, .non => .non
  | _, _, .bl b => .bl b
  | _, _, .int i => .int i
  | _, _, .str x => .str x
  | _, _, .lst h r => .lst (by rw [del_ne (nodata_ne hp nd h)]; exact h) (DtAll.del hp nd r)
  | _, _, .tup h r => .tup (sqt_del hp nd h) (DtAll.del hp nd r)
  | _, _, .scr ns h => .scr ns (sql_del hp nd h)
theorem DtAll.del {o : HO} (hp : H p = some o) (nd : NoData o) : ∀ {vs : List V} {ds : List PyData}, DtAll K H vs ds → DtAll K (del H p) vs ds
  | _, _, .nil => .nil
  | _, _, .cons a b => .cons (Dt.del hp nd a) (DtAll.del hp nd b)
end
/-- knowledge of an object is given up -/
theorem Ext.del {o : HO} (x : Ext (upd H p o) H1 Hx) (hp : H p = none) : Ext H H1 (del Hx p) := by
  refine ⟨fun b u h => ?_, fun b u h => ?_⟩
  · have c : b ≠ p := ne_of_none h hp
    rw [del_ne c]
    exact x.ex b u (by rw [upd_ne c]; exact h)
  · by_cases c : b = p
    · subst c
      rw [del_same] at h
      cases h
    · rw [del_ne c] at h
      rcases x.fresh b u h with z | z
      · rw [upd_ne c] at z
        exact .inl z
      · exact .inr z
/-- a test, with more known than what stays -/
theorem st_ifF (n : Now H0 H10 H H1) (ex : Ex Hx H1) (h : EvB tt σ Hx b) (k1 : b = true → ∀ H2, Ex H1 H2 → Now H0 H10 H H2 → t1 D σ H2) (k2 : b = false → ∀ H2, Ex H1 H2 → Now H0 H10 H H2 → t2 D σ H2) : tIfS tt t1 t2 D σ H1 :=
  h H1 ex _ fun H2 e2 => by
    have n2 : Now H0 H10 H H2 := ⟨n.ex.trans e2, n.ext, n.grow.trans e2⟩
    cases b with
    | true => exact k1 rfl H2 e2 n2
    | false => exact k2 rfl H2 e2 n2
theorem OwnO.ex {o : HO} (w : OwnO H10 H H1 p o) (n : Now H0 H10 H H1) : Ex (upd H p o) H1 := fun b u h => by
  by_cases c : b = p
  · subst c
    rw [upd_same] at h
    cases h
    exact w.at_
  · rw [upd_ne c] at h
    exact n.ex b u h
/-- x.f = e -/
theorem st_fld (n : Now H0 H10 H H1) (s : Sl K H σ ss) (hi : ss[i]? = some (.val (.ref p))) (w : OwnO H10 H H1 p (.ins C dx fs)) (hC : Cls K C) (hn : NoAttr K C f) (hl : fs.length < 1000) (hv : EvD K tv σ (upd H p (.ins C dx fs)) d)
    (k : ∀ v H' H2, Ext H H1 H' → OwnO H10 H' H2 p (.ins C dx (putF f v fs)) → (∀ b u, b ≠ p → H1 b = some u → H2 b = some u) → Dt K H' v d → Now H0 H10 H' H2 → Sl K H' σ ss → D.nx σ H2) : sFld K (tVar i) tv f D σ H1 :=
  hv H1 (w.ex n) _ fun v H2 Hx e2 ex x dv => by
    have hxp : Hx p = some (.ins C dx fs) := x.ex p _ upd_same
    have xd : Ext H H1 (del Hx p) := x.del w.no
    refine ⟨.ref p, s.val hi, p, C, dx, fs, rfl, e2 p _ w.at_, hC, hn, hl, ?_⟩
    refine k v (del Hx p) _ xd ⟨del_same, w.old, upd_same⟩ (fun b u hb h => by rw [upd_ne hb]; exact e2 b u h) (Dt.del hxp trivial dv) ?_ (s.ex xd.ex)
    exact ((n.on e2 (ex_del.trans ex) xd).mut del_same w.old)
/-- x.f += e, whole numbers -/
theorem st_fldAdd {z y : Int} (n : Now H0 H10 H H1) (s : Sl K H σ ss) (hi : ss[i]? = some (.val (.ref p))) (w : OwnO H10 H H1 p (.ins C dx fs)) (hC : Cls K C) (hn : NoAttr K C f) (hl : fs.length < 1000) (hf : fs.lookup f = some (.int z)) {rd : V → V → Hp → VK → Prop} {g : Int → Int → Int} (hr : ∀ Q : VK, ∀ H, Q (.int (g z y)) H → rd (.int z) (.int y) H Q)
    (k : ∀ H2, OwnO H10 H H2 p (.ins C dx (putF f (.int (g z y)) fs)) → (∀ b u, b ≠ p → H1 b = some u → H2 b = some u) → Now H0 H10 H H2 → Sl K H σ ss → D.nx σ H2) : sFldAug K (tVar i) (tC (.int y)) rd f D σ H1 :=
  ⟨.ref p, s.val hi, p, C, dx, fs, .int z, rfl, w.at_, hC, hn, hf, hr _ _ ⟨dx, fs, w.at_, hl, k _ w.to (fun b u hb h => by rw [upd_ne hb]; exact h) (n.mut w.no w.old) s⟩⟩
end
end LR
namespace LR
open PySem PySem.Spec PyProof.Rows L2 Evl L2H LamX
def rIsN0 : R2 := fun x y H Q => y = .non ∧ Q (.bl (decide (x = .non))) H
def rNotN0 : R2 := fun x y H Q => y = .non ∧ Q (.bl (!decide (x = .non))) H
theorem op_isN0 {X : Cx} : OpR X (compareOp .Is) rIsN0 := op_isN
theorem op_notN0 {X : Cx} : OpR X (compareOp .IsNot) rNotN0 := op_notN
theorem eb_notNV {te : TE} {σ : L2.St} {H : Hp} {v : V} (h : EvV te σ H v) : EvB (tTest (tOp rNotN0 te (tC .non))) σ H (!decide (v = .non)) := fun H1 e1 Q q => h H1 e1 _ ⟨rfl, _, rfl, q H1 (Ex.refl _)⟩
section
variable {X : Cx} {K : PySem.W.Frag} {o e value : Expr} {f : Str} {pos pos' tpos : Pos} {ta tv : TE}
theorem pe_fldK (hK : X.K = K) (he : PE X e ta) (hb : attributeBase e f X.env (eval e X.env) = eval e X.env := by rfl) : PE X (.Attribute e f pos) (tFld K ta f) := hK ▸ pe_fld he hb
theorem ps_fldK (hK : X.K = K) (ha : PE X o ta) (hv : PE X value tv) (hs : swapsWith value (some (.Attribute o f pos')) pos.line X.env = pure false := by rfl) : PS X (.Assign [.Attribute o f pos'] value pos) (sFld K ta tv f) := hK ▸ ps_fld ha hv hs
theorem ps_fldaugK {op : Operator} {rd : V → V → Hp → VK → Prop} (hK : X.K = K) (ha : PE X o ta) (hv : PE X value tv) (hop : InOp X op rd) : PS X (.AugAssign (.Attribute o f tpos) op value pos) (sFldAug K ta tv rd f) := hK ▸ ps_fldaug ha hv hop
end
section
variable {K : PySem.W.Frag} {C dx p l : Addr} {H0 H10 H H1 Hx : Hp} {σ : L2.St} {ss : List SD} {i : Nat} {f : Str} {fs : List (Str × V)} {v : V} {d : PyData} {D : Ends} {tv te ty td : TE}
/-- d[k] = v, the dict told by an expression; Hx: what is known besides -/
theorem st_dputV {kvs : List (Key × V)} {k : Key} {kd : PyData} {v : V} (n : Now H0 H10 H H1) (s : Sl K H σ ss) (w : OwnO H10 H H1 l (.dK kvs)) (ht : EvV td σ H (.ref l)) (hz : kvs.length < 100000) (hy : EvD K ty σ H kd) (hk : ∀ H v, Dt K H v kd → v = kV k) (hv : EvD K tv σ H d) (hd : ∀ H u, Dt K H u d → u = v)
    (q : ∀ H' H2, Ext H H1 H' → OwnO H10 H' H2 l (.dK (putK kvs k v)) → (∀ b u, b ≠ l → H1 b = some u → H2 b = some u) → Now H0 H10 H' H2 → Sl K H' σ ss → D.nx σ H2) : sDPut td ty tv D σ H1 :=
  hv H1 n.ex _ fun u H2 Ha e2 ea xa da => ht H2 (xa.ex.trans ea) _ ((hy.mono xa.ex) H2 ea _ fun y H3 Hb e3 eb xb db => by
    have w3 := (w.on xa e2).on xb e3
    refine ⟨l, _, rfl, .inl ⟨kvs, k, w3.at_, hk _ _ db, sz_lt hz, rfl⟩, ?_⟩
    rw [hd _ _ da]
    exact q Hb _ (xa.trans e2 xb) w3.to (fun b u hb hu => by rw [upd_ne hb]; exact e3 b u (e2 b u hu)) (((n.on e2 ea xa).on e3 eb xb).mut w3.no w3.old) ((s.ex xa.ex).ex xb.ex))
/-- l.append(e), the list told by an expression -/
theorem st_appV {ds : List PyData} (n : Now H0 H10 H H1) (s : Sl K H σ ss) (ex : Ex Hx H1) (ht : EvV td σ Hx (.ref l)) (o : Own K H10 H H1 l ds) (hz : ds.length < 100000) (h : EvD K te σ H d)
    (k : ∀ H' H2, Ext H H1 H' → Own K H10 H' H2 l (ds ++ [d]) → (∀ b u, b ≠ l → H1 b = some u → H2 b = some u) → Now H0 H10 H' H2 → Sl K H' σ ss → D.nx σ H2) : tDrop (tBM K "list" rAppend td (tCons te tNil)) D σ H1 := by
  obtain ⟨vs, h1, h2⟩ := o.ex
  refine ht H1 ex _ ⟨Or.inl ⟨rfl, vs, sq_of h1⟩, h H1 n.ex _ fun v H2 H' e2 e x dv => ⟨l, vs, v, rfl, rfl, e2 l _ h1, sz_lt (by rw [h2.length]; exact hz), ?_⟩⟩
  have off := x.off o.no h1
  exact k H' _ x ⟨off, o.old, _, upd_same, (DtAll.ex x.ex h2).append (.cons dv .nil)⟩ (fun b u hb hu => by rw [upd_ne hb]; exact e2 b u hu) ((n.on e2 e x).mut off o.old) (s.ex x.ex)
/-- d.get(k, e) -/
theorem ed_dget2 {kvs : List (Key × V)} {k : Key} {kd z : PyData} {tx : TE} (ht : EvV td σ H (.ref l)) (hl : H l = some (.dK kvs)) (hy : EvD K ty σ H kd) (hk : ∀ H v, Dt K H v kd → v = kV k) (hx : EvD K tx σ H z) (hd : match valV kvs k with | some v => ∀ H, Dt K H v d | none => d = z) : EvD K (tDGet2 td ty tx) σ H d := fun H1 e1 Q q =>
  ht H1 e1 _ ⟨l, rfl, .inl ⟨kvs, .inl (e1 l _ hl)⟩, hy H1 e1 _ fun y H2 Ha e2 ea xa da => (hx.mono xa.ex) H2 ea _ fun u H3 Hb e3 eb xb db => by
    refine ⟨valV kvs k, ?_, ?_⟩
    · rw [hk _ _ da]
      exact DGet.k (((e1.trans e2).trans e3) l _ hl)
    · cases hv : valV kvs k with
      | none =>
        rw [hv] at hd
        have hd' : d = z := hd
        subst hd'
        exact q u H3 Hb (e2.trans e3) eb (xa.trans e2 xb) db
      | some w =>
        rw [hv] at hd
        exact q w H3 Hb (e2.trans e3) eb (xa.trans e2 xb) (hd Hb)⟩
end
end LR
namespace LR
open PySem PySem.Spec PyProof.Rows L2 Evl L2H LamX
section
variable {K : PySem.W.Frag} {σ : L2.St} {H H0 H10 H1 : Hp} {te : TE} {E : XK} {r : Ans} {D : Ends} {ss : List SD} {i : Nat}
/-- e, for what it does: where it raises, the heap has only grown -/
theorem st_doE (n : Now H0 H10 H H1) (s : Sl K H σ ss) (h : EvX K E te σ H r) (ok : ∀ d, r = .ok d → ∀ H' H2, Ext H H1 H' → Ex H1 H2 → Now H0 H10 H' H2 → Sl K H' σ ss → D.nx σ H2) (er : ∀ x, r = .error x → ∀ H2, Ex H1 H2 → E (.ref (gaE K x)) none H2) : tDrop te D σ H1 := by
  refine h H1 n.ex _ ?_
  cases r with
  | ok d => exact fun v H2 H' e2 e x dv => ok d rfl H' H2 x e2 (n.on e2 e x) (s.ex x.ex)
  | error x => exact fun H2 e2 => er x rfl H2 e2
end
end LR
namespace LR
open PySem PySem.Spec PyProof.Rows L2 Evl L2H LamX
section
variable {K : PySem.W.Frag} {C dx p l : Addr} {H0 H10 H H1 Hx : Hp} {σ : L2.St} {ss : List SD} {i : Nat} {f : Str} {fs : List (Str × V)} {d : PyData} {D : Ends} {te : TE} {o : HO}
theorem Sl.del {o : HO} (hp : H p = some o) (nd : NoData o) : ∀ {σ : L2.St} {ss : List SD}, Sl K H σ ss → Sl K (del H p) σ ss
  | _, _, .nil => .nil
  | _, _, .cons (o := ov) (s := sd) a b => .cons (by
      cases ov with
      | none => cases sd <;> exact a
      | some v =>
        cases sd with
        | dat d => exact Dt.del hp nd a
        | val w => exact a
        | unk => trivial) (Sl.del hp nd b)
/-- an object that was known is one's own again -/
theorem Now.thaw (n : Now H0 H10 H H1) (hp : H p = some o) (h0 : H0 p = none) (h10 : H10 p = none) : Now H0 H10 (del H p) H1 ∧ OwnO H10 (del H p) H1 p o := by
  refine ⟨⟨ex_del.trans n.ex, ⟨fun b u h => ?_, fun b u h => ?_⟩, n.grow⟩, del_same, h10, n.ex p _ hp⟩
  · rw [del_ne (ne_of_none h h0)]
    exact n.ext.ex b u h
  · exact n.ext.fresh b u (ex_del b u h)
/-- x = e, e a plain value, with more known than what stays -/
theorem st_asgF (n : Now H0 H10 H H1) (s : Sl K H σ ss) (ex : Ex Hx H1) (h : EvD K te σ Hx d) (hd : ∀ H' v, Dt K H' v d → Dt K H v d) (k : ∀ σ' H2, Ex H1 H2 → Now H0 H10 H H2 → Sl K H σ' (ss.set i (.dat d)) → D.nx σ' H2) : tAsg te (gName i) D σ H1 :=
  h H1 ex _ fun v H2 H' e2 e x dv => k _ H2 e2 ⟨n.ex.trans e2, n.ext, n.grow.trans e2⟩ (s.set (s := .dat d) (o := some v) (hd H' v dv) i)
/-- x.f = [] -/
theorem st_fldNewL (n : Now H0 H10 H H1) (s : Sl K H σ ss) (hi : ss[i]? = some (.val (.ref p))) (w : OwnO H10 H H1 p (.ins C dx fs)) (hC : Cls K C) (hn : NoAttr K C f) (hl : fs.length < 1000)
    (k : ∀ q H2, H1 q = none → OwnO H10 H H2 p (.ins C dx (putF f (.ref q) fs)) → H2 q = some (.lst []) → (∀ b u, b ≠ p → H1 b = some u → H2 b = some u) → Now H0 H10 H H2 → Sl K H σ ss → D.nx σ H2) : sFld K (tVar i) (tLst tNil) f D σ H1 :=
  ⟨by show 0 ≤ sizeLine; exact Nat.zero_le _, fun q hq => by
    have c : p ≠ q := ne_of_none w.at_ hq
    have hp : upd H1 q (.lst []) p = some (.ins C dx fs) := by rw [upd_ne c]; exact w.at_
    refine ⟨.ref p, s.val hi, p, C, dx, fs, rfl, hp, hC, hn, hl, ?_⟩
    refine k q _ hq ⟨w.no, w.old, upd_same⟩ (by rw [upd_ne (Ne.symm c)]; exact upd_same) (fun b u hb h => ?_) ?_ s
    · rw [upd_ne hb, upd_ne (ne_of_none h hq)]
      exact h
    · have n1 : Now H0 H10 H (upd H1 q (.lst [])) := ⟨n.ex.trans (Ex.new hq), n.ext, n.grow.trans (Ex.new hq)⟩
      exact n1.mut w.no w.old⟩
/-- x.f = {} -/
theorem st_fldNewD (n : Now H0 H10 H H1) (s : Sl K H σ ss) (hi : ss[i]? = some (.val (.ref p))) (w : OwnO H10 H H1 p (.ins C dx fs)) (hC : Cls K C) (hn : NoAttr K C f) (hl : fs.length < 1000)
    (k : ∀ q H2, H1 q = none → OwnO H10 H H2 p (.ins C dx (putF f (.ref q) fs)) → H2 q = some (.dK []) → (∀ b u, b ≠ p → H1 b = some u → H2 b = some u) → Now H0 H10 H H2 → Sl K H σ ss → D.nx σ H2) : sFld K (tVar i) tDNewK f D σ H1 :=
  fun q hq => by
    have c : p ≠ q := ne_of_none w.at_ hq
    have hp : upd H1 q (.dK []) p = some (.ins C dx fs) := by rw [upd_ne c]; exact w.at_
    refine ⟨.ref p, s.val hi, p, C, dx, fs, rfl, hp, hC, hn, hl, ?_⟩
    refine k q _ hq ⟨w.no, w.old, upd_same⟩ (by rw [upd_ne (Ne.symm c)]; exact upd_same) (fun b u hb h => ?_) ?_ s
    · rw [upd_ne hb, upd_ne (ne_of_none h hq)]
      exact h
    · have n1 : Now H0 H10 H (upd H1 q (.dK [])) := ⟨n.ex.trans (Ex.new hq), n.ext, n.grow.trans (Ex.new hq)⟩
      exact n1.mut w.no w.old
end
end LR
namespace LR
open PySem PySem.Spec PyProof.Rows L2 Evl L2H LamX
/-! ### objects are made -/
section
variable {K : PySem.W.Frag} {C : Addr} {ms : List Str} {τ : Type} (O : ObjK K C ms τ)
def KNew (E : XK) (p : Addr) (H B : Hp) (Q : VK) : Except Str τ → Prop
  | .ok S => ∀ H2 fp', Ex B H2 → Ex H H2 → O.At p H H2 fp' S → (∀ b, fp' b → B b = none) → Q .non H2
  | .error x => ∀ H2, Ex B H2 → E (.ref (gaE K x)) none H2
def spNew (n : Nat) (R : List PyData → Except Str τ → Prop) : Sp := fun vs H1 Q E => ∃ H p args ds r dx, vs = V.ref p :: args ∧ Ex H H1 ∧ H p = none ∧ H1 p = some (.ins C dx []) ∧ DtAll K H args ds ∧ ds.length = n ∧ R ds r ∧ KNew O E p H (less H1 (· = p)) Q r
theorem spNew_len {n : Nat} {R : List PyData → Except Str τ → Prop} {vs : List V} {H1 : Hp} {Q : VK} {E : XK} (h : spNew O n R vs H1 Q E) : vs.length = n + 1 := by
  obtain ⟨H, p, args, ds, r, dx, rfl, _, _, _, da, hl, _⟩ := h
  rw [List.length_cons, da.length, hl]
variable {O}
variable {P : Program} {w : World} {mg : Str → Option Value} {base : Heap}
/-- __init__ keeps its promise -/
theorem fn_init {nm qual : Str} {st : Stmt} {f : Addr} {fd : FuncData} {N ps : List Str} {k n : Nat} {dvs : List V} {kws : List (Str × V)} {R : List PyData → Except Str τ → Prop} (F : FunD K nm qual (defArgs st) (defBody st) (defScope st) dvs kws f fd) (S : FnScope N ps (defScope st)) (hn : ps.length = n + 1)
    (body : ∀ (cdv : Value) (A : Around) (outer : List Env) (s : Shared) (Hs : Hp) (E : XK), Room k (A.deeper (envOfC qual (defScope st) s.heap.objs.size f cdv)) → ∀ (ds : List PyData) (r : Except Str τ), ds.length = n → R ds r →
      ∃ t, PSs (cxOf (CXL P w) P w K mg base N qual (defScope st) f cdv A outer s Hs E) (defBody st) t ∧
        ∀ (σ : L2.St) (p dx : Addr) (H H1 : Hp) (Q : VK), Now H (less H1 (· = p)) H H1 → OwnO (less H1 (· = p)) H H1 p (.ins C dx []) → Sl K H σ (SD.val (.ref p) :: (ds.map .dat ++ List.replicate (N.length - (n + 1)) .unk)) → KNew O E p H (less H1 (· = p)) Q r → t { nx := fun _ H' => Q .non H', rt := Q } σ H1) :
    FnOk P w K mg base (CXL P w) (k + 1) f fd ps (spNew O n R) := by
  refine F.ok S (fun vs H Q E h => by rw [hn]; exact spNew_len O h) (fun cdv A outer s H1 vs Q E hr h => ?_)
  obtain ⟨H, p, args, ds, r, dx, rfl, e, hp, hp1, da, hl, hR, q⟩ := h
  obtain ⟨t, ht, hk⟩ := body cdv A outer s H1 E hr ds r hl hR
  refine ⟨t, ht, hk _ p dx H H1 Q ⟨e, Ext.refl _ _, ex_less⟩ ⟨hp, less_no rfl, hp1⟩ ?_ q⟩
  have lv : args.length = n := da.length.trans hl
  have z := sl_start (K := K) (H := H) (N.length - (n + 1)) da
  have e2 : (V.ref p :: args).length = n + 1 := by rw [List.length_cons, lv]
  unfold L2.start
  rw [e2]
  exact .cons rfl z
section
variable {H0 H10 H H1 : Hp} {σ : L2.St} {ss : List SD} {ta : TA} {ds : List PyData} {E : XK} {Q : VK} {S : τ} {r : Except Str τ} {R : List PyData → Except Str τ → Prop}
/-- behind the arguments: a new object -/
theorem new_step {n : Nat} {vs : List V} {H2 Ha : Hp} (nw : Now H0 H10 H H1) (e2 : Ex H1 H2) (ea : Ex Ha H2) (xa : Ext H H1 Ha) (da : DtAll K Ha vs ds) (hn : ds.length = n) (hR : R ds r) {x dx : Addr} (hx : H2 x = none) (hdx : H2 dx = none) (hne : dx ≠ x)
    (ok : ∀ S, r = .ok S → ∀ p H' H3 fp', Ext H H1 H' → Ex H1 H3 → Now H0 H10 H' H3 → O.At p H' H3 fp' S → (∀ b, fp' b → H1 b = none) → Q (.ref p) H3)
    (er : ∀ y, r = .error y → ∀ H3, Ex H1 H3 → E (.ref (gaE K y)) none H3) :
    spNew O n R (.ref x :: vs) (upd (upd H2 dx (.own x)) x (.ins C dx [])) (fun v H3 => v = .non ∧ Q (.ref x) H3) E := by
  have hx' : upd H2 dx (.own x) x = none := by rw [upd_ne (Ne.symm hne)]; exact hx
  have e3 : Ex H2 (upd (upd H2 dx (.own x)) x (.ins C dx [])) := (Ex.new hdx).trans (Ex.new hx')
  have e4 : Ex H2 (less (upd (upd H2 dx (.own x)) x (.ins C dx [])) (· = x)) := ex_into e3 fun b hb => by rw [hb]; exact hx
  refine ⟨Ha, x, vs, ds, r, dx, rfl, ea.trans e3, fresh_back ea hx, upd_same, da, hn, hR, ?_⟩
  cases r with
  | ok S =>
    intro H3 fp' u1 u2 at_ nf
    refine ⟨rfl, ok S rfl x Ha H3 fp' xa (e2.trans (e4.trans u1)) ⟨u2, nw.ext.trans nw.grow xa, (nw.grow.trans e2).trans (e4.trans u1)⟩ at_ fun b hb => ?_⟩
    exact fresh_back (e2.trans e4) (nf b hb)
  | error y => exact fun H3 u1 => er y rfl H3 (e2.trans (e4.trans u1))
/-- C(), the defaults fill up -/
theorem tm_new0 {n : Nat} {dvs : List V} (nw : Now H0 H10 H H1) (dd : DtAll K H dvs ds) (hn : ds.length = n) (hR : R ds r)
    (ok : ∀ S, r = .ok S → ∀ p H' H3 fp', Ext H H1 H' → Ex H1 H3 → Now H0 H10 H' H3 → O.At p H' H3 fp' S → (∀ b, fp' b → H1 b = none) → Q (.ref p) H3)
    (er : ∀ y, r = .error y → ∀ H3, Ex H1 H3 → E (.ref (gaE K y)) none H3) : tMake C (spNew O n R) dvs E tNil σ H1 Q :=
  fun x dx hx hdx hne => new_step nw (Ex.refl _) nw.ex (Ext.refl _ _) dd hn hR hx hdx hne ok er
/-- C(k = e) -/
theorem tm_newK {n : Nat} {tk : TA} (nw : Now H0 H10 H H1) (ha : EvDs K tk σ H ds) (hn : ds.length = n) (hR : R ds r)
    (ok : ∀ S, r = .ok S → ∀ p H' H3 fp', Ext H H1 H' → Ex H1 H3 → Now H0 H10 H' H3 → O.At p H' H3 fp' S → (∀ b, fp' b → H1 b = none) → Q (.ref p) H3)
    (er : ∀ y, r = .error y → ∀ H3, Ex H1 H3 → E (.ref (gaE K y)) none H3) : tMakeK C 0 n (spNew O n R) (fun vs zs => vs ++ zs) E tNil tk σ H1 Q :=
  ha H1 nw.ex _ fun vs H2 Ha e2 ea xa da => ⟨rfl, da.length.trans hn, fun x dx hx hdx hne => new_step nw e2 ea xa da hn hR hx hdx hne ok er⟩
end
end
theorem kbn_all {K : PySem.W.Frag} {x qual : Str} {params : Arguments} {body : List Stmt} {scope : Scope} {kws : List (Str × V)} {f : Addr} {fd : FuncData} {ps ks : List Str} {n : Nat} (F : FunD K x qual params body scope [] kws f fd)
    (h : ∀ (kV doc pm : Value) (an : Option Addr) (cdv ct : Value) (us ws : List Value), us.length = n → ws.length = ks.length → bindArgs (PySem.W.fnOf x qual params body scope .none kV doc pm an cdv ct) ⟨us, ks.zip ws⟩ = pure (ps.zip (us ++ ws))) : L2.KBn K fd ps n ks (fun us ws => us ++ ws) (fun vs zs => vs ++ zs) := by
  obtain ⟨oc, od, dV, kV, doc, pm, an, cdv, ct, osl, rfl, lk, hcd, hD, hK⟩ := F.ex
  rcases hD with ⟨_, rfl⟩ | ⟨e, _⟩
  · exact ⟨fun s us ws _ l1 l2 => .of_eq (h kV doc pm an cdv ct us ws l1 l2), fun r1 r2 => r1.append r2⟩
  · exact absurd rfl e
end LR

/-! ### sets of whole numbers, sorted; list(dict), set(dict), sets put together (own work) -/
namespace LR
open PySem PySem.Spec PyProof.Rows L2 Evl
theorem risI_of {l : List Int} (h : l.Pairwise (· ≤ ·)) (nd : l.Nodup) : l.Pairwise fun a b => ltI a b = true := by
  have := h.and nd
  exact this.imp fun ⟨h1, h2⟩ => decide_eq_true (by omega)
section
variable {X : Cx}
/-- sorted(a set of whole numbers) -/
def rSortKI (P : Program) (w : World) : List V → Hp → VK → Prop := fun xs H Q => ∃ (a : Addr) (zs : List Int) (n : Nat), xs = [.ref a] ∧ H a = some (KSO P w a (inK (zs.map .inl)) n) ∧ ∀ p, H p = none → Q (.ref p) (upd H p (.lst ((usort ltI zs).map V.int)))
theorem cr_sortKI (hc : X.calm = true) : CallR X (.builtin "sorted") (rSortKI X.prog X.w) := by
  intro pins s σ H vs us Q I r h
  obtain ⟨a, zs, n, rfl, ha, q⟩ := h
  obtain ⟨ob, rows, ep, tb, ho, hex, hd, g, nd, hm, hb, hf, hn, hr, hl⟩ := kso_get I ha
  rw [Vals.ref1 r]
  refine Calls.call_function_entry kind_sorted plain_sorted entry_sorted (args_sorted1 _) ?_
  unfold Builtin.«sorted»
  refine wpAny_bind (m := checkCount "sorted" 1 1 _) (wpAny_pure (wpAny_bind (collect_set (A := X.A.in1) (I.ok.hd hc) ⟨ob, ho, hex.1, hd⟩ hf hb hr hl fun s1 vs k1 hz g1 o1 pm => ?_)))
  have row : ∀ r ∈ rows.toList, ∃ x t, r.2 = Value.int x t ∧ keyE r = .inl x := fun r hr => by
    obtain ⟨k, h1, _⟩ := g r hr
    have e := keyE_of h1
    have hk : k ∈ zs.map Sum.inl := inK_iff.mp ((hm k).mpr (e ▸ List.mem_map_of_mem hr))
    obtain ⟨x, _, rfl⟩ := List.mem_map.mp hk
    obtain ⟨t, ht⟩ := (show ∃ t, r.2 = Value.int x t from h1)
    exact ⟨x, t, ht, e⟩
  have hI : IntsAre vs (vs.map SrtO.iv) := SrtO.ints_iv fun v hv => by
    obtain ⟨r, hr, e⟩ := List.mem_map.mp (pm.mem_iff.mp hv)
    obtain ⟨x, t, h1, _⟩ := row r hr
    exact ⟨x, t, by rw [← e]; exact h1⟩
  have pk : ((vs.map SrtO.iv).map Sum.inl : List Key).Perm (rows.toList.map keyE) := by
    have y := (pm.map SrtO.iv).map (Sum.inl : Int → Key)
    have e : ((rows.toList.map (·.2)).map SrtO.iv).map (Sum.inl : Int → Key) = rows.toList.map keyE := by
      rw [List.map_map, List.map_map]
      refine List.map_congr_left fun r hr => ?_
      obtain ⟨x, t, h1, h2⟩ := row r hr
      rw [h2]
      show Sum.inl (SrtO.iv r.2) = Sum.inl x
      rw [h1]
      rfl
    rw [← e]
    exact y
  have hvl : vs.length = rows.size := by
    have y := pm.length_eq
    simpa using y
  have hvz : vs.length ≤ sizeLine := hvl ▸ fits_of_scanBound hb
  refine wpAny_bind (wpAny_newList ?_ hvz)
  have hoL : (s1.heap.push (seqObj "list" vs.toArray 0)).get? s1.heap.objs.size = some (seqObj "list" vs.toArray 0) := Heap.get?_push_size _ rfl
  refine wpAny_bind (wpAny_holding (wpAny_call_entry slot_list_sort ⟨_, hoL, rfl⟩ entry_list_sort (list_sort_treeKAny intKind_oneLt hoL hI.keysOfInt (fun v₁ v₂ rest e => keyKind_ints (by rw [← e]; exact hI)) hvz fun st' hp hs => ?_) (args_list_sort _)))
  obtain ⟨ys, y1, y2, y3⟩ := sorted_out hI hp (sortedTo_of_int hs)
  have inj : ∀ {x y : Int}, (Sum.inl x : Key) = Sum.inl y → x = y := fun h => Sum.inl.inj h
  have nd2 : (vs.map SrtO.iv).Nodup := by
    have z := pk.nodup_iff.mpr nd
    exact (List.pairwise_map.mp z).imp fun h e => h (congrArg _ e)
  have same : ys = usort ltI zs := by
    refine ris_eq tot_ltI (risI_of y3 (y2.nodup_iff.mpr nd2)) (ris_usort tot_ltI _) fun z => ?_
    rw [y2.mem_iff, mem_usort tot_ltI]
    constructor
    · intro hz
      have h1 : (Sum.inl z : Key) ∈ zs.map Sum.inl := inK_iff.mp ((hm _).mpr (pk.mem_iff.mp (List.mem_map_of_mem hz)))
      obtain ⟨z', hz', e⟩ := List.mem_map.mp h1
      rw [← inj e]
      exact hz'
    · intro hz
      have h1 : (Sum.inl z : Key) ∈ (vs.map SrtO.iv).map Sum.inl := pk.mem_iff.mpr ((hm _).mp (inK_iff.mpr (List.mem_map_of_mem hz)))
      obtain ⟨z', hz', e⟩ := List.mem_map.mp h1
      rw [← inj e]
      exact hz'
  subst same
  obtain ⟨c, hc'⟩ := sortedHeap_at (vs := vs) (out := (arrOf st').map (·.2)) hoL
  have hlen : ((usort ltI zs).map V.int).length ≤ sizeLine := by
    rw [List.length_map, y2.length_eq, List.length_map]
    exact hvz
  have kp : ∀ b u, s.heap.get? b = some u → (sortedHeap (s1.heap.push (seqObj "list" vs.toArray 0)) s1.heap.objs.size vs ((arrOf st').map (·.2))).get? b = some u := fun b u e => by
    have y := k1 b u e
    have lt := Heap.lt_size y
    rw [sortedHeap_old (Nat.ne_of_lt lt) (by rw [Heap.size_push]; exact Nat.lt_succ_of_lt lt)]
    exact Heap.get?_push_of_some _ y
  have hn' : H s1.heap.objs.size = none := I.hok.fresh hz
  refine ⟨.none, rfl, wpAny_pure ⟨_, rfl, ?_⟩⟩
  have J : Inv X pins σ (upd H s1.heap.objs.size (.lst ((usort ltI zs).map V.int))) { s with heap := sortedHeap (s1.heap.push (seqObj "list" vs.toArray 0)) s1.heap.objs.size vs ((arrOf st').map (·.2)), gens := s1.gens, drawn := s1.drawn, toks := s1.toks } :=
    I.call (ch := []) (Un.laid kp hz hn') (I.hok.laid kp hz ⟨hlen, ((arrOf st').map (·.2)).toList, c, vals_of_ints y1, by rw [Array.toArray_toList]; exact hc'⟩) (by rw [g1]; exact I.bare) (fun _ z => nomatch z)
  have e : ({ s1 with heap := sortedHeap (s1.heap.push (seqObj "list" vs.toArray 0)) s1.heap.objs.size vs ((arrOf st').map (·.2)) } : Shared) = { s with heap := sortedHeap (s1.heap.push (seqObj "list" vs.toArray 0)) s1.heap.objs.size vs ((arrOf st').map (·.2)), gens := s1.gens, drawn := s1.drawn, toks := s1.toks } := by
    cases s1
    cases s
    cases o1
    rfl
  show EP X pins σ Q _ ({ s1 with heap := sortedHeap (s1.heap.push (seqObj "list" vs.toArray 0)) s1.heap.objs.size vs ((arrOf st').map (·.2)) } : Shared)
  rw [e]
  exact ⟨.ref _, _, J, rfl, q _ hn'⟩
end
end LR

/-! ### EV: a plain evaluator, and how the heap follows it (own work) -/
namespace EV
open PySem PySem.Spec PyProof.Rows L2 Evl L2H LamX LR
/-- what a slot or a field holds -/
inductive Val where
  | dat (d : PyData)
  | obj (i : Nat)
  | ownL (ds : List PyData)
  | ownD (kvs : List (Key × PyData))
/-- what stands in the store: an instance, or a list or dict that is handed on -/
inductive Ob where
  | ins (C : Str) (fs : List (Str × Val))
  | box (v : Val)
structure Sg where
  sl : List (Option Val)
  st : List Ob
inductive Owner where
  | ob (i : Nat)
  | slot (j : Nat)
  | fld (i : Nat) (f : Str)
  deriving DecidableEq
/-- what an expression tells: data, an object, or the place of a list or dict -/
inductive Rv where
  | dat (d : PyData)
  | at_ (o : Owner)
structure Fr where
  H0 : Hp
  B : Hp
  a0 : Nat → Option Addr
abbrev Al := Owner → Option Addr
/-- the lambdas' tables; whether objects may change -/
structure TbS where
  fl : Bool
  l : List (Addr × Str)
def KvR (K : PySem.W.Frag) (H : Hp) (ws : List (Key × V)) (kvs : List (Key × PyData)) : Prop := ws.map (·.1) = kvs.map (·.1) ∧ DtAll K H (ws.map (·.2)) (kvs.map (·.2))
/-- the content of a list or a dict at a -/
def CoR (K : PySem.W.Frag) (H H1 : Hp) (a : Addr) : Val → Prop
  | .ownL ds => ∃ vs, H1 a = some (.lst vs) ∧ DtAll K H vs ds
  | .ownD kvs => ∃ ws, H1 a = some (.dK ws) ∧ KvR K H ws kvs
  | _ => False
def VR (K : PySem.W.Frag) (α : Al) (H H1 : Hp) (o : Owner) (u : V) : Val → Prop
  | .dat d => Dt K H u d
  | .obj i => ∃ a, u = .ref a ∧ α (.ob i) = some a
  | .ownL ds => ∃ a, u = .ref a ∧ α o = some a ∧ CoR K H H1 a (.ownL ds)
  | .ownD kvs => ∃ a, u = .ref a ∧ α o = some a ∧ CoR K H H1 a (.ownD kvs)
def FsR (K : PySem.W.Frag) (α : Al) (H H1 : Hp) (i : Nat) (us : List (Str × V)) (fs : List (Str × Val)) : Prop := us.map (·.1) = fs.map (·.1) ∧ ∀ f v, fs.lookup f = some v → ∃ u, us.lookup f = some u ∧ VR K α H H1 (.fld i f) u v
/-- the classes: which fields they may have -/
abbrev Fl := Str → List Str
structure ClsOk (K : PySem.W.Frag) (FL : Fl) (C : Str) : Prop where
  cls : Cls K (gaE K C)
  no : ∀ f ∈ FL C, NoAttr K (gaE K C) f
def ObR (K : PySem.W.Frag) (FL : Fl) (α : Al) (H H1 : Hp) (i : Nat) (a : Addr) : Ob → Prop
  | .ins C fs => ClsOk K FL C ∧ ∃ dx us, H1 a = some (.ins (gaE K C) dx us) ∧ FsR K α H H1 i us fs
  | .box v => CoR K H H1 a v
/-- the store's part -/
structure RelS (K : PySem.W.Frag) (FL : Fl) (T : TbS) (α : Al) (H H1 : Hp) (st : List Ob) : Prop where
  ex : Ex H H1
  nt : T.fl = true → NT H
  tb : Tabs T.l H1
  inj : ∀ o o' a, α o = some a → α o' = some a → o = o'
  off : ∀ o a, α o = some a → H a = none
  pl : ∀ o a, α o = some a → ∃ u, H1 a = some u ∧ PlainO u
  sto : ∀ i o, st[i]? = some o → ∃ a, α (.ob i) = some a ∧ ObR K FL α H H1 i a o
  dom : ∀ i, st.length ≤ i → α (.ob i) = none
structure Rel (K : PySem.W.Frag) (FL : Fl) (T : TbS) (F : Fr) (α : Al) (H H1 : Hp) (σ : L2.St) (g : Sg) : Prop extends RelS K FL T α H H1 g.st where
  ext : Ext F.H0 F.B H
  gro : Ex F.B H1
  ntB : T.fl = true → NT F.B
  offB : ∀ o a, α o = some a → F.B a = none
  old : ∀ i a, F.a0 i = some a → α (.ob i) = some a
  len : σ.length = g.sl.length
  slt : ∀ j v, g.sl[j]? = some (some v) → ∃ u, σ[j]? = some (some u) ∧ VR K α H H1 (.slot j) u v
section
variable {K : PySem.W.Frag} {FL : Fl} {T : TbS} {F : Fr} {α α' : Al} {H H1 H' H2 : Hp} {σ : L2.St} {g : Sg}
theorem KvR.ex {ws : List (Key × V)} {kvs : List (Key × PyData)} (h : KvR K H ws kvs) (e : Ex H H') : KvR K H' ws kvs := ⟨h.1, DtAll.ex e h.2⟩
theorem CoR.ex {a : Addr} {v : Val} (h : CoR K H H1 a v) (e : Ex H H') (k : ∀ u, H1 a = some u → H2 a = some u) : CoR K H' H2 a v := by
  cases v with
  | dat d => exact h
  | obj i => exact h
  | ownL ds => obtain ⟨vs, h1, h2⟩ := h; exact ⟨vs, k _ h1, DtAll.ex e h2⟩
  | ownD kvs => obtain ⟨ws, h1, h2⟩ := h; exact ⟨ws, k _ h1, h2.ex e⟩
theorem VR.ex {o : Owner} {u : V} {v : Val} (h : VR K α H H1 o u v) (e : Ex H H') (ha : ∀ i a, α (.ob i) = some a → α' (.ob i) = some a) (hk : ∀ a, α o = some a → α' o = some a ∧ ∀ u, H1 a = some u → H2 a = some u) : VR K α' H' H2 o u v := by
  cases v with
  | dat d => exact Dt.ex e h
  | obj i => obtain ⟨a, h1, h2⟩ := h; exact ⟨a, h1, ha _ _ h2⟩
  | ownL ds => obtain ⟨a, h1, h2, h3⟩ := h; obtain ⟨k1, k2⟩ := hk a h2; exact ⟨a, h1, k1, h3.ex e k2⟩
  | ownD ds => obtain ⟨a, h1, h2, h3⟩ := h; obtain ⟨k1, k2⟩ := hk a h2; exact ⟨a, h1, k1, h3.ex e k2⟩
theorem FsR.ex {i : Nat} {us : List (Str × V)} {fs : List (Str × Val)} (h : FsR K α H H1 i us fs) (e : Ex H H') (ha : ∀ j a, α (.ob j) = some a → α' (.ob j) = some a) (hk : ∀ f a, α (.fld i f) = some a → α' (.fld i f) = some a ∧ ∀ u, H1 a = some u → H2 a = some u) : FsR K α' H' H2 i us fs :=
  ⟨h.1, fun f v hl => by
    obtain ⟨u, h1, h2⟩ := h.2 f v hl
    exact ⟨u, h1, h2.ex e ha fun a h => hk f a h⟩⟩
theorem ObR.ex {i : Nat} {a : Addr} {o : Ob} (h : ObR K FL α H H1 i a o) (e : Ex H H') (ha : ∀ j a, α (.ob j) = some a → α' (.ob j) = some a) (hk : ∀ f a, α (.fld i f) = some a → α' (.fld i f) = some a ∧ ∀ u, H1 a = some u → H2 a = some u) (h0 : ∀ u, H1 a = some u → H2 a = some u) : ObR K FL α' H' H2 i a o := by
  cases o with
  | ins C fs => obtain ⟨c, dx, us, h1, h2⟩ := h; exact ⟨c, dx, us, h0 _ h1, h2.ex e ha hk⟩
  | box v => exact CoR.ex h e h0
theorem RelS.grow {st : List Ob} (r : RelS K FL T α H H1 st) (e2 : Ex H1 H2) (e : Ex H' H2) (x : Ext H H1 H') : RelS K FL T α H' H2 st where
  ex := e
  nt := fun hT b ps h => by
    rcases x.fresh b _ h with z | z
    · exact r.nt hT b ps z
    · exact z.2 ps rfl
  tb := r.tb.ext e2
  inj := r.inj
  off := fun o a h => by
    obtain ⟨u, hu, _⟩ := r.pl o a h
    exact x.off (r.off o a h) hu
  pl := fun o a h => by
    obtain ⟨u, hu, p⟩ := r.pl o a h
    exact ⟨u, e2 _ _ hu, p⟩
  sto := fun i o h => by
    obtain ⟨a, h1, h2⟩ := r.sto i o h
    exact ⟨a, h1, h2.ex x.ex (fun _ _ z => z) (fun f b z => ⟨z, fun u hu => e2 _ _ hu⟩) fun u hu => e2 _ _ hu⟩
  dom := r.dom
theorem Rel.grow (r : Rel K FL T F α H H1 σ g) (e2 : Ex H1 H2) (e : Ex H' H2) (x : Ext H H1 H') : Rel K FL T F α H' H2 σ g where
  toRelS := r.toRelS.grow e2 e x
  ext := r.ext.trans r.gro x
  gro := r.gro.trans e2
  ntB := r.ntB
  offB := r.offB
  old := r.old
  len := r.len
  slt := fun j v h => by
    obtain ⟨u, h1, h2⟩ := r.slt j v h
    exact ⟨u, h1, h2.ex x.ex (fun _ _ z => z) fun a z => ⟨z, fun u hu => e2 _ _ hu⟩⟩
def Sg.set (g : Sg) (j : Nat) (v : Val) : Sg := ⟨g.sl.set j (some v), g.st⟩
def Sg.clr (g : Sg) (j : Nat) : Sg := ⟨g.sl.set j none, g.st⟩
theorem set_get {α : Type} {l : List α} {j k : Nat} {x y : α} (h : (l.set j x)[k]? = some y) : (k = j ∧ y = x) ∨ (k ≠ j ∧ l[k]? = some y) := by
  by_cases c : k = j
  · subst c
    have hk : k < (l.set k x).length := (List.getElem?_eq_some_iff.mp h).1
    rw [List.getElem?_set_self (by simpa using hk)] at h
    cases h
    exact .inl ⟨rfl, rfl⟩
  · rw [List.getElem?_set_ne (Ne.symm c)] at h
    exact .inr ⟨c, h⟩
/-- data in a slot -/
theorem Rel.set (r : Rel K FL T F α H H1 σ g) {u : V} {v : Val} (j : Nat) (h : VR K α H H1 (.slot j) u v) : Rel K FL T F α H H1 (σ.set j (some u)) (g.set j v) where
  toRelS := r.toRelS
  ext := r.ext
  gro := r.gro
  ntB := r.ntB
  offB := r.offB
  old := r.old
  len := by simp [Sg.set, r.len]
  slt := fun k w hk => by
    rcases set_get hk with ⟨rfl, e⟩ | ⟨c, e⟩
    · cases e
      have hlt : k < σ.length := by
        rw [r.len]
        have := (List.getElem?_eq_some_iff.mp hk).1
        simpa [Sg.set] using this
      exact ⟨u, by rw [List.getElem?_set_self hlt], h⟩
    · obtain ⟨u', h1, h2⟩ := r.slt k w e
      exact ⟨u', by rw [List.getElem?_set_ne (Ne.symm c)]; exact h1, h2⟩
theorem Rel.clr (r : Rel K FL T F α H H1 σ g) (j : Nat) : Rel K FL T F α H H1 (σ.set j none) (g.clr j) where
  toRelS := r.toRelS
  ext := r.ext
  gro := r.gro
  ntB := r.ntB
  offB := r.offB
  old := r.old
  len := by simp [Sg.clr, r.len]
  slt := fun k w hk => by
    rcases set_get hk with ⟨rfl, e⟩ | ⟨c, e⟩
    · cases e
    · obtain ⟨u', h1, h2⟩ := r.slt k w e
      exact ⟨u', by rw [List.getElem?_set_ne (Ne.symm c)]; exact h1, h2⟩
theorem Rel.now (r : Rel K FL T F α H H1 σ g) : Now F.H0 F.B H H1 := ⟨r.ex, r.ext, r.gro⟩
end
/-! ### pure expressions -/
abbrev PM := Sg → Option PyData
abbrev PB := Sg → Option Bool
abbrev PMs := Sg → Option (List PyData)
section
variable (K : PySem.W.Frag) (FL : Fl) (T : TbS)
def SimP (te : TE) (p : PM) : Prop := ∀ (F : Fr) (α : Al) (H H1 : Hp) (σ : L2.St) (g : Sg) (d : PyData), Rel K FL T F α H H1 σ g → p g = some d → ∀ Q : VK, KD K H H1 d Q → te σ H1 Q
def SimPB (tt : TT) (p : PB) : Prop := ∀ (F : Fr) (α : Al) (H H1 : Hp) (σ : L2.St) (g : Sg) (b : Bool), Rel K FL T F α H H1 σ g → p g = some b → ∀ Q : Bool → Hp → Prop, (∀ H2, Ex H1 H2 → Q b H2) → tt σ H1 Q
def SimPs (ta : TA) (p : PMs) : Prop := ∀ (F : Fr) (α : Al) (H H1 : Hp) (σ : L2.St) (g : Sg) (ds : List PyData), Rel K FL T F α H H1 σ g → p g = some ds → ∀ Q : List V → Hp → Prop, (∀ vs H2 H', Ex H1 H2 → Ex H' H2 → Ext H H1 H' → DtAll K H' vs ds → Q vs H2) → ta σ H1 Q
end
section
variable {K : PySem.W.Frag} {FL : Fl} {T : TbS} {ta tb tc te : TE} {tt tu : TT} {pa pb pc : PM} {qa qb : PB} {tA tr : TA} {ps pr : PMs}
theorem Rel.same {F : Fr} {α : Al} {H H1 H2 : Hp} {σ : L2.St} {g : Sg} (r : Rel K FL T F α H H1 σ g) (e2 : Ex H1 H2) : Rel K FL T F α H H2 σ g := r.grow e2 (r.ex.trans e2) (Ext.refl _ _)
/-- a name -/
def pVar (j : Nat) : PM := fun g => match g.sl[j]? with
  | some (some (.dat d)) => some d
  | _ => none
theorem sp_var {j : Nat} : SimP K FL T (tVar j) (pVar j) := fun F α H H1 σ g d r h Q q => by
  unfold pVar at h
  split at h
  · rename_i d' hd
    cases h
    obtain ⟨u, h1, h2⟩ := r.slt j _ hd
    exact ⟨u, h1, KD.now q r.ex h2⟩
  · cases h
def pC (d : PyData) : PM := fun _ => some d
theorem sp_c {v : V} {d : PyData} (h : ∀ H, Dt K H v d) : SimP K FL T (tC v) (pC d) := fun F α H H1 σ g d' r h' Q q => by
  cases h'
  exact KD.now q r.ex (h H)
theorem sp_int {i : Int} : SimP K FL T (tC (.int i)) (pC (.int i)) := sp_c fun _ => .int i
theorem sp_str {x : Str} : SimP K FL T (tC (.str x)) (pC (.str x)) := sp_c fun _ => .str x
theorem sp_bl {b : Bool} : SimP K FL T (tC (.bl b)) (pC (.bool b)) := sp_c fun _ => .bl b
theorem sp_non : SimP K FL T (tC .non) (pC .none) := sp_c fun _ => .non
/-- an operator -/
def pOp (f : PyData → PyData → Option PyData) (a b : PM) : PM := fun g => (a g).bind fun d => (b g).bind fun e => f d e
def OpD (K : PySem.W.Frag) (r : R2) (f : PyData → PyData → Option PyData) : Prop := ∀ d e z, f d e = some z → ∀ H, RD2 K r d e H z
theorem bind_some {α β : Type} {o : Option α} {f : α → Option β} {z : β} (h : o.bind f = some z) : ∃ x, o = some x ∧ f x = some z := by
  cases o with
  | none => cases h
  | some x => exact ⟨x, rfl, h⟩
theorem sp_op {r : R2} {f : PyData → PyData → Option PyData} (hf : OpD K r f) (ha : SimP K FL T ta pa) (hb : SimP K FL T tb pb) : SimP K FL T (tOp r ta tb) (pOp f pa pb) := fun F α H H1 σ g z R h Q q => by
  obtain ⟨d, h1, h⟩ := bind_some h
  obtain ⟨e, h2, h3⟩ := bind_some h
  exact ha F α H H1 σ g d R h1 _ fun x H2 Ha e2 ea xa da => hb F α Ha H2 σ g e (R.grow e2 ea xa) h2 _ fun y H3 Hb e3 eb xb db =>
    hf d e z h3 Hb Hb x y (Ex.refl _) (Dt.ex xb.ex da) db H3 eb Q fun v H4 Hc e4 ec xc dc => q v H4 Hc ((e2.trans e3).trans e4) ec ((xa.trans e2 xb).trans (e2.trans e3) xc) dc
def pUn (f : PyData → Option PyData) (a : PM) : PM := fun g => (a g).bind f
theorem sp_un {r : V → Hp → VK → Prop} {f : PyData → Option PyData} (hf : ∀ d z, f d = some z → ∀ H, RDU K r d H z) (ha : SimP K FL T ta pa) : SimP K FL T (tUn r ta) (pUn f pa) := fun F α H H1 σ g z R h Q q => by
  obtain ⟨d, h1, h2⟩ := bind_some h
  exact ha F α H H1 σ g d R h1 _ fun x H2 Ha e2 ea xa da => hf d z h2 Ha Ha x (Ex.refl _) da H2 ea Q fun v H4 Hc e4 ec xc dc => q v H4 Hc (e2.trans e4) ec (xa.trans e2 xc) dc
/-! arguments -/
def pNil : PMs := fun _ => some []
def pCons (a : PM) (r : PMs) : PMs := fun g => (a g).bind fun d => (r g).bind fun ds => some (d :: ds)
theorem sps_nil : SimPs K FL T tNil pNil := fun F α H H1 σ g ds R h Q q => by
  cases h
  exact q [] H1 H (Ex.refl _) R.ex (Ext.refl _ _) .nil
theorem sps_cons (ha : SimP K FL T ta pa) (hr : SimPs K FL T tr pr) : SimPs K FL T (tCons ta tr) (pCons pa pr) := fun F α H H1 σ g z R h Q q => by
  obtain ⟨d, h1, h⟩ := bind_some h
  obtain ⟨ds, h2, h3⟩ := bind_some h
  cases h3
  exact ha F α H H1 σ g d R h1 _ fun x H2 Ha e2 ea xa da => hr F α Ha H2 σ g ds (R.grow e2 ea xa) h2 _ fun ys H3 Hb e3 eb xb db => q (x :: ys) H3 Hb (e2.trans e3) eb (xa.trans e2 xb) (.cons (Dt.ex xb.ex da) db)
/-- a built-in of data -/
def pCB (f : List PyData → Option PyData) (a : PMs) : PM := fun g => (a g).bind f
def CbD (K : PySem.W.Frag) (r : List V → Hp → VK → Prop) (f : List PyData → Option PyData) : Prop := ∀ ds z, f ds = some z → ∀ H, RDC K r ds H z
theorem sp_cb {r : List V → Hp → VK → Prop} {f : List PyData → Option PyData} (hf : CbD K r f) (ha : SimPs K FL T tA ps) : SimP K FL T (tCB r tA) (pCB f ps) := fun F α H H1 σ g z R h Q q => by
  obtain ⟨d, h1, h2⟩ := bind_some h
  exact ha F α H H1 σ g d R h1 _ fun x H2 Ha e2 ea xa da => hf d z h2 Ha Ha x (Ex.refl _) da H2 ea Q fun v H4 Hc e4 ec xc dc => q v H4 Hc (e2.trans e4) ec (xa.trans e2 xc) dc
def pTup (a : PMs) : PM := fun g => (a g).bind fun ds => if ds.length ≤ 100000 then some (.tuple ds) else none
def pLst (a : PMs) : PM := fun g => (a g).bind fun ds => if ds.length ≤ 100000 then some (.list ds) else none
theorem ite_some {α : Type} {c : Prop} [Decidable c] {x : α} {z : α} (h : (if c then some x else none) = some z) : c ∧ x = z := by
  split at h
  · rename_i hc; cases h; exact ⟨hc, rfl⟩
  · cases h
theorem sp_tup (ha : SimPs K FL T tA ps) : SimP K FL T (tTup tA) (pTup ps) := fun F α H H1 σ g z R h Q q => by
  obtain ⟨ds, h1, h2⟩ := bind_some h
  obtain ⟨hl, rfl⟩ := ite_some h2
  exact ha F α H H1 σ g ds R h1 _ fun xs H2 Ha e2 ea xa da => ⟨by rw [da.length]; exact sz_of hl, fun p hp => q _ _ (upd Ha p (.tup xs)) (e2.trans (Ex.new hp)) (ex_upd ea) (xa.trans e2 (Ext.new ea hp)) (.tup (st_of upd_same) (DtAll.ex (Ex.new (fresh_back ea hp)) da))⟩
theorem sp_lst (ha : SimPs K FL T tA ps) : SimP K FL T (tLst tA) (pLst ps) := fun F α H H1 σ g z R h Q q => by
  obtain ⟨ds, h1, h2⟩ := bind_some h
  obtain ⟨hl, rfl⟩ := ite_some h2
  exact ha F α H H1 σ g ds R h1 _ fun xs H2 Ha e2 ea xa da => ⟨by rw [da.length]; exact sz_of hl, fun p hp => q _ _ (upd Ha p (.lst xs)) (e2.trans (Ex.new hp)) (ex_upd ea) (xa.trans e2 (Ext.new ea hp)) (.lst upd_same (DtAll.ex (Ex.new (fresh_back ea hp)) da))⟩
/-! tests -/
def pTst (a : PM) : PB := fun g => (a g).bind fun d => match d with
  | .bool b => some b
  | _ => none
theorem tst_some {d : PyData} {b : Bool} (h : (match d with | .bool b => some b | _ => none) = some b) : d = .bool b := by
  cases d <;> simp at h
  rw [h]
theorem sb_test (h : SimP K FL T te pa) : SimPB K FL T (tTest te) (pTst pa) := fun F α H H1 σ g b R hb Q q => by
  obtain ⟨d, h1, h2⟩ := bind_some hb
  have e := tst_some h2
  subst e
  exact h F α H H1 σ g _ R h1 _ fun v H2 _ e2 _ _ dv => ⟨b, dv.bl_eq, q H2 e2⟩
theorem sb_B (h : SimP K FL T te pa) : SimPB K FL T (tB te) (pTst pa) := fun F α H H1 σ g b R hb Q q => by
  obtain ⟨d, h1, h2⟩ := bind_some hb
  have e := tst_some h2
  subst e
  exact h F α H H1 σ g _ R h1 _ fun v H2 _ e2 _ _ dv => ⟨b, dv.bl_eq, q H2 e2⟩
def bAnd (a b : PB) : PB := fun g => (a g).bind fun x => if x = true then b g else some false
def bOr (a b : PB) : PB := fun g => (a g).bind fun x => if x = true then some true else b g
def bNot (a : PB) : PB := fun g => (a g).bind fun x => some (!x)
theorem sb_and (h1 : SimPB K FL T tt qa) (h2 : SimPB K FL T tu qb) : SimPB K FL T (tAnd tt tu) (bAnd qa qb) := fun F α H H1 σ g b R hb Q q => by
  obtain ⟨x, k1, k2⟩ := bind_some hb
  refine h1 F α H H1 σ g x R k1 _ fun H2 e2 => ?_
  cases x with
  | true => exact h2 F α H H2 σ g b (R.same e2) k2 _ fun H3 e3 => q H3 (e2.trans e3)
  | false => cases k2; exact q H2 e2
theorem sb_or (h1 : SimPB K FL T tt qa) (h2 : SimPB K FL T tu qb) : SimPB K FL T (tOr tt tu) (bOr qa qb) := fun F α H H1 σ g b R hb Q q => by
  obtain ⟨x, k1, k2⟩ := bind_some hb
  refine h1 F α H H1 σ g x R k1 _ fun H2 e2 => ?_
  cases x with
  | false => exact h2 F α H H2 σ g b (R.same e2) k2 _ fun H3 e3 => q H3 (e2.trans e3)
  | true => cases k2; exact q H2 e2
theorem sb_not (h1 : SimPB K FL T tt qa) : SimPB K FL T (tNot tt) (bNot qa) := fun F α H H1 σ g b R hb Q q => by
  obtain ⟨x, k1, k2⟩ := bind_some hb
  cases k2
  exact h1 F α H H1 σ g x R k1 _ fun H2 e2 => q H2 e2
/-! and, or, not as values; the conditional -/
def asB (d : PyData) : Option Bool := match d with
  | .bool b => some b
  | _ => none
theorem asB_some {d : PyData} {b : Bool} (h : asB d = some b) : d = .bool b := tst_some h
def pAnd (a b : PM) : PM := fun g => (a g).bind fun d => (asB d).bind fun x => if x = true then b g else some (.bool false)
def pOr (a b : PM) : PM := fun g => (a g).bind fun d => (asB d).bind fun x => if x = true then some (.bool true) else b g
def pNot (a : PM) : PM := fun g => (a g).bind fun d => (asB d).bind fun x => some (.bool (!x))
theorem sp_and (ha : SimP K FL T ta pa) (hb : SimP K FL T tb pb) : SimP K FL T (tAndV ta tb) (pAnd pa pb) := fun F α H H1 σ g z R h Q q => by
  obtain ⟨d, h1, h⟩ := bind_some h
  obtain ⟨x, h2, h3⟩ := bind_some h
  rw [asB_some h2] at h1
  refine ha F α H H1 σ g _ R h1 _ fun v H2 Ha e2 ea xa da => ⟨x, da.bl_eq, ?_⟩
  cases x with
  | true => exact hb F α Ha H2 σ g z (R.grow e2 ea xa) h3 _ fun v H4 Hc e4 ec xc dc => q v H4 Hc (e2.trans e4) ec (xa.trans e2 xc) dc
  | false => cases h3; exact q _ H2 Ha e2 ea xa (.bl _)
theorem sp_or (ha : SimP K FL T ta pa) (hb : SimP K FL T tb pb) : SimP K FL T (tOrV ta tb) (pOr pa pb) := fun F α H H1 σ g z R h Q q => by
  obtain ⟨d, h1, h⟩ := bind_some h
  obtain ⟨x, h2, h3⟩ := bind_some h
  rw [asB_some h2] at h1
  refine ha F α H H1 σ g _ R h1 _ fun v H2 Ha e2 ea xa da => ⟨x, da.bl_eq, ?_⟩
  cases x with
  | false => exact hb F α Ha H2 σ g z (R.grow e2 ea xa) h3 _ fun v H4 Hc e4 ec xc dc => q v H4 Hc (e2.trans e4) ec (xa.trans e2 xc) dc
  | true => cases h3; exact q _ H2 Ha e2 ea xa (.bl _)
theorem sp_not (ha : SimP K FL T ta pa) : SimP K FL T (tNotV ta) (pNot pa) := fun F α H H1 σ g z R h Q q => by
  obtain ⟨d, h1, h⟩ := bind_some h
  obtain ⟨x, h2, h3⟩ := bind_some h
  rw [asB_some h2] at h1
  cases h3
  exact ha F α H H1 σ g _ R h1 _ fun v H2 Ha e2 ea xa da => ⟨x, da.bl_eq, q _ H2 Ha e2 ea xa (.bl _)⟩
def pIf (c : PB) (a b : PM) : PM := fun g => (c g).bind fun x => if x = true then a g else b g
theorem sp_if (hc : SimPB K FL T tt qa) (ha : SimP K FL T ta pa) (hb : SimP K FL T tb pb) : SimP K FL T (tIf tt ta tb) (pIf qa pa pb) := fun F α H H1 σ g z R h Q q => by
  obtain ⟨x, h1, h2⟩ := bind_some h
  refine hc F α H H1 σ g x R h1 _ fun H2 e2 => ?_
  cases x with
  | true => exact ha F α H H2 σ g z (R.same e2) h2 _ fun v H4 Hc e4 ec xc dc => q v H4 Hc (e2.trans e4) ec ((Ext.refl H H1).trans e2 xc) dc
  | false => exact hb F α H H2 σ g z (R.same e2) h2 _ fun v H4 Hc e4 ec xc dc => q v H4 Hc (e2.trans e4) ec ((Ext.refl H H1).trans e2 xc) dc
/-- a < b < c -/
def pChain (f f' : PyData → PyData → Option PyData) (a b c : PM) : PM := fun g => (a g).bind fun d => (b g).bind fun e => (f d e).bind fun z => (asB z).bind fun x => if x = true then (c g).bind fun y => f' e y else some (.bool false)
end
end EV

/-! ### EV: places, fields, walks, comprehensions (own work) -/
namespace EV
open PySem PySem.Spec PyProof.Rows L2 Evl L2H LamX LR
section
variable {K : PySem.W.Frag} {FL : Fl} {T : TbS} {ta tb tc te : TE} {tt tu : TT} {pa pb pc : PM} {qa qb : PB} {tA tr : TA} {ps pr : PMs}
theorem sp_chain {r r' : R2} {f f' : PyData → PyData → Option PyData} (hf : OpD K r f) (hf' : OpD K r' f') (ha : SimP K FL T ta pa) (hb : SimP K FL T tb pb) (hc : SimP K FL T tc pc) : SimP K FL T (tChain r r' ta tb tc) (pChain f f' pa pb pc) := fun F α H H1 σ g z R h Q q => by
  obtain ⟨d, h1, h⟩ := bind_some h
  obtain ⟨e, h2, h⟩ := bind_some h
  obtain ⟨y, h3, h⟩ := bind_some h
  obtain ⟨x, h4, h5⟩ := bind_some h
  rw [asB_some h4] at h3
  refine ha F α H H1 σ g d R h1 _ fun v H2 Ha e2 ea xa da => hb F α Ha H2 σ g e (R.grow e2 ea xa) h2 _ fun u H3 Hb e3 eb xb db => ?_
  refine hf d e _ h3 Hb Hb v u (Ex.refl _) (Dt.ex xb.ex da) db H3 eb _ fun w H4 Hc e4 ec xc dc => ⟨x, dc.bl_eq, ?_⟩
  have xx := (xa.trans e2 xb).trans (e2.trans e3) xc
  cases x with
  | true =>
    obtain ⟨y', h6, h7⟩ := bind_some h5
    refine hc F α Hc H4 σ g y' (((R.grow e2 ea xa).grow e3 eb xb).grow e4 ec xc) h6 _ fun w2 H5 Hd e5 ed xd dd => ?_
    exact hf' e y' z h7 Hd Hd u w2 (Ex.refl _) (Dt.ex (xc.ex.trans xd.ex) db) dd H5 ed Q fun v6 H6 He e6 ee xe de => q v6 H6 He ((((e2.trans e3).trans e4).trans e5).trans e6) ee ((xx.trans ((e2.trans e3).trans e4) xd).trans (((e2.trans e3).trans e4).trans e5) xe) de
  | false =>
    cases h5
    exact q _ H4 Hc ((e2.trans e3).trans e4) ec xx (.bl _)
/-! slices -/
abbrev PO := Sg → Option (Option Int)
def SimO (K : PySem.W.Frag) (FL : Fl) (T : TbS) (to : TO) (p : PO) : Prop := ∀ (F : Fr) (α : Al) (H H1 : Hp) (σ : L2.St) (g : Sg) (o : Option Int), Rel K FL T F α H H1 σ g → p g = some o → ∀ Q : Option Int → Hp → Prop, (∀ H2, Ex H1 H2 → Q o H2) → to σ H1 Q
def asI (d : PyData) : Option Int := match d with
  | .int i => some i
  | _ => none
theorem asI_some {d : PyData} {i : Int} (h : asI d = some i) : d = .int i := by
  cases d <;> simp [asI] at h
  rw [h]
def oNone : PO := fun _ => some none
def oSome (p : PM) : PO := fun g => (p g).bind fun d => (asI d).bind fun i => some (some i)
theorem so_none : SimO K FL T tNoPart oNone := fun F α H H1 σ g o R h Q q => by
  cases h
  exact q H1 (Ex.refl _)
theorem so_some (ha : SimP K FL T ta pa) : SimO K FL T (tPart ta) (oSome pa) := fun F α H H1 σ g o R h Q q => by
  obtain ⟨d, h1, h⟩ := bind_some h
  obtain ⟨i, h2, h3⟩ := bind_some h
  cases h3
  rw [asI_some h2] at h1
  exact ha F α H H1 σ g _ R h1 _ fun v H2 _ e2 _ _ dv => ⟨i, dv.int_eq, q H2 e2⟩
def slD (d : PyData) (lo hi : Option Int) : Option PyData := match d with
  | .str z => if z.length ≤ 100000 then some (.str (cutS z lo hi)) else none
  | .list ds => some (.list (cutD ds lo hi))
  | .tuple ds => some (.tuple (cutD ds lo hi))
  | _ => none
theorem sl_core {Ha H4 : Hp} {v : V} {d z : PyData} {x y : Option Int} {Q : VK} (da : Dt K Ha v d) (h : slD d x y = some z) (e : Ex Ha H4) (q : KD K Ha H4 z Q) : rSlU K v x y H4 Q := by
  cases d with
  | str s =>
    obtain ⟨hz, rfl⟩ := ite_some (show (if s.length ≤ 100000 then some (PyData.str (cutS s x y)) else none) = some z from h)
    exact ed_slS (K := K) (σ := []) (H := Ha) (ta := tC v) (tl := fun _ H Q => Q x H) (th := fun _ H Q => Q y H) (ed_c da) (fun H1 e Q q => q H1 (Ex.refl _)) (fun H1 e Q q => q H1 (Ex.refl _)) hz H4 e Q q
  | list ds =>
    have h5 : some (PyData.list (cutD ds x y)) = some z := h
    cases h5
    exact ed_slL (K := K) (σ := []) (H := Ha) (ta := tC v) (tl := fun _ H Q => Q x H) (th := fun _ H Q => Q y H) (ed_c da) (fun H1 e Q q => q H1 (Ex.refl _)) (fun H1 e Q q => q H1 (Ex.refl _)) H4 e Q q
  | tuple ds =>
    have h5 : some (PyData.tuple (cutD ds x y)) = some z := h
    cases h5
    exact ed_slT (K := K) (σ := []) (H := Ha) (ta := tC v) (tl := fun _ H Q => Q x H) (th := fun _ H Q => Q y H) (ed_c da) (fun H1 e Q q => q H1 (Ex.refl _)) (fun H1 e Q q => q H1 (Ex.refl _)) H4 e Q q
  | none => cases h
  | bool b => cases h
  | int i => cases h
  | dict kv => cases h
def pSl (a : PM) (l h : PO) : PM := fun g => (a g).bind fun d => (l g).bind fun x => (h g).bind fun y => slD d x y
theorem sp_sl {tl th : TO} {pl ph : PO} (ha : SimP K FL T ta pa) (hl : SimO K FL T tl pl) (hh : SimO K FL T th ph) : SimP K FL T (tSl (rSlU K) ta tl th) (pSl pa pl ph) := fun F α H H1 σ g z R h Q q => by
  obtain ⟨d, h1, h⟩ := bind_some h
  obtain ⟨x, h2, h⟩ := bind_some h
  obtain ⟨y, h3, h4⟩ := bind_some h
  refine ha F α H H1 σ g d R h1 _ fun v H2 Ha e2 ea xa da => hl F α Ha H2 σ g x (R.grow e2 ea xa) h2 _ fun H3 e3 => hh F α Ha H3 σ g y ((R.grow e2 ea xa).same e3) h3 _ fun H4 e4 => ?_
  exact sl_core da h4 (ea.trans (e3.trans e4)) fun v2 H5 H' e5 e x5 dv => q _ _ _ ((e2.trans (e3.trans e4)).trans e5) e (xa.trans e2 ((Ext.refl Ha H2).trans (e3.trans e4) x5)) dv
/-! ### calls of pure defs -/
theorem sp_call {n : Nat} {R' : List PyData → PyData → Prop} {E : XK} {f : List PyData → Option PyData} (hf : ∀ ds z, f ds = some z → R' ds z ∧ ds.length = n) (ha : SimPs K FL T tA ps) : SimP K FL T (tCall (spR K n R') [] E tA) (pCB f ps) := fun F α H H1 σ g z R h Q q => by
  obtain ⟨ds, h1, h2⟩ := bind_some h
  refine ha F α H H1 σ g ds R h1 _ fun vs H2 Ha e2 ea xa da => ?_
  show spR K n R' (vs ++ []) H2 Q E
  rw [List.append_nil]
  exact ⟨Ha, ds, z, ea, da, (hf ds z h2).2, (hf ds z h2).1, fun v H3 Hb e3 eb xb db => q v H3 Hb (e2.trans e3) eb (xa.trans e2 xb) db⟩
/-! ### places -/
abbrev WM := Sg → Option Owner
def SimW (K : PySem.W.Frag) (FL : Fl) (T : TbS) (te : TE) (w : WM) : Prop := ∀ (F : Fr) (α : Al) (H H1 : Hp) (σ : L2.St) (g : Sg) (o : Owner), Rel K FL T F α H H1 σ g → w g = some o → ∃ a, α o = some a ∧ ∀ Q : VK, Q (.ref a) H1 → te σ H1 Q
def wVal (v : Val) (o : Owner) : Option Owner := match v with
  | .dat _ => none
  | .obj i => some (.ob i)
  | _ => some o
theorem VR.at_ {α : Al} {H H1 : Hp} {o o' : Owner} {u : V} {v : Val} (h : VR K α H H1 o u v) (hw : wVal v o = some o') : ∃ a, u = .ref a ∧ α o' = some a := by
  cases v with
  | dat d => cases hw
  | obj i => cases hw; exact h
  | ownL ds => cases hw; obtain ⟨a, h1, h2, _⟩ := h; exact ⟨a, h1, h2⟩
  | ownD ds => cases hw; obtain ⟨a, h1, h2, _⟩ := h; exact ⟨a, h1, h2⟩
def wVar (j : Nat) : WM := fun g => match g.sl[j]? with
  | some (some v) => wVal v (.slot j)
  | _ => none
theorem sw_var {j : Nat} : SimW K FL T (tVar j) (wVar j) := fun F α H H1 σ g o R h => by
  unfold wVar at h
  split at h
  · rename_i v hv
    obtain ⟨u, h1, h2⟩ := R.slt j v hv
    obtain ⟨a, rfl, h3⟩ := h2.at_ h
    exact ⟨a, h3, fun Q q => ⟨_, h1, q⟩⟩
  · cases h
/-- the field f of the object at o -/
def fldAt (FL : Fl) (g : Sg) (o : Owner) (f : Str) : Option (Nat × Val) := match o with
  | .ob i => match g.st[i]? with
    | some (.ins C fs) => if f ∈ FL C then (fs.lookup f).map fun v => (i, v) else none
    | _ => none
  | _ => none
theorem Rel.fldAt {F : Fr} {α : Al} {H H1 : Hp} {σ : L2.St} {g : Sg} {o : Owner} {f : Str} {i : Nat} {v : Val} {a : Addr} (R : Rel K FL T F α H H1 σ g) (h : EV.fldAt FL g o f = some (i, v)) (ha : α o = some a) : o = .ob i ∧ ∃ C dx us u, H1 a = some (.ins (gaE K C) dx us) ∧ Cls K (gaE K C) ∧ NoAttr K (gaE K C) f ∧ us.lookup f = some u ∧ VR K α H H1 (.fld i f) u v := by
  unfold EV.fldAt at h
  split at h
  · rename_i i'
    split at h
    · rename_i C fs hs
      split at h
      · rename_i hf
        obtain ⟨v', h1, h2⟩ := Option.map_eq_some_iff.mp h
        cases h2
        obtain ⟨a', k1, k2⟩ := R.sto _ _ hs
        rw [ha] at k1
        cases k1
        obtain ⟨c, dx, us, k3, k4⟩ := k2
        obtain ⟨u, k5, k6⟩ := k4.2 f v h1
        exact ⟨rfl, C, dx, us, u, k3, c.cls, c.no f hf, k5, k6⟩
      · cases h
    · cases h
  · cases h
def wFld (FL : Fl) (w : WM) (f : Str) : WM := fun g => (w g).bind fun o => (EV.fldAt FL g o f).bind fun p => wVal p.2 (.fld p.1 f)
theorem sw_fld {w : WM} {f : Str} (h : SimW K FL T te w) : SimW K FL T (tFld K te f) (wFld FL w f) := fun F α H H1 σ g o R hw => by
  obtain ⟨o1, h1, h2⟩ := bind_some hw
  obtain ⟨⟨i, v⟩, h3, h4⟩ := bind_some h2
  obtain ⟨a, k1, k2⟩ := h F α H H1 σ g o1 R h1
  obtain ⟨rfl, C, dx, us, u, k3, k4, k5, k6, k7⟩ := R.fldAt h3 k1
  obtain ⟨b, rfl, k8⟩ := k7.at_ h4
  exact ⟨b, k8, fun Q q => k2 _ ⟨a, _, dx, us, _, rfl, k3, k4, k5, k6, q⟩⟩
def pFld (FL : Fl) (w : WM) (f : Str) : PM := fun g => (w g).bind fun o => (EV.fldAt FL g o f).bind fun p => match p.2 with
  | .dat d => some d
  | _ => none
theorem sp_fld {w : WM} {f : Str} (h : SimW K FL T te w) : SimP K FL T (tFld K te f) (pFld FL w f) := fun F α H H1 σ g d R hw Q q => by
  obtain ⟨o1, h1, h2⟩ := bind_some hw
  obtain ⟨⟨i, v⟩, h3, h4⟩ := bind_some h2
  obtain ⟨a, k1, k2⟩ := h F α H H1 σ g o1 R h1
  obtain ⟨rfl, C, dx, us, u, k3, k4, k5, k6, k7⟩ := R.fldAt h3 k1
  cases v with
  | dat d' =>
    cases h4
    exact k2 _ ⟨a, _, dx, us, _, rfl, k3, k4, k5, k6, KD.now q R.ex k7⟩
  | obj i => cases h4
  | ownL ds => cases h4
  | ownD ds => cases h4
/-- the content of a place -/
def contAt (g : Sg) (o : Owner) : Option Val := match o with
  | .ob i => match g.st[i]? with
    | some (.box v) => some v
    | _ => none
  | .slot j => match g.sl[j]? with
    | some (some v) => some v
    | _ => none
  | .fld i f => match g.st[i]? with
    | some (.ins _ fs) => fs.lookup f
    | _ => none
def lstAt (g : Sg) (o : Owner) : Option (List PyData) := (contAt g o).bind fun v => match v with
  | .ownL ds => some ds
  | _ => none
def dicAt (g : Sg) (o : Owner) : Option (List (Key × PyData)) := (contAt g o).bind fun v => match v with
  | .ownD ds => some ds
  | _ => none
theorem lstAt_cont {g : Sg} {o : Owner} {ds : List PyData} (h : lstAt g o = some ds) : contAt g o = some (.ownL ds) := by
  obtain ⟨v, h1, h2⟩ := bind_some h
  cases v <;> cases h2
  exact h1
theorem dicAt_cont {g : Sg} {o : Owner} {ds : List (Key × PyData)} (h : dicAt g o = some ds) : contAt g o = some (.ownD ds) := by
  obtain ⟨v, h1, h2⟩ := bind_some h
  cases v <;> cases h2
  exact h1
theorem Rel.cont {F : Fr} {α : Al} {H H1 : Hp} {σ : L2.St} {g : Sg} {o : Owner} {v : Val} {a : Addr} (R : Rel K FL T F α H H1 σ g) (h : contAt g o = some v) (hv : (∃ ds, v = .ownL ds) ∨ ∃ ds, v = .ownD ds) (ha : α o = some a) : CoR K H H1 a v := by
  unfold contAt at h
  split at h
  · split at h
    · rename_i hs
      cases h
      obtain ⟨a', k1, k2⟩ := R.sto _ _ hs
      rw [ha] at k1
      cases k1
      exact k2
    · cases h
  · split at h
    · rename_i hs
      cases h
      obtain ⟨u, k1, k2⟩ := R.slt _ _ hs
      rcases hv with ⟨ds, rfl⟩ | ⟨ds, rfl⟩
      · obtain ⟨b, _, k3, k4⟩ := k2
        rw [ha] at k3
        cases k3
        exact k4
      · obtain ⟨b, _, k3, k4⟩ := k2
        rw [ha] at k3
        cases k3
        exact k4
    · cases h
  · split at h
    · rename_i hs
      obtain ⟨a', k1, _, dx, us, k2, k3⟩ := R.sto _ _ hs
      obtain ⟨u, k4, k5⟩ := k3.2 _ _ h
      rcases hv with ⟨ds, rfl⟩ | ⟨ds, rfl⟩
      · obtain ⟨b, _, k3, k4⟩ := k5
        rw [ha] at k3
        cases k3
        exact k4
      · obtain ⟨b, _, k3, k4⟩ := k5
        rw [ha] at k3
        cases k3
        exact k4
    · cases h
theorem Rel.lst {F : Fr} {α : Al} {H H1 : Hp} {σ : L2.St} {g : Sg} {o : Owner} {ds : List PyData} {a : Addr} (R : Rel K FL T F α H H1 σ g) (h : lstAt g o = some ds) (ha : α o = some a) : ∃ vs, H1 a = some (.lst vs) ∧ DtAll K H vs ds := R.cont (lstAt_cont h) (.inl ⟨_, rfl⟩) ha
theorem Rel.dic {F : Fr} {α : Al} {H H1 : Hp} {σ : L2.St} {g : Sg} {o : Owner} {ds : List (Key × PyData)} {a : Addr} (R : Rel K FL T F α H H1 σ g) (h : dicAt g o = some ds) (ha : α o = some a) : ∃ ws, H1 a = some (.dK ws) ∧ KvR K H ws ds := R.cont (dicAt_cont h) (.inr ⟨_, rfl⟩) ha
/-! reads of a place -/
def pLenL (w : WM) : PM := fun g => (w g).bind fun o => (lstAt g o).bind fun ds => some (.int ds.length)
theorem sp_lenL {w : WM} (h : SimW K FL T te w) : SimP K FL T (tCB (lenR K) (tCons te tNil)) (pLenL w) := fun F α H H1 σ g d R hw Q q => by
  obtain ⟨o, h1, h2⟩ := bind_some hw
  obtain ⟨ds, h3, h4⟩ := bind_some h2
  cases h4
  obtain ⟨a, k1, k2⟩ := h F α H H1 σ g o R h1
  obtain ⟨vs, k3, k4⟩ := R.lst h3 k1
  refine k2 _ ⟨.ref a, ds.length, rfl, .inl ⟨vs, sq_of k3, k4.length.symm⟩, KD.now q R.ex (.int _)⟩
/-! ### walks -/
abbrev IM := Sg → Option (List PyData)
/-- what an item is: the heap has grown at most -/
def YI (K : PySem.W.Frag) (ds : List PyData) (Hi : Hp) : Nat → Hp → V → Hp → Prop := fun i H3 v H4 => Ex H3 H4 ∧ ∃ d, ds[i]? = some d ∧ ∀ Hb, Ex Hi Hb → Ex Hb H3 → ∃ Hc, Ext Hb H3 Hc ∧ Ex Hc H4 ∧ Dt K Hc v d
/-- what is walked is data -/
def SimI (K : PySem.W.Frag) (FL : Fl) (T : TbS) (wi : TI) (p : IM) : Prop := ∀ (F : Fr) (α : Al) (H H1 : Hp) (σ : L2.St) (g : Sg) (ds : List PyData), Rel K FL T F α H H1 σ g → p g = some ds → ∀ R : It → Hp → Prop, (∀ J (G : Hp → Prop) H2 H', Ex H1 H2 → Ex H' H2 → Ext H H1 H' → (∀ H3, Ex H' H3 → G H3) → Walk J ds.length G (YI K ds H') → R J H2) → wi σ H1 R
/-- what is walked is data, or stands while the heap but grows -/
def SimIo (K : PySem.W.Frag) (FL : Fl) (T : TbS) (wi : TI) (p : IM) : Prop := ∀ (F : Fr) (α : Al) (H H1 : Hp) (σ : L2.St) (g : Sg) (ds : List PyData), Rel K FL T F α H H1 σ g → p g = some ds → ∀ R : It → Hp → Prop, (∀ J (G : Hp → Prop) H2 H', Ex H1 H2 → Ex H' H2 → Ext H H1 H' → (∀ H3, Ex H2 H3 → G H3) → Walk J ds.length G (YI K ds H') → R J H2) → wi σ H1 R
theorem SimI.o {wi : TI} {p : IM} (h : SimI K FL T wi p) : SimIo K FL T wi p := fun F α H H1 σ g ds R hp Rk k => h F α H H1 σ g ds R hp Rk fun J G H2 H' e2 e x hG w => k J G H2 H' e2 e x (fun H3 e3 => hG H3 (e.trans e3)) w
theorem yi_at {ds : List PyData} {Hi H3 : Hp} {i : Nat} {v : V} {d : PyData} (h : ds[i]? = some d) (hd : Dt K Hi v d) : YI K ds Hi i H3 v H3 := ⟨Ex.refl _, d, h, fun Hb e1 e2 => ⟨Hb, Ext.refl _ _, e2, Dt.ex e1 hd⟩⟩
/-- a list, a tuple, a text -/
def iData (p : PM) : IM := fun g => (p g).bind fun d => match d with
  | .list ds => some ds
  | .tuple ds => some ds
  | .str z => some (z.cps.toList.map fun c => .str ⟨#[c]⟩)
  | _ => none
theorem si_data (ha : SimP K FL T ta pa) : SimI K FL T (iU K ta) (iData pa) := fun F α H H1 σ g ds R h Rk k => by
  obtain ⟨d, h1, h2⟩ := bind_some h
  refine ha F α H H1 σ g d R h1 _ fun v H2 H' e2 e x dv => ?_
  cases d with
  | list es =>
    cases h2
    obtain ⟨a, xs, rfl, ha, ra⟩ := dv.lst_eq
    refine .inl ⟨a, rfl, ⟨xs, sq_of (e a _ ha)⟩, k _ (fun H3 => Ex H' H3) H2 H' e2 e x (fun H3 e3 => e3) ?_⟩
    rw [← ra.length]
    exact (walk_list (K := K) (a := a) (xs := xs)).mono (fun H3 e3 => sq_of (e3 a _ ha)) fun i H3 y H4 hi e3 z => by
      obtain ⟨d, d1, d2⟩ := ra.get' z.2
      obtain ⟨rfl, _⟩ := z
      exact yi_at d1 d2
  | tuple es =>
    cases h2
    obtain ⟨a, xs, rfl, ha, ra⟩ := dv.tup_eq
    refine .inr (.inl ⟨a, rfl, ⟨xs, ex_t e ha⟩, k _ (fun H3 => Ex H' H3) H2 H' e2 e x (fun H3 e3 => e3) ?_⟩)
    rw [← ra.length]
    exact (walk_tup (K := K) (a := a) (xs := xs)).mono (fun H3 e3 => ex_t e3 ha) fun i H3 y H4 hi e3 z => by
      obtain ⟨d, d1, d2⟩ := ra.get' z.2
      obtain ⟨rfl, _⟩ := z
      exact yi_at d1 d2
  | str z =>
    cases h2
    refine .inr (.inr ⟨z, dv.str_eq, k _ (fun _ => True) H2 H' e2 e x (fun _ _ => trivial) ?_⟩)
    have e1 : (z.cps.toList.map fun c => PyData.str ⟨#[c]⟩).length = z.cps.size := by simp
    rw [e1]
    exact walk_str.mono (fun _ _ => trivial) fun i H3 y H4 hi _ z' => by
      obtain ⟨rfl, c, hc, rfl⟩ := z'
      have hc' : z.cps.toList[i]? = some c := by simpa using hc
      exact yi_at (d := .str ⟨#[c]⟩) (by rw [List.getElem?_map, hc']; rfl) (.str _)
  | none => cases h2
  | bool b => cases h2
  | int i => cases h2
  | dict kv => cases h2
/-- a list of one's own, while the heap but grows -/
def iOwn (w : WM) : IM := fun g => (w g).bind fun o => lstAt g o
theorem si_own {w : WM} (h : SimW K FL T te w) : SimIo K FL T (iU K te) (iOwn w) := fun F α H H1 σ g ds R hp Rk k => by
  obtain ⟨o, h1, h3⟩ := bind_some hp
  obtain ⟨a, k1, k2⟩ := h F α H H1 σ g o R h1
  obtain ⟨vs, k3, k4⟩ := R.lst h3 k1
  refine k2 _ (.inl ⟨a, rfl, ⟨vs, sq_of k3⟩, k _ (fun H3 => Ex H1 H3) H1 H (Ex.refl _) R.ex (Ext.refl _ _) (fun H3 e3 => e3) ?_⟩)
  rw [← k4.length]
  exact (walk_list (K := K) (a := a) (xs := vs)).mono (fun H3 e3 => sq_of (e3 a _ k3)) fun i H3 y H4 hi e3 z => by
    obtain ⟨d, d1, d2⟩ := k4.get' z.2
    obtain ⟨rfl, _⟩ := z
    exact yi_at d1 d2
def rngL (n : Int) : List PyData := (List.range n.toNat).map fun (i : Nat) => .int (i : Int)
def iRg (p : PMs) : IM := fun g => (p g).bind fun ds => match ds with
  | [.int n] => if n < 1000000 ∧ -1000000 < n then some (rngL n) else none
  | _ => none
theorem si_range (ha : SimPs K FL T tA ps) : SimI K FL T (iRng1 tA) (iRg ps) := fun F α H H1 σ g out R h Rk k => by
  obtain ⟨ds, h1, h2⟩ := bind_some h
  split at h2
  · rename_i n
    obtain ⟨hn, rfl⟩ := ite_some h2
    refine ha F α H H1 σ g _ R h1 _ fun vs H2 H' e2 e x dv => ⟨n, by cases dv with | cons a b => cases b; rw [a.int_eq], by omega, by omega, k _ (fun _ => True) H2 H' e2 e x (fun _ _ => trivial) ?_⟩
    have e1 : (rngL n).length = n.toNat := by simp [rngL]
    rw [e1]
    exact (walk_range (lo := 0) (n := n.toNat)).mono (fun _ _ => trivial) fun i H3 y H4 hi _ z => by
      obtain ⟨rfl, rfl⟩ := z
      refine yi_at (d := .int i) ?_ ?_
      · unfold rngL
        rw [List.getElem?_map, List.getElem?_range hi]
        rfl
      · show Dt K _ (.int (0 + (i : Int))) (.int i)
        rw [Int.zero_add]
        exact .int _
  · cases h2
def rngL2 (m n : Int) : List PyData := (List.range (n - m).toNat).map fun (i : Nat) => .int (m + (i : Int))
def iRg2 (p : PMs) : IM := fun g => (p g).bind fun ds => match ds with
  | [.int m, .int n] => if n < 1000000 ∧ -1000000 < n ∧ m < 1000000 ∧ -1000000 < m then some (rngL2 m n) else none
  | _ => none
theorem si_range2 (ha : SimPs K FL T tA ps) : SimI K FL T (iRng2 tA) (iRg2 ps) := fun F α H H1 σ g out R h Rk k => by
  obtain ⟨ds, h1, h2⟩ := bind_some h
  split at h2
  · rename_i m n
    obtain ⟨hn, rfl⟩ := ite_some h2
    refine ha F α H H1 σ g _ R h1 _ fun vs H2 H' e2 e x dv => ⟨m, n, by cases dv with | cons a b => cases b with | cons c f => cases f; rw [a.int_eq, c.int_eq], by omega, k _ (fun _ => True) H2 H' e2 e x (fun _ _ => trivial) ?_⟩
    have e1 : (rngL2 m n).length = (n - m).toNat := by simp [rngL2]
    rw [e1]
    exact (walk_range (lo := m) (n := (n - m).toNat)).mono (fun _ _ => trivial) fun i H3 y H4 hi _ z => by
      obtain ⟨rfl, rfl⟩ := z
      refine yi_at (d := .int (m + i)) ?_ (.int _)
      unfold rngL2
      rw [List.getElem?_map, List.getElem?_range hi]
      rfl
  · cases h2
/-! ### targets -/
abbrev GM := PyData → Sg → Option Sg
def SimG (K : PySem.W.Frag) (FL : Fl) (T : TbS) (tg : TG) (gm : GM) (vs : List Nat) : Prop := ∀ (F : Fr) (α : Al) (H H1 : Hp) (σ : L2.St) (g g' : Sg) (v : V) (d : PyData), Rel K FL T F α H H1 σ g → Dt K H v d → gm d g = some g' → ∃ σ', Rel K FL T F α H H1 σ' g' ∧ (∀ ws, (∀ x ∈ vs, x ∈ ws) → L2.wipe σ' ws = L2.wipe σ ws) ∧ ∀ Q : L2.St → Hp → Prop, Q σ' H1 → tg v σ H1 Q
theorem wipe_set {σ : L2.St} {j : Nat} {x : Option V} : ∀ {ws : List Nat}, j ∈ ws → L2.wipe (σ.set j x) ws = L2.wipe σ ws := by
  have get : ∀ (ws : List Nat) (τ : L2.St) (k : Nat), (L2.wipe τ ws)[k]? = if k ∈ ws then (τ[k]?).map (fun _ => none) else τ[k]? := by
    intro ws
    induction ws with
    | nil => intro τ k; simp [L2.wipe]
    | cons v r ih =>
      intro τ k
      show ((L2.wipe τ r).set v none)[k]? = _
      rw [List.getElem?_set]
      have hl : (L2.wipe τ r).length = τ.length := L2.wipe_length τ r
      by_cases c : v = k
      · subst c
        rw [if_pos rfl, if_pos List.mem_cons_self, hl]
        by_cases c2 : v < τ.length
        · rw [if_pos c2, List.getElem?_eq_getElem c2]
          rfl
        · rw [if_neg c2, List.getElem?_eq_none (Nat.le_of_not_lt c2)]
          rfl
      · rw [if_neg c, ih]
        have e : (k ∈ v :: r) = (k ∈ r) := by simp [Ne.symm c]
        simp only [e]
  intro ws hj
  apply List.ext_getElem?
  intro k
  rw [get, get, List.getElem?_set]
  by_cases c : j = k
  · subst c
    rw [if_pos rfl, if_pos hj, if_pos hj]
    by_cases c2 : j < σ.length
    · rw [if_pos c2, List.getElem?_eq_getElem c2]
      rfl
    · rw [if_neg c2, List.getElem?_eq_none (Nat.le_of_not_lt c2)]
  · rw [if_neg c]
def gmName (j : Nat) : GM := fun d g => some (g.set j (.dat d))
theorem sg_name {j : Nat} : SimG K FL T (gName j) (gmName j) [j] := fun F α H H1 σ g g' v d R hd h => by
  cases h
  exact ⟨σ.set j (some v), R.set j hd, fun ws hw => wipe_set (hw j List.mem_cons_self), fun Q q => q⟩
abbrev GMs := List PyData → Sg → Option Sg
def SimGs (K : PySem.W.Frag) (FL : Fl) (T : TbS) (tg : TGs) (gm : GMs) (vs : List Nat) : Prop := ∀ (F : Fr) (α : Al) (H H1 : Hp) (σ : L2.St) (g g' : Sg) (us : List V) (ds : List PyData), Rel K FL T F α H H1 σ g → DtAll K H us ds → gm ds g = some g' → ∃ σ', Rel K FL T F α H H1 σ' g' ∧ (∀ ws, (∀ x ∈ vs, x ∈ ws) → L2.wipe σ' ws = L2.wipe σ ws) ∧ ∀ Q : L2.St → Hp → Prop, Q σ' H1 → tg us σ H1 Q
def gmNil : GMs := fun ds g => match ds with
  | [] => some g
  | _ => none
def gmCons (a : GM) (r : GMs) : GMs := fun ds g => match ds with
  | d :: es => (a d g).bind fun g1 => r es g1
  | [] => none
theorem sgs_nil : SimGs K FL T gNil gmNil [] := fun F α H H1 σ g g' us ds R hd h => by
  cases ds with
  | nil => cases h; cases hd; exact ⟨σ, R, fun _ _ => rfl, fun Q q => ⟨rfl, q⟩⟩
  | cons d es => cases h
theorem sgs_cons {tg : TG} {gm : GM} {vs : List Nat} {tgs : TGs} {gms : GMs} {vr : List Nat} (h1 : SimG K FL T tg gm vs) (h2 : SimGs K FL T tgs gms vr) : SimGs K FL T (gCons tg tgs) (gmCons gm gms) (vs ++ vr) := fun F α H H1 σ g g' us ds R hd h => by
  cases hd with
  | nil => cases h
  | @cons u us d ds a b =>
    obtain ⟨g1, k1, k2⟩ := bind_some (show (gm d g).bind (fun g1 => gms ds g1) = some g' from h)
    obtain ⟨σ1, r1, w1, q1⟩ := h1 F α H H1 σ g g1 u d R a k1
    obtain ⟨σ2, r2, w2, q2⟩ := h2 F α H H1 σ1 g1 g' us ds r1 b k2
    exact ⟨σ2, r2, fun ws hw => (w2 ws fun x hx => hw x (List.mem_append_right _ hx)).trans (w1 ws fun x hx => hw x (List.mem_append_left _ hx)), fun Q q => ⟨u, us, rfl, q1 _ (q2 Q q)⟩⟩
def gmTup (n : Nat) (r : GMs) : GM := fun d g => match d with
  | .tuple ds => if ds.length = n then r ds g else none
  | _ => none
theorem sg_tup {n : Nat} {tgs : TGs} {gms : GMs} {vr : List Nat} (h : SimGs K FL T tgs gms vr) : SimG K FL T (gTup K n tgs) (gmTup n gms) vr := fun F α H H1 σ g g' v d R hd hm => by
  cases d with
  | tuple ds =>
    have hm : (if ds.length = n then gms ds g else none) = some g' := hm
    split at hm
    · rename_i hn
      obtain ⟨a, xs, rfl, ha, ra⟩ := hd.tup_eq
      obtain ⟨σ', r, w, q⟩ := h F α H H1 σ g g' xs ds R ra hm
      exact ⟨σ', r, w, fun Q k => ⟨a, xs, rfl, ex_t R.ex ha, ra.length.trans hn, q Q k⟩⟩
    · cases hm
  | none => cases hm
  | bool b => cases hm
  | int i => cases hm
  | str i => cases hm
  | list i => cases hm
  | dict kv => cases hm
/-! ### comprehensions -/
def Sg.wipe (g : Sg) : List Nat → Sg
  | [] => g
  | v :: vs => (g.wipe vs).clr v
theorem Rel.wipe {F : Fr} {α : Al} {H H1 : Hp} {σ : L2.St} {g : Sg} (R : Rel K FL T F α H H1 σ g) : ∀ vs : List Nat, Rel K FL T F α H H1 (L2.wipe σ vs) (g.wipe vs)
  | [] => R
  | v :: vs => (Rel.wipe R vs).clr v
def lcOne (gm : GM) (t : PB) (el : PM) (g : Sg) (d : PyData) : Option (Option PyData) := (gm d g).bind fun g1 => (t g1).bind fun b => if b = true then (el g1).map some else some none
def lcAll (gm : GM) (t : PB) (el : PM) (g : Sg) : List PyData → Option (List PyData)
  | [] => some []
  | d :: ds => (lcOne gm t el g d).bind fun o => (lcAll gm t el g ds).bind fun r => some (match o with | some z => z :: r | none => r)
theorem lcAll_get {gm : GM} {t : PB} {el : PM} {g : Sg} : ∀ {ds out : List PyData}, lcAll gm t el g ds = some out → (∀ (i : Nat) d, ds[i]? = some d → ∃ o, lcOne gm t el g d = some o) ∧ out = ds.filterMap fun d => (lcOne gm t el g d).join
  | [], out, h => by
    cases h
    exact ⟨fun i d h => by simp at h, rfl⟩
  | d :: ds, out, h => by
    obtain ⟨o, h1, h⟩ := bind_some h
    obtain ⟨r, h2, h3⟩ := bind_some h
    cases h3
    obtain ⟨a, b⟩ := lcAll_get h2
    refine ⟨fun i d' hd => ?_, ?_⟩
    · cases i with
      | zero => simp at hd; subst hd; exact ⟨o, h1⟩
      | succ i => exact a i d' (by simpa using hd)
    · rw [List.filterMap_cons, h1, b]
      cases o <;> rfl
def pTrue : PB := fun _ => some true
theorem sb_yes : SimPB K FL T tYes pTrue := fun F α H H1 σ g b R h Q q => by
  cases h
  exact q H1 (Ex.refl _)
def pLc (it : IM) (gm : GM) (t : PB) (el : PM) (vs : List Nat) : PM := fun g => (it g).bind fun ds => if ds.length ≤ 50000 then (lcAll gm t el (g.wipe vs) ds).map .list else none
/-- a comprehension, its list new: at p -/
theorem lc_new {wi : TI} {tg : TG} {gm : GM} {it : IM} {vs : List Nat} (hi : SimIo K FL T wi it) (hg : SimG K FL T tg gm vs) (ht : SimPB K FL T tt qa) (he : SimP K FL T te pa)
    {F : Fr} {α : Al} {H H1 : Hp} {σ : L2.St} {g : Sg} {out ds : List PyData} (R : Rel K FL T F α H H1 σ g) (h1 : it g = some ds) (hl : ds.length ≤ 50000) (h3 : lcAll gm qa pa (g.wipe vs) ds = some out) (Q : VK)
    (q : ∀ p H2 H' xs, Ex H1 H2 → Ex H' H2 → Ext H H1 H' → H1 p = none → H' p = none → H2 p = some (.lst xs) → DtAll K H' xs out → Q (.ref p) H2) : tLc wi tg tt te vs σ H1 Q := by
  obtain ⟨all, ho⟩ := lcAll_get h3
  let els : Nat → Option PyData := fun i => (ds[i]?).bind fun d => (lcOne gm qa pa (g.wipe vs) d).join
  have ho' : out = (List.range ds.length).filterMap els := by rw [ho]; exact (filterMap_range ds _).symm
  refine hi F α H H1 σ g ds R h1 _ fun J G H2 Hb e2 eb xb hG w Dl hD => ?_
  have hDb : Hb Dl = none := fresh_back eb hD
  have hD1 : H1 Dl = none := fresh_back e2 hD
  refine lc_it (w.mono (G' := fun H3 => Ex H2 H3) (fun H3 e3 => hG H3 e3) fun _ _ _ _ _ _ y => y)
    (fun i Hr => ∃ Hl acc, Ex Hb Hl ∧ Ex Hl Hr ∧ Ex H2 Hr ∧ Ext H H1 Hl ∧ Hl Dl = none ∧ Hr Dl = some (.lst acc) ∧ DtAll K Hl acc ((List.range i).filterMap els) ∧ acc.length ≤ i) ?_ ?_ ?_ ?_
  · exact ⟨Hb, [], Ex.refl _, eb.trans (Ex.new hD), Ex.new hD, xb, hDb, upd_same, .nil, Nat.le_refl _⟩
  · rintro i Hr hi ⟨Hl, acc, a1, a2, a3, _⟩
    exact a3
  · rintro i x Hr H3 hi ⟨Hl, acc, a1, a2, a3, a4, a5, a6, a7, a8⟩ ⟨y1, d, y2, y3⟩
    obtain ⟨Hc, c1, c2, c3⟩ := y3 Hl a1 a2
    obtain ⟨o, ho1⟩ := all i d y2
    obtain ⟨g1, k1, k2⟩ := bind_some ho1
    obtain ⟨b, k3, k4⟩ := bind_some k2
    have e13 : Ex H1 H3 := (e2.trans a3).trans y1
    have xc : Ext H H1 Hc := a4.trans (e2.trans a3) c1
    have Rc : Rel K FL T F α Hc H3 σ g := R.grow e13 c2 xc
    obtain ⟨σ2, R2, w2, q2⟩ := hg F α Hc H3 (L2.wipe σ vs) (g.wipe vs) g1 x d (Rc.wipe vs) c3 k1
    refine q2 _ ⟨?_, ht F α Hc H3 σ2 g1 b R2 k3 _ fun H4 e4 => ?_⟩
    · rw [w2 vs fun _ h => h]
      have idem : ∀ (ws : List Nat) (τ : L2.St), (∀ v ∈ ws, v ∈ vs) → L2.wipe (L2.wipe τ ws) vs = L2.wipe τ vs := by
        intro ws
        induction ws with
        | nil => intro τ _; rfl
        | cons v r ih => intro τ hv; show L2.wipe ((L2.wipe τ r).set v none) vs = _; rw [wipe_set (hv v List.mem_cons_self), ih τ fun x hx => hv x (List.mem_cons_of_mem _ hx)]
      exact idem vs σ fun _ h => h
    · have n1 : Hc Dl = none := c1.off a5 a6
      have eli : els i = o := by
        show (ds[i]?).bind _ = _
        rw [y2]
        show (lcOne gm qa pa (g.wipe vs) d).join = o
        rw [ho1]
        rfl
      cases b with
      | false =>
        cases k4
        refine ⟨Hc, acc, a1.trans c1.ex, c2.trans e4, (a3.trans y1).trans e4, xc, n1, (y1.trans e4) Dl _ a6, ?_, Nat.le_succ_of_le a8⟩
        rw [List.range_succ, List.filterMap_append, List.filterMap_cons, eli]
        show DtAll K Hc acc (_ ++ [])
        rw [List.append_nil]
        exact DtAll.ex c1.ex a7
      | true =>
        obtain ⟨z, k5, k6⟩ := Option.map_eq_some_iff.mp (show (pa g1).map some = some o from k4)
        subst k6
        refine he F α Hc H4 σ2 g1 z (R2.same e4) k5 _ fun v H5 Hd e5 ed xd dv => ?_
        have n2 : Hd Dl = none := xd.off n1 ((y1.trans e4) Dl _ a6)
        refine ⟨acc, (((y1.trans e4).trans e5) Dl _ a6), sz_lt (by omega), Hd, acc ++ [v], (a1.trans c1.ex).trans xd.ex, ex_off ed n2, ?_, xc.trans (e13.trans e4) xd, n2, upd_same, ?_, ?_⟩
        · exact ex_off (((a3.trans y1).trans e4).trans e5) hD
        · rw [List.range_succ, List.filterMap_append, List.filterMap_cons, eli]
          exact (DtAll.ex (c1.ex.trans xd.ex) a7).append (.cons dv .nil)
        · rw [List.length_append]
          exact Nat.succ_le_succ a8
  · rintro Hr ⟨Hl, acc, a1, a2, a3, a4, a5, a6, a7, a8⟩
    refine q Dl Hr Hl acc (e2.trans a3) a2 a4 hD1 a5 a6 ?_
    rw [ho']
    exact a7
theorem ext_lay {H H1 H' H2 : Hp} {p : Addr} {xs : List V} (x : Ext H H1 H') (e : Ex H' H2) (h1 : H1 p = none) (h' : H' p = none) (h2 : H2 p = some (.lst xs)) : Ext H H1 (upd H' p (.lst xs)) ∧ Ex (upd H' p (.lst xs)) H2 := by
  refine ⟨⟨x.ex.trans (Ex.new h'), fun b o hb => ?_⟩, fun b o hb => ?_⟩
  · by_cases z : b = p
    · subst z
      rw [upd_same] at hb
      cases hb
      exact .inr ⟨h1, fun ps z => by cases z⟩
    · rw [upd_ne z] at hb
      exact x.fresh b o hb
  · by_cases z : b = p
    · subst z
      rw [upd_same] at hb
      cases hb
      exact h2
    · rw [upd_ne z] at hb
      exact e b o hb
theorem sp_lc {wi : TI} {tg : TG} {gm : GM} {it : IM} {vs ws : List Nat} (hi : SimIo K FL T wi it) (hg : SimG K FL T tg gm vs) (ht : SimPB K FL T tt qa) (he : SimP K FL T te pa) (hv : ws = vs := by rfl) : SimP K FL T (tLc wi tg tt te ws) (pLc it gm qa pa vs) := fun F α H H1 σ g z R h Q q => by
  subst hv
  obtain ⟨ds, h1, h2⟩ := bind_some h
  have h2 : (if ds.length ≤ 50000 then (lcAll gm qa pa (g.wipe ws) ds).map PyData.list else none) = some z := h2
  split at h2
  · rename_i hl
    obtain ⟨out, h3, rfl⟩ := Option.map_eq_some_iff.mp h2
    refine lc_new hi hg ht he R h1 hl h3 Q fun p H2 H' xs e2 e x n1 n2 h4 h5 => ?_
    obtain ⟨x1, e1⟩ := ext_lay x e n1 n2 h4
    exact q _ H2 _ e2 e1 x1 (.lst upd_same (DtAll.ex (Ex.new n2) h5))
  · cases h2
end
end EV

/-! ### EV: expressions that do something, calls, statements, defs (own work) -/
namespace EV
open PySem PySem.Spec PyProof.Rows L2 Evl L2H LamX LR
theorem tabs_keep {T : List (Addr × Str)} {H H' : Hp} (t : Tabs T H) (k : ∀ b u, H b = some u → ¬ PlainO u → H' b = some u) : Tabs T H' := fun p hp => by
  obtain ⟨ps, h1, h2, h3⟩ := t p hp
  refine ⟨ps, k _ _ h1 id, h2, fun pos cv hc => ?_⟩
  obtain ⟨c, e1, e2⟩ := h3 pos cv hc
  exact ⟨c, e1, k _ _ e2 id⟩
def RR (K : PySem.W.Frag) (α : Al) (H : Hp) (u : V) : Rv → Prop
  | .dat d => Dt K H u d
  | .at_ o => ∃ a, u = .ref a ∧ α o = some a
structure Stp (α : Al) (H : Hp) (α' : Al) (H' : Hp) : Prop where
  ex : Ex H H'
  ob : ∀ i a, α (.ob i) = some a → α' (.ob i) = some a
  sl : ∀ j, α' (.slot j) = α (.slot j)
theorem Stp.refl (α : Al) (H : Hp) : Stp α H α H := ⟨Ex.refl _, fun _ _ h => h, fun _ => rfl⟩
theorem Stp.of {α : Al} {H H' : Hp} (e : Ex H H') : Stp α H α H' := ⟨e, fun _ _ h => h, fun _ => rfl⟩
abbrev EM := Sg → Option (Except Str Rv × Sg)
abbrev AM := Sg → Option (Except Str (List Rv) × Sg)
abbrev BM := Sg → Option (Except Str Bool × Sg)
section
variable (K : PySem.W.Frag) (FL : Fl) (T : TbS) (W : WX)
def KE (F : Fr) (α : Al) (H : Hp) (σ : L2.St) (g' : Sg) (Q : VK) : Except Str Rv → Prop
  | .ok v => ∀ α' H' H2 u, Rel K FL T F α' H' H2 σ g' → Stp α H α' H' → RR K α' H' u v → Q u H2
  | .error x => ∀ α' H' H2, Rel K FL T F α' H' H2 σ g' → Stp α H α' H' → W (.ref (gaE K x)) none σ H2
def KAs (F : Fr) (α : Al) (H : Hp) (σ : L2.St) (g' : Sg) (Q : List V → Hp → Prop) : Except Str (List Rv) → Prop
  | .ok vs => ∀ α' H' H2 us, Rel K FL T F α' H' H2 σ g' → Stp α H α' H' → Paired (RR K α' H') us vs → Q us H2
  | .error x => ∀ α' H' H2, Rel K FL T F α' H' H2 σ g' → Stp α H α' H' → W (.ref (gaE K x)) none σ H2
def KB (F : Fr) (α : Al) (H : Hp) (σ : L2.St) (g' : Sg) (Q : Bool → Hp → Prop) : Except Str Bool → Prop
  | .ok b => ∀ α' H' H2, Rel K FL T F α' H' H2 σ g' → Stp α H α' H' → Q b H2
  | .error x => ∀ α' H' H2, Rel K FL T F α' H' H2 σ g' → Stp α H α' H' → W (.ref (gaE K x)) none σ H2
def SimE (te : TE) (m : EM) : Prop := ∀ (F : Fr) (α : Al) (H H1 : Hp) (σ : L2.St) (g : Sg) (r : Except Str Rv) (g' : Sg), Rel K FL T F α H H1 σ g → m g = some (r, g') → ∀ Q : VK, KE K FL T W F α H σ g' Q r → te σ H1 Q
def SimA (ta : TA) (m : AM) : Prop := ∀ (F : Fr) (α : Al) (H H1 : Hp) (σ : L2.St) (g : Sg) (r : Except Str (List Rv)) (g' : Sg), Rel K FL T F α H H1 σ g → m g = some (r, g') → ∀ Q : List V → Hp → Prop, KAs K FL T W F α H σ g' Q r → ta σ H1 Q
def SimB (tt : TT) (m : BM) : Prop := ∀ (F : Fr) (α : Al) (H H1 : Hp) (σ : L2.St) (g : Sg) (r : Except Str Bool) (g' : Sg), Rel K FL T F α H H1 σ g → m g = some (r, g') → ∀ Q : Bool → Hp → Prop, KB K FL T W F α H σ g' Q r → tt σ H1 Q
end
def eBind {β γ : Type} (m : Sg → Option (Except Str β × Sg)) (k : β → Sg → Option (Except Str γ × Sg)) : Sg → Option (Except Str γ × Sg) := fun g => (m g).bind fun p => match p.1 with
  | .ok v => k v p.2
  | .error x => some (.error x, p.2)
theorem eBind_some {β γ : Type} {m : Sg → Option (Except Str β × Sg)} {k : β → Sg → Option (Except Str γ × Sg)} {g : Sg} {r : Except Str γ} {g' : Sg} (h : eBind m k g = some (r, g')) : (∃ v g1, m g = some (.ok v, g1) ∧ k v g1 = some (r, g')) ∨ ∃ x, m g = some (.error x, g') ∧ r = .error x := by
  obtain ⟨⟨r1, g1⟩, h1, h2⟩ := bind_some h
  cases r1 with
  | ok v => exact .inl ⟨v, g1, h1, h2⟩
  | error x => cases h2; exact .inr ⟨x, h1, rfl⟩
theorem Stp.trans {α α1 α2 : Al} {H H1 H2 : Hp} (a : Stp α H α1 H1) (b : Stp α1 H1 α2 H2) : Stp α H α2 H2 := ⟨a.ex.trans b.ex, fun i x h => b.ob i x (a.ob i x h), fun j => (b.sl j).trans (a.sl j)⟩
section
variable {K : PySem.W.Frag} {FL : Fl} {T : TbS} {W : WX} {ta tb tc te : TE} {tt tu : TT} {pa pb pc : PM} {qa qb : PB} {tA tr : TA} {ps pr : PMs} {ma mb : EM} {ms mr : AM} {ba bb : BM}
/-! lifts -/
def mP (p : PM) : EM := fun g => (p g).map fun d => (.ok (.dat d), g)
theorem se_p (h : SimP K FL T te pa) : SimE K FL T W te (mP pa) := fun F α H H1 σ g r g' R hm Q q => by
  obtain ⟨d, h1, h2⟩ := Option.map_eq_some_iff.mp hm
  cases h2
  exact h F α H H1 σ g d R h1 Q fun u H2 H' e2 e x dv => q α H' H2 u (R.grow e2 e x) (Stp.of x.ex) dv
def mW (w : WM) : EM := fun g => (w g).map fun o => (.ok (.at_ o), g)
theorem se_w {w : WM} (h : SimW K FL T te w) : SimE K FL T W te (mW w) := fun F α H H1 σ g r g' R hm Q q => by
  obtain ⟨o, h1, h2⟩ := Option.map_eq_some_iff.mp hm
  cases h2
  obtain ⟨a, k1, k2⟩ := h F α H H1 σ g o R h1
  exact k2 Q (q α H H1 _ R (Stp.refl _ _) ⟨a, rfl, k1⟩)
/-- what a name holds -/
def mVar (j : Nat) : EM := fun g => match g.sl[j]? with
  | some (some (.dat d)) => some (.ok (.dat d), g)
  | some (some v) => (wVal v (.slot j)).map fun o => (.ok (.at_ o), g)
  | _ => none
theorem se_var {j : Nat} : SimE K FL T W (tVar j) (mVar j) := fun F α H H1 σ g r g' R hm Q q => by
  unfold mVar at hm
  split at hm
  · rename_i d hd
    cases hm
    obtain ⟨u, h1, h2⟩ := R.slt j _ hd
    exact ⟨u, h1, q α H H1 u R (Stp.refl _ _) h2⟩
  · rename_i v hv hd
    obtain ⟨o, h1, h2⟩ := Option.map_eq_some_iff.mp hm
    cases h2
    obtain ⟨u, h3, h4⟩ := R.slt j v hd
    obtain ⟨a, rfl, h5⟩ := h4.at_ h1
    exact ⟨_, h3, q α H H1 _ R (Stp.refl _ _) ⟨a, rfl, h5⟩⟩
  · cases hm
def mBP (p : PB) : BM := fun g => (p g).map fun b => (.ok b, g)
theorem sbe_p (h : SimPB K FL T tt qa) : SimB K FL T W tt (mBP qa) := fun F α H H1 σ g r g' R hm Q q => by
  obtain ⟨b, h1, h2⟩ := Option.map_eq_some_iff.mp hm
  cases h2
  exact h F α H H1 σ g b R h1 Q fun H2 e2 => q α H H2 (R.same e2) (Stp.refl _ _)
/-! ### expressions in a row -/
def okV (v : Rv) : Option PyData := match v with
  | .dat d => some d
  | _ => none
theorem okV_some {v : Rv} {d : PyData} (h : okV v = some d) : v = .dat d := by
  cases v <;> simp [okV] at h
  rw [h]
def mOp (f : PyData → PyData → Option PyData) (a b : EM) : EM := eBind a fun x => eBind b fun y => fun g => (okV x).bind fun d => (okV y).bind fun e => (f d e).bind fun z => some (.ok (.dat z), g)
theorem KE.err {F : Fr} {α α1 : Al} {H H1 : Hp} {σ : L2.St} {g' : Sg} {Q : VK} {x : Str} (q : KE K FL T W F α H σ g' Q (.error x)) (s : Stp α H α1 H1) {Q' : VK} : KE K FL T W F α1 H1 σ g' Q' (.error x) := fun α' H' H2 R s' => q α' H' H2 R (s.trans s')
theorem RR.dat {α : Al} {H : Hp} {u : V} {v : Rv} {d : PyData} (h : RR K α H u v) (e : v = .dat d) : Dt K H u d := by subst e; exact h
theorem se_op {r : R2} {f : PyData → PyData → Option PyData} (hf : OpD K r f) (ha : SimE K FL T W ta ma) (hb : SimE K FL T W tb mb) : SimE K FL T W (tOp r ta tb) (mOp f ma mb) := fun F α H H1 σ g r g' R hm Q q => by
  rcases eBind_some hm with ⟨v, g1, h1, h2⟩ | ⟨x, h1, rfl⟩
  · refine ha F α H H1 σ g _ g1 R h1 _ fun α1 Ha H2 x R1 s1 rx => ?_
    rcases eBind_some h2 with ⟨w, g2, h3, h4⟩ | ⟨y, h3, rfl⟩
    · refine hb F α1 Ha H2 σ g1 _ g2 R1 h3 _ fun α2 Hb H3 y R2 s2 ry => ?_
      obtain ⟨d, k1, h5⟩ := bind_some h4
      obtain ⟨e, k2, h6⟩ := bind_some h5
      obtain ⟨z, k3, h7⟩ := bind_some h6
      cases h7
      exact hf d e z k3 Hb Hb x y (Ex.refl _) (Dt.ex s2.ex (rx.dat (okV_some k1))) (ry.dat (okV_some k2)) H3 R2.ex Q fun v H4 Hc e4 ec xc dc => q α2 Hc H4 v (R2.grow e4 ec xc) ((s1.trans s2).trans (Stp.of xc.ex)) dc
    · exact hb F α1 Ha H2 σ g1 _ _ R1 h3 _ (q.err s1)
  · exact ha F α H H1 σ g _ _ R h1 _ q
def mUn (f : PyData → Option PyData) (a : EM) : EM := eBind a fun x => fun g => (okV x).bind fun d => (f d).bind fun z => some (.ok (.dat z), g)
theorem se_un {r : V → Hp → VK → Prop} {f : PyData → Option PyData} (hf : ∀ d z, f d = some z → ∀ H, RDU K r d H z) (ha : SimE K FL T W ta ma) : SimE K FL T W (tUn r ta) (mUn f ma) := fun F α H H1 σ g r g' R hm Q q => by
  rcases eBind_some hm with ⟨v, g1, h1, h2⟩ | ⟨x, h1, rfl⟩
  · refine ha F α H H1 σ g _ g1 R h1 _ fun α1 Ha H2 x R1 s1 rx => ?_
    obtain ⟨d, k1, h5⟩ := bind_some h2
    obtain ⟨z, k3, h7⟩ := bind_some h5
    cases h7
    exact hf d z k3 Ha Ha x (Ex.refl _) (rx.dat (okV_some k1)) H2 R1.ex Q fun v H4 Hc e4 ec xc dc => q α1 Hc H4 v (R1.grow e4 ec xc) (s1.trans (Stp.of xc.ex)) dc
  · exact ha F α H H1 σ g _ _ R h1 _ q
/-! arguments -/
def aNil : AM := fun g => some (.ok [], g)
def aCons (a : EM) (r : AM) : AM := eBind a fun x => eBind r fun xs => fun g => some (.ok (x :: xs), g)
theorem RR.step {α α' : Al} {H H' : Hp} {u : V} {v : Rv} (h : RR K α H u v) (s : Stp α H α' H') (hv : ∀ i f, v ≠ .at_ (.fld i f)) : RR K α' H' u v := by
  cases v with
  | dat d => exact Dt.ex s.ex h
  | at_ o =>
    obtain ⟨a, e, h⟩ := h
    cases o with
    | ob i => exact ⟨a, e, s.ob i a h⟩
    | slot j => exact ⟨a, e, by rw [s.sl j]; exact h⟩
    | fld i f => exact absurd rfl (hv i f)
def noFld (v : Rv) : Bool := match v with
  | .at_ (.fld _ _) => false
  | _ => true
theorem noFld_ne {v : Rv} (h : noFld v = true) : ∀ i f, v ≠ .at_ (.fld i f) := fun i f e => by subst e; cases h
/-- arguments: none of them the place of a field -/
def aConsV (a : EM) (r : AM) : AM := eBind a fun x => eBind r fun xs => fun g => if noFld x = true then some (.ok (x :: xs), g) else none
theorem sa_nil : SimA K FL T W tNil aNil := fun F α H H1 σ g r g' R hm Q q => by
  cases hm
  exact q α H H1 [] R (Stp.refl _ _) .nil
theorem KAs.err {F : Fr} {α α1 : Al} {H H1 : Hp} {σ : L2.St} {g' : Sg} {Q : List V → Hp → Prop} {x : Str} (q : KAs K FL T W F α H σ g' Q (.error x)) (s : Stp α H α1 H1) {Q' : List V → Hp → Prop} : KAs K FL T W F α1 H1 σ g' Q' (.error x) := fun α' H' H2 R s' => q α' H' H2 R (s.trans s')
theorem sa_cons (ha : SimE K FL T W ta ma) (hr : SimA K FL T W tr mr) : SimA K FL T W (tCons ta tr) (aConsV ma mr) := fun F α H H1 σ g r g' R hm Q q => by
  rcases eBind_some hm with ⟨v, g1, h1, h2⟩ | ⟨x, h1, rfl⟩
  · refine ha F α H H1 σ g _ g1 R h1 _ fun α1 Ha H2 x R1 s1 rx => ?_
    rcases eBind_some h2 with ⟨w, g2, h3, h4⟩ | ⟨y, h3, rfl⟩
    · obtain ⟨nf, h5⟩ := ite_some h4
      cases h5
      exact hr F α1 Ha H2 σ g1 _ _ R1 h3 _ fun α2 Hb H3 ys R2 s2 ry => q α2 Hb H3 (x :: ys) R2 (s1.trans s2) (.cons (rx.step s2 (noFld_ne nf)) ry)
    · exact hr F α1 Ha H2 σ g1 _ _ R1 h3 _ (q.err s1)
  · exact ha F α H H1 σ g _ _ R h1 _ q
def okVs : List Rv → Option (List PyData)
  | [] => some []
  | .dat d :: r => (okVs r).map fun ds => d :: ds
  | _ :: _ => none
theorem okVs_all {α : Al} {H : Hp} : ∀ {us : List V} {vs : List Rv} {ds : List PyData}, Paired (RR K α H) us vs → okVs vs = some ds → DtAll K H us ds
  | _, _, _, .nil, h => by cases h; exact .nil
  | _, _, _, .cons (b := v) a b, h => by
    cases v with
    | dat d =>
      obtain ⟨es, h1, h2⟩ := Option.map_eq_some_iff.mp (show (okVs _).map _ = some _ from h)
      subst h2
      exact .cons a (okVs_all b h1)
    | at_ o => cases h
/-- a built-in of data -/
def mCB (f : List PyData → Option PyData) (a : AM) : EM := eBind a fun xs => fun g => (okVs xs).bind fun ds => (f ds).bind fun z => some (.ok (.dat z), g)
theorem se_cb {r : List V → Hp → VK → Prop} {f : List PyData → Option PyData} (hf : CbD K r f) (ha : SimA K FL T W tA ms) : SimE K FL T W (tCB r tA) (mCB f ms) := fun F α H H1 σ g r g' R hm Q q => by
  rcases eBind_some hm with ⟨v, g1, h1, h2⟩ | ⟨x, h1, rfl⟩
  · refine ha F α H H1 σ g _ g1 R h1 _ fun α1 Ha H2 x R1 s1 rx => ?_
    obtain ⟨d, k1, h5⟩ := bind_some h2
    obtain ⟨z, k3, h7⟩ := bind_some h5
    cases h7
    exact hf d z k3 Ha Ha x (Ex.refl _) (okVs_all rx k1) H2 R1.ex Q fun v H4 Hc e4 ec xc dc => q α1 Hc H4 v (R1.grow e4 ec xc) (s1.trans (Stp.of xc.ex)) dc
  · exact ha F α H H1 σ g _ _ R h1 _ q
def mTup (a : AM) : EM := eBind a fun xs => fun g => (okVs xs).bind fun ds => if ds.length ≤ 100000 then some (.ok (.dat (.tuple ds)), g) else none
def mLst (a : AM) : EM := eBind a fun xs => fun g => (okVs xs).bind fun ds => if ds.length ≤ 100000 then some (.ok (.dat (.list ds)), g) else none
theorem se_tup (ha : SimA K FL T W tA ms) : SimE K FL T W (tTup tA) (mTup ms) := fun F α H H1 σ g r g' R hm Q q => by
  rcases eBind_some hm with ⟨v, g1, h1, h2⟩ | ⟨x, h1, rfl⟩
  · refine ha F α H H1 σ g _ g1 R h1 _ fun α1 Ha H2 xs R1 s1 rx => ?_
    obtain ⟨ds, k1, h5⟩ := bind_some h2
    obtain ⟨hl, h7⟩ := ite_some h5
    cases h7
    have da := okVs_all rx k1
    exact ⟨by rw [da.length]; exact sz_of hl, fun p hp => q α1 (upd Ha p (.tup xs)) _ _ (R1.grow (Ex.new hp) (ex_upd R1.ex) (Ext.new R1.ex hp)) (s1.trans (Stp.of (Ex.new (fresh_back R1.ex hp)))) (.tup (st_of upd_same) (DtAll.ex (Ex.new (fresh_back R1.ex hp)) da))⟩
  · exact ha F α H H1 σ g _ _ R h1 _ q
theorem se_lst (ha : SimA K FL T W tA ms) : SimE K FL T W (tLst tA) (mLst ms) := fun F α H H1 σ g r g' R hm Q q => by
  rcases eBind_some hm with ⟨v, g1, h1, h2⟩ | ⟨x, h1, rfl⟩
  · refine ha F α H H1 σ g _ g1 R h1 _ fun α1 Ha H2 xs R1 s1 rx => ?_
    obtain ⟨ds, k1, h5⟩ := bind_some h2
    obtain ⟨hl, h7⟩ := ite_some h5
    cases h7
    have da := okVs_all rx k1
    exact ⟨by rw [da.length]; exact sz_of hl, fun p hp => q α1 (upd Ha p (.lst xs)) _ _ (R1.grow (Ex.new hp) (ex_upd R1.ex) (Ext.new R1.ex hp)) (s1.trans (Stp.of (Ex.new (fresh_back R1.ex hp)))) (.lst upd_same (DtAll.ex (Ex.new (fresh_back R1.ex hp)) da))⟩
  · exact ha F α H H1 σ g _ _ R h1 _ q
/-! tests -/
def asBv (v : Rv) : Option Bool := (okV v).bind asB
theorem asBv_some {v : Rv} {b : Bool} (h : asBv v = some b) : v = .dat (.bool b) := by
  obtain ⟨d, h1, h2⟩ := bind_some h
  rw [okV_some h1, asB_some h2]
def mTst (a : EM) : BM := eBind a fun x => fun g => (asBv x).bind fun b => some (.ok b, g)
theorem sbe_any {tt : TT} (hte : ∀ σ H1 (Q : Bool → Hp → Prop), te σ H1 (fun x H' => ∃ k, x = .bl k ∧ Q k H') → tt σ H1 Q) (ha : SimE K FL T W te ma) : SimB K FL T W tt (mTst ma) := fun F α H H1 σ g r g' R hm Q q => by
  refine hte σ H1 Q ?_
  rcases eBind_some hm with ⟨v, g1, h1, h2⟩ | ⟨x, h1, rfl⟩
  · refine ha F α H H1 σ g _ g1 R h1 _ fun α1 Ha H2 x R1 s1 rx => ?_
    obtain ⟨b, k1, h5⟩ := bind_some h2
    cases h5
    exact ⟨b, (rx.dat (asBv_some k1)).bl_eq, q α1 Ha H2 R1 s1⟩
  · exact ha F α H H1 σ g _ _ R h1 _ q
theorem sbe_test (ha : SimE K FL T W te ma) : SimB K FL T W (tTest te) (mTst ma) := sbe_any (fun _ _ _ h => h) ha
theorem sbe_B (ha : SimE K FL T W te ma) : SimB K FL T W (tB te) (mTst ma) := sbe_any (fun _ _ _ h => h) ha
def mAndB (a b : BM) : BM := eBind a fun x => if x = true then b else fun g => some (.ok false, g)
def mOrB (a b : BM) : BM := eBind a fun x => if x = true then fun g => some (.ok true, g) else b
def mNotB (a : BM) : BM := eBind a fun x => fun g => some (.ok (!x), g)
theorem KB.step {F : Fr} {α α1 : Al} {H H1 : Hp} {σ : L2.St} {g' : Sg} {Q : Bool → Hp → Prop} {r : Except Str Bool} (q : KB K FL T W F α H σ g' Q r) (s : Stp α H α1 H1) : KB K FL T W F α1 H1 σ g' Q r := by
  cases r with
  | ok b => exact fun α' H' H2 R s' => q α' H' H2 R (s.trans s')
  | error x => exact fun α' H' H2 R s' => q α' H' H2 R (s.trans s')
theorem KE.step {F : Fr} {α α1 : Al} {H H1 : Hp} {σ : L2.St} {g' : Sg} {Q : VK} {r : Except Str Rv} (q : KE K FL T W F α H σ g' Q r) (s : Stp α H α1 H1) : KE K FL T W F α1 H1 σ g' Q r := by
  cases r with
  | ok b => exact fun α' H' H2 u R s' => q α' H' H2 u R (s.trans s')
  | error x => exact fun α' H' H2 R s' => q α' H' H2 R (s.trans s')
theorem sbe_and (ha : SimB K FL T W tt ba) (hb : SimB K FL T W tu bb) : SimB K FL T W (tAnd tt tu) (mAndB ba bb) := fun F α H H1 σ g r g' R hm Q q => by
  rcases eBind_some hm with ⟨v, g1, h1, h2⟩ | ⟨x, h1, rfl⟩
  · refine ha F α H H1 σ g _ g1 R h1 _ fun α1 Ha H2 R1 s1 => ?_
    cases v with
    | true => exact hb F α1 Ha H2 σ g1 r g' R1 h2 Q (q.step s1)
    | false => cases h2; exact q α1 Ha H2 R1 s1
  · exact ha F α H H1 σ g _ _ R h1 _ q
theorem sbe_or (ha : SimB K FL T W tt ba) (hb : SimB K FL T W tu bb) : SimB K FL T W (tOr tt tu) (mOrB ba bb) := fun F α H H1 σ g r g' R hm Q q => by
  rcases eBind_some hm with ⟨v, g1, h1, h2⟩ | ⟨x, h1, rfl⟩
  · refine ha F α H H1 σ g _ g1 R h1 _ fun α1 Ha H2 R1 s1 => ?_
    cases v with
    | false => exact hb F α1 Ha H2 σ g1 r g' R1 h2 Q (q.step s1)
    | true => cases h2; exact q α1 Ha H2 R1 s1
  · exact ha F α H H1 σ g _ _ R h1 _ q
theorem sbe_not (ha : SimB K FL T W tt ba) : SimB K FL T W (tNot tt) (mNotB ba) := fun F α H H1 σ g r g' R hm Q q => by
  rcases eBind_some hm with ⟨v, g1, h1, h2⟩ | ⟨x, h1, rfl⟩
  · cases h2
    exact ha F α H H1 σ g _ _ R h1 _ fun α1 Ha H2 R1 s1 => q α1 Ha H2 R1 s1
  · exact ha F α H H1 σ g _ _ R h1 _ q
def mIf (c : BM) (a b : EM) : EM := eBind c fun x => if x = true then a else b
theorem se_if (hc : SimB K FL T W tt ba) (ha : SimE K FL T W ta ma) (hb : SimE K FL T W tb mb) : SimE K FL T W (tIf tt ta tb) (mIf ba ma mb) := fun F α H H1 σ g r g' R hm Q q => by
  rcases eBind_some hm with ⟨v, g1, h1, h2⟩ | ⟨x, h1, rfl⟩
  · refine hc F α H H1 σ g _ _ R h1 _ fun α1 Ha H2 R1 s1 => ?_
    cases v with
    | true => exact ha F α1 Ha H2 σ g1 r g' R1 h2 Q (q.step s1)
    | false => exact hb F α1 Ha H2 σ g1 r g' R1 h2 Q (q.step s1)
  · exact hc F α H H1 σ g _ _ R h1 _ q
def mAnd (a b : EM) : EM := eBind a fun v => fun g => (asBv v).bind fun x => if x = true then b g else some (.ok (.dat (.bool false)), g)
def mOr (a b : EM) : EM := eBind a fun v => fun g => (asBv v).bind fun x => if x = true then some (.ok (.dat (.bool true)), g) else b g
def mNot (a : EM) : EM := eBind a fun v => fun g => (asBv v).bind fun x => some (.ok (.dat (.bool (!x))), g)
theorem se_and (ha : SimE K FL T W ta ma) (hb : SimE K FL T W tb mb) : SimE K FL T W (tAndV ta tb) (mAnd ma mb) := fun F α H H1 σ g r g' R hm Q q => by
  rcases eBind_some hm with ⟨v, g1, h1, h2⟩ | ⟨x, h1, rfl⟩
  · refine ha F α H H1 σ g _ g1 R h1 _ fun α1 Ha H2 u R1 s1 ru => ?_
    obtain ⟨x, k1, k2⟩ := bind_some h2
    refine ⟨x, (ru.dat (asBv_some k1)).bl_eq, ?_⟩
    cases x with
    | true => exact hb F α1 Ha H2 σ g1 r g' R1 k2 Q (q.step s1)
    | false => cases k2; exact q α1 Ha H2 _ R1 s1 (.bl _)
  · exact ha F α H H1 σ g _ _ R h1 _ q
theorem se_or (ha : SimE K FL T W ta ma) (hb : SimE K FL T W tb mb) : SimE K FL T W (tOrV ta tb) (mOr ma mb) := fun F α H H1 σ g r g' R hm Q q => by
  rcases eBind_some hm with ⟨v, g1, h1, h2⟩ | ⟨x, h1, rfl⟩
  · refine ha F α H H1 σ g _ g1 R h1 _ fun α1 Ha H2 u R1 s1 ru => ?_
    obtain ⟨x, k1, k2⟩ := bind_some h2
    refine ⟨x, (ru.dat (asBv_some k1)).bl_eq, ?_⟩
    cases x with
    | false => exact hb F α1 Ha H2 σ g1 r g' R1 k2 Q (q.step s1)
    | true => cases k2; exact q α1 Ha H2 _ R1 s1 (.bl _)
  · exact ha F α H H1 σ g _ _ R h1 _ q
theorem se_not (ha : SimE K FL T W ta ma) : SimE K FL T W (tNotV ta) (mNot ma) := fun F α H H1 σ g r g' R hm Q q => by
  rcases eBind_some hm with ⟨v, g1, h1, h2⟩ | ⟨x, h1, rfl⟩
  · refine ha F α H H1 σ g _ g1 R h1 _ fun α1 Ha H2 u R1 s1 ru => ?_
    obtain ⟨x, k1, k2⟩ := bind_some h2
    cases k2
    exact ⟨x, (ru.dat (asBv_some k1)).bl_eq, q α1 Ha H2 _ R1 s1 (.bl _)⟩
  · exact ha F α H H1 σ g _ _ R h1 _ q
/-- a slice of what is told by doing -/
def mSl (a : EM) (l h : PO) : EM := eBind a fun v => fun g => (okV v).bind fun d => (l g).bind fun x => (h g).bind fun y => (slD d x y).bind fun z => some (.ok (.dat z), g)
theorem se_sl {tl th : TO} {pl ph : PO} (ha : SimE K FL T W ta ma) (hl : SimO K FL T tl pl) (hh : SimO K FL T th ph) : SimE K FL T W (tSl (rSlU K) ta tl th) (mSl ma pl ph) := fun F α H H1 σ g r g' R hm Q q => by
  rcases eBind_some hm with ⟨v, g1, h1, h2⟩ | ⟨x, h1, rfl⟩
  · refine ha F α H H1 σ g _ g1 R h1 _ fun α1 Ha H2 u R1 s1 ru => ?_
    obtain ⟨d, k1, h3⟩ := bind_some h2
    obtain ⟨x, k2, h4⟩ := bind_some h3
    obtain ⟨y, k3, h5⟩ := bind_some h4
    obtain ⟨z, k4, h6⟩ := bind_some h5
    cases h6
    have da := ru.dat (okV_some k1)
    exact hl F α1 Ha H2 σ _ x R1 k2 _ fun H3 e3 => hh F α1 Ha H3 σ _ y (R1.same e3) k3 _ fun H4 e4 => sl_core da k4 (R1.ex.trans (e3.trans e4)) fun v H5 Hc e5 ec xc dc => by
      have xc' : Ext Ha H2 Hc := (Ext.refl Ha H2).trans (e3.trans e4) xc
      exact q α1 Hc H5 v (R1.grow ((e3.trans e4).trans e5) ec xc') (s1.trans (Stp.of xc.ex)) dc
  · exact ha F α H H1 σ g _ _ R h1 _ q
end
end EV

/-! ### EV: calls, statements, defs (own work) -/
namespace EV
open PySem PySem.Spec PyProof.Rows L2 Evl L2H LamX LR
def stoA (α : Al) : Al := fun o => match o with
  | .slot _ => none
  | .ob i => α (.ob i)
  | .fld i f => α (.fld i f)
def merge (α α' : Al) : Al := fun o => match o with
  | .slot j => α (.slot j)
  | .ob i => α' (.ob i)
  | .fld i f => α' (.fld i f)
structure Frm (α : Al) (H H1 : Hp) (α' : Al) (H' H2 : Hp) : Prop where
  ex : Ex H H'
  fr : ∀ b u, H1 b = some u → (∀ o, α o ≠ some b) → (∀ ps, u ≠ .tbl ps) → H2 b = some u
  of : ∀ b u, H b = none → H1 b = some u → (∀ o, α o ≠ some b) → (∀ ps, u ≠ .tbl ps) → H' b = none
  nw : ∀ o b, α' o = some b → (∃ o', α o' = some b) ∨ H1 b = none ∨ ∃ ps, H1 b = some (.tbl ps)
  ob : ∀ i a, α (.ob i) = some a → α' (.ob i) = some a
abbrev Fun := List Rv → List Ob → Option (Except Str Rv × List Ob)
section
variable {K : PySem.W.Frag} {FL : Fl} {T : TbS} {F : Fr} {α α' : Al} {H H1 H' H2 : Hp} {σ : L2.St} {g : Sg}
theorem stoA_sub {o : Owner} {a : Addr} (h : stoA α o = some a) : α o = some a := by
  cases o <;> first | exact h | cases h
theorem stoA_ne {j : Nat} {a : Addr} (inj : ∀ o o' a, α o = some a → α o' = some a → o = o') (h : α (.slot j) = some a) : ∀ o, stoA α o ≠ some a := fun o ho => by
  have e := inj _ _ _ h (stoA_sub ho)
  subst e
  cases ho
theorem RelS.sto_only {st : List Ob} (r : RelS K FL T α H H1 st) : RelS K FL T (stoA α) H H1 st where
  ex := r.ex
  nt := r.nt
  tb := r.tb
  inj := fun o o' a h h' => r.inj o o' a (stoA_sub h) (stoA_sub h')
  off := fun o a h => r.off o a (stoA_sub h)
  pl := fun o a h => r.pl o a (stoA_sub h)
  sto := fun i o h => by
    obtain ⟨a, h1, h2⟩ := r.sto i o h
    exact ⟨a, h1, h2.ex (Ex.refl _) (fun _ _ z => z) (fun f b z => ⟨z, fun _ z => z⟩) fun _ z => z⟩
  dom := r.dom
theorem plain_nt {u : HO} (h : PlainO u) : ∀ ps, u ≠ .tbl ps := h.tbl
/-- behind a call -/
theorem Rel.call {st' : List Ob} (R : Rel K FL T F α H H1 σ g) (hT : T.fl = true) (R' : RelS K FL T α' H' H2 st') (f : Frm (stoA α) H H1 α' H' H2) : Rel K FL T F (merge α α') H' H2 σ ⟨g.sl, st'⟩ ∧ Stp α H (merge α α') H' := by
  have slk : ∀ j a, α (.slot j) = some a → (∃ u, H1 a = some u ∧ H2 a = some u ∧ PlainO u) ∧ H' a = none ∧ ∀ o, α' o ≠ some a := fun j a h => by
    obtain ⟨u, hu, pu⟩ := R.pl _ a h
    have ne := stoA_ne R.inj h
    refine ⟨⟨u, hu, f.fr a u hu ne pu.tbl, pu⟩, f.of a u (R.off _ a h) hu ne pu.tbl, fun o ho => ?_⟩
    rcases f.nw o a ho with ⟨o', z⟩ | z | ⟨qs, z⟩
    · exact ne o' z
    · rw [hu] at z; cases z
    · rw [hu] at z; cases z; exact pu
  have mg : ∀ {o a}, merge α α' o = some a → (∃ j, o = .slot j ∧ α (.slot j) = some a) ∨ ((∀ j, o ≠ .slot j) ∧ α' o = some a) := fun {o a} h => by
    cases o with
    | slot j => exact .inl ⟨j, rfl, h⟩
    | ob i => exact .inr ⟨(fun j z => nomatch z), h⟩
    | fld i f => exact .inr ⟨(fun j z => nomatch z), h⟩
  refine ⟨⟨⟨R'.ex, R'.nt, R'.tb, fun o o' a h h' => ?_, fun o a h => ?_, fun o a h => ?_, fun i o h => ?_, R'.dom⟩, ?_, ?_, R.ntB, fun o a h => ?_, fun i a h => ?_, R.len, fun j v h => ?_⟩, f.ex, fun i a h => f.ob i a h, fun _ => rfl⟩
  · rcases mg h with ⟨j, rfl, k⟩ | ⟨k0, k⟩
    · rcases mg h' with ⟨j', rfl, k'⟩ | ⟨_, k'⟩
      · exact R.inj _ _ a k k'
      · exact absurd k' ((slk j a k).2.2 o')
    · rcases mg h' with ⟨j', rfl, k'⟩ | ⟨_, k'⟩
      · exact absurd k ((slk j' a k').2.2 o)
      · exact R'.inj _ _ a k k'
  · rcases mg h with ⟨j, rfl, k⟩ | ⟨k0, k⟩
    · exact (slk j a k).2.1
    · exact R'.off o a k
  · rcases mg h with ⟨j, rfl, k⟩ | ⟨k0, k⟩
    · obtain ⟨u, _, h2, p⟩ := (slk j a k).1
      exact ⟨u, h2, p⟩
    · exact R'.pl o a k
  · obtain ⟨a, h1, h2⟩ := R'.sto i o h
    exact ⟨a, h1, h2.ex (Ex.refl _) (fun _ _ z => z) (fun f b z => ⟨z, fun _ z => z⟩) fun _ z => z⟩
  · refine ⟨R.ext.ex.trans f.ex, fun b o hb => ?_⟩
    cases hH : H b with
    | some u =>
      have e := f.ex b u hH
      rw [hb] at e
      cases e
      exact R.ext.fresh b o hH
    | none =>
      refine .inr ⟨?_, fun ps z => R'.nt hT b ps (z ▸ hb)⟩
      cases hB : F.B b with
      | none => rfl
      | some u =>
        exfalso
        have h1 := R.gro b u hB
        have ne : ∀ o, stoA α o ≠ some b := fun o ho => by
          have := R.offB o b (stoA_sub ho)
          rw [hB] at this
          cases this
        rw [f.of b u hH h1 ne fun ps z => R.ntB hT b ps (z ▸ hB)] at hb
        cases hb
  · intro b u hB
    have h1 := R.gro b u hB
    refine f.fr b u h1 (fun o ho => ?_) fun ps z => R.ntB hT b ps (z ▸ hB)
    have := R.offB o b (stoA_sub ho)
    rw [hB] at this
    cases this
  · rcases mg h with ⟨j, rfl, k⟩ | ⟨k0, k⟩
    · exact R.offB _ a k
    · rcases f.nw o a k with ⟨o', z⟩ | z | ⟨qs, z⟩
      · exact R.offB o' a (stoA_sub z)
      · exact fresh_back R.gro z
      · cases hB : F.B a with
        | none => rfl
        | some u =>
          have h1 := R.gro a u hB
          rw [z] at h1
          cases h1
          exact absurd hB (R.ntB hT a qs)
  · exact f.ob i a (R.old i a h)
  · obtain ⟨u, h1, h2⟩ := R.slt j v h
    refine ⟨u, h1, h2.ex f.ex (fun i a h => f.ob i a h) fun a h => ⟨h, fun u hu => ?_⟩⟩
    obtain ⟨u', k1, k2, _⟩ := (slk j a h).1
    rw [hu] at k1
    cases k1
    exact k2
end
/-! ### promises -/
section
variable (K : PySem.W.Frag) (FL : Fl) (T : TbS)
def KF (E : XK) (α : Al) (H H1 : Hp) (st' : List Ob) (Q : VK) : Except Str Rv → Prop
  | .ok v => ∀ u H2 H' α', RelS K FL T α' H' H2 st' → Frm α H H1 α' H' H2 → RR K α' H' u v → Q u H2
  | .error x => ∀ H2 H' α', RelS K FL T α' H' H2 st' → Frm α H H1 α' H' H2 → E (.ref (gaE K x)) none H2
def spF (n : Nat) (f : Fun) : Sp := fun vs H1 Q E => ∃ H α st as r st', RelS K FL T α H H1 st ∧ (∀ j, α (.slot j) = none) ∧ Paired (RR K α H) vs as ∧ as.length = n ∧ f as st = some (r, st') ∧ KF K FL T E α H H1 st' Q r
end
/-- an argument, an answer: data, or an object -/
def argV (v : Rv) : Option Val := match v with
  | .dat d => some (.dat d)
  | .at_ (.ob i) => some (.obj i)
  | _ => none
def argVs : List Rv → Option (List Val)
  | [] => some []
  | v :: r => (argV v).bind fun x => (argVs r).bind fun xs => some (x :: xs)
section
variable {K : PySem.W.Frag} {FL : Fl} {T : TbS} {W : WX} {tA : TA} {ms : AM} {te : TE} {ma : EM}
theorem RR.sto {α : Al} {H : Hp} {u : V} {v : Rv} {x : Val} (h : RR K α H u v) (hv : argV v = some x) : RR K (stoA α) H u v := by
  cases v with
  | dat d => exact h
  | at_ o =>
    cases o with
    | ob i => exact h
    | slot j => cases hv
    | fld i f => cases hv
theorem args_sto {α : Al} {H : Hp} : ∀ {us : List V} {vs : List Rv} {xs : List Val}, Paired (RR K α H) us vs → argVs vs = some xs → Paired (RR K (stoA α) H) us vs
  | _, _, _, .nil, _ => .nil
  | _, _, _, .cons a b, h => by
    obtain ⟨x, h1, h2⟩ := bind_some h
    obtain ⟨xs, h3, h4⟩ := bind_some h2
    exact .cons (a.sto h1) (args_sto b h3)
theorem RR.merge {α α' : Al} {H : Hp} {u : V} {v : Rv} {x : Val} (h : RR K α' H u v) (hv : argV v = some x) : RR K (merge α α') H u v := by
  cases v with
  | dat d => exact h
  | at_ o =>
    cases o with
    | ob i => exact h
    | slot j => cases hv
    | fld i f => cases hv
/-- f(..) -/
def callF (f : Fun) (n : Nat) (vs : List Rv) : EM := fun g => (argVs vs).bind fun _ => if vs.length = n then (f vs g.st).bind fun p => match p.1 with
  | .ok v => (argV v).bind fun _ => some (.ok v, ⟨g.sl, p.2⟩)
  | .error x => some (.error x, ⟨g.sl, p.2⟩) else none
theorem call_core {n : Nat} {f : Fun} (hT : T.fl = true) {F : Fr} {α : Al} {H H1 : Hp} {σ : L2.St} {g g' : Sg} {r : Except Str Rv} {us : List V} {vs : List Rv} (R : Rel K FL T F α H H1 σ g) (ra : Paired (RR K α H) us vs) (h : callF f n vs g = some (r, g')) {Q : VK} (q : KE K FL T W F α H σ g' Q r) : spF K FL T n f us H1 Q (WE W σ) := by
  obtain ⟨xs, h1, h2⟩ := bind_some h
  split at h2
  · rename_i hn
    obtain ⟨⟨r', st'⟩, h3, h4⟩ := bind_some h2
    refine ⟨H, stoA α, g.st, vs, r', st', R.toRelS.sto_only, fun _ => rfl, args_sto ra h1, hn, h3, ?_⟩
    cases r' with
    | ok v =>
      obtain ⟨x, h5, h6⟩ := bind_some (show (argV v).bind _ = _ from h4)
      cases h6
      intro u H2 H' α' R' f' ru
      obtain ⟨a, b⟩ := R.call hT R' f'
      exact q _ H' H2 u a b (ru.merge h5)
    | error x =>
      cases h4
      intro H2 H' α' R' f'
      obtain ⟨a, b⟩ := R.call hT R' f'
      exact q _ H' H2 a b
  · cases h2
def mCall (f : Fun) (n : Nat) (a : AM) : EM := eBind a fun vs => callF f n vs
theorem se_call {n : Nat} {f : Fun} (hT : T.fl = true) (ha : SimA K FL T W tA ms) : SimE K FL T W (tCallS (spF K FL T n f) (WE W) tA) (mCall f n ms) := fun F α H H1 σ g r g' R hm Q q => by
  rcases eBind_some hm with ⟨vs, g1, h1, h2⟩ | ⟨x, h1, rfl⟩
  · exact ha F α H H1 σ g _ g1 R h1 _ fun α1 Ha H2 us R1 s1 ru => call_core hT R1 ru h2 (q.step s1)
  · exact ha F α H H1 σ g _ _ R h1 _ q
/-- the class of the object at o; that m is none of its own -/
def clsAt (g : Sg) (o : Owner) (C m : Str) : Bool := match o with
  | .ob i => match g.st[i]? with
    | some (.ins C' fs) => decide (C' = C) && (fs.lookup m).isNone
    | _ => false
  | _ => false
def tMethW (C : Addr) (m : Str) (sp : Sp) (E : L2.St → XK) (ta : TE) (t : TA) : TE := fun σ H Q => ta σ H fun x H1 => ∃ a dx fs, x = .ref a ∧ H1 a = some (.ins C dx fs) ∧ fs.lookup m = none ∧ t σ H1 fun vs H2 => sp (x :: vs) H2 Q (E σ)
def mMeth (C m : Str) (f : Fun) (n : Nat) (o : EM) (a : AM) : EM := eBind o fun v => fun g => match v with
  | .at_ ow => if clsAt g ow C m = true ∧ noFld v = true then eBind a (fun vs => callF f n (v :: vs)) g else none
  | _ => none
theorem lookup_none_of {us : List (Str × V)} {fs : List (Str × Val)} (e : us.map (·.1) = fs.map (·.1)) (m : Str) (h : fs.lookup m = none) : us.lookup m = none := by
  induction us generalizing fs with
  | nil => rfl
  | cons p r ih =>
    cases fs with
    | nil => cases e
    | cons q s =>
      obtain ⟨k, v⟩ := p
      obtain ⟨k', v'⟩ := q
      simp only [List.map_cons, List.cons.injEq] at e
      obtain ⟨e1, e2⟩ := e
      subst e1
      rw [List.lookup_cons] at h ⊢
      cases c : (m == k) with
      | true => rw [c] at h; cases h
      | false => rw [c] at h; exact ih e2 h
theorem Rel.clsAt {F : Fr} {α : Al} {H H1 : Hp} {σ : L2.St} {g : Sg} {o : Owner} {C m : Str} {a : Addr} (R : Rel K FL T F α H H1 σ g) (h : EV.clsAt g o C m = true) (ha : α o = some a) : ∃ dx us, H1 a = some (.ins (gaE K C) dx us) ∧ us.lookup m = none := by
  unfold EV.clsAt at h
  split at h
  · split at h
    · rename_i hs
      rw [Bool.and_eq_true] at h
      obtain ⟨e, hn⟩ := h
      have e := of_decide_eq_true e
      subst e
      obtain ⟨a', k1, _, dx, us, k2, k3⟩ := R.sto _ _ hs
      rw [ha] at k1
      cases k1
      exact ⟨dx, us, k2, lookup_none_of k3.1 m (Option.isNone_iff_eq_none.mp hn)⟩
    · cases h
  · cases h
theorem se_meth {C m : Str} {n : Nat} {f : Fun} (hT : T.fl = true) (ho : SimE K FL T W te ma) (ha : SimA K FL T W tA ms) : SimE K FL T W (tMethW (gaE K C) m (spF K FL T n f) (WE W) te tA) (mMeth C m f n ma ms) := fun F α H H1 σ g r g' R hm Q q => by
  rcases eBind_some hm with ⟨v, g1, h1, h2⟩ | ⟨x, h1, rfl⟩
  · refine ho F α H H1 σ g _ g1 R h1 _ fun α1 Ha H2 u R1 s1 ru => ?_
    cases v with
    | dat d => cases h2
    | at_ ow =>
      have h2 : (if clsAt g1 ow C m = true ∧ noFld (.at_ ow) = true then eBind ms (fun vs => callF f n (.at_ ow :: vs)) g1 else none) = some (r, g') := h2
      split at h2
      · rename_i hc
        obtain ⟨a, rfl, k1⟩ := ru
        obtain ⟨dx, us, k2, k3⟩ := R1.clsAt hc.1 k1
        refine ⟨a, dx, us, rfl, k2, k3, ?_⟩
        rcases eBind_some h2 with ⟨vs, g2, h3, h4⟩ | ⟨x, h3, rfl⟩
        · exact ha F α1 Ha H2 σ g1 _ g2 R1 h3 _ fun α2 Hb H3 ws R2 s2 rw => call_core (us := .ref a :: ws) hT R2 (.cons ((show RR K α1 Ha (.ref a) (.at_ ow) from ⟨a, rfl, k1⟩).step s2 (noFld_ne hc.2)) rw) h4 (q.step (s1.trans s2))
        · exact ha F α1 Ha H2 σ g1 _ _ R1 h3 _ fun α' H' H2 R s' => q α' H' H2 R (s1.trans s')
      · cases h2
  · exact ho F α H H1 σ g _ _ R h1 _ q
end
end EV

/-! ### EV: changes, statements, defs (own work) -/
namespace EV
open PySem PySem.Spec PyProof.Rows L2 Evl L2H LamX LR
def putA {β : Type} (f : Str) (v : β) : List (Str × β) → List (Str × β)
  | [] => [(f, v)]
  | (g, x) :: r => if g = f then (g, v) :: r else (g, x) :: putA f v r
theorem lookup_putA {β : Type} (f g : Str) (v : β) : ∀ fs : List (Str × β), (putA f v fs).lookup g = if g = f then some v else fs.lookup g
  | [] => by
    show List.lookup g [(f, v)] = _
    rw [List.lookup_cons]
    by_cases h : g = f
    · simp [h]
    · have : (g == f) = false := by simp [h]
      rw [this, if_neg h]
  | (k, x) :: r => by
    unfold putA
    by_cases c : k = f
    · rw [if_pos c]
      subst c
      rw [List.lookup_cons, List.lookup_cons]
      by_cases h : g = k
      · simp [h]
      · have : (g == k) = false := by simp [h]
        rw [this, if_neg h]
    · rw [if_neg c, List.lookup_cons, List.lookup_cons, lookup_putA f g v r]
      by_cases h : g = k
      · subst h
        simp [c]
      · have : (g == k) = false := by simp [h]
        rw [this]
theorem put_names (f : Str) (u : V) (v : Val) : ∀ {us : List (Str × V)} {fs : List (Str × Val)}, us.map (·.1) = fs.map (·.1) → (putF f u us).map (·.1) = (putA f v fs).map (·.1)
  | [], [], _ => rfl
  | [], _ :: _, h => by cases h
  | _ :: _, [], h => by cases h
  | (k, x) :: r, (k', y) :: q, h => by
    simp only [List.map_cons, List.cons.injEq] at h
    obtain ⟨h1, h2⟩ := h
    subst h1
    unfold putF putA
    by_cases c : k = f
    · rw [if_pos c, if_pos c]
      simp only [List.map_cons, h2]
    · rw [if_neg c, if_neg c]
      simp only [List.map_cons, put_names f u v h2]
/-- a place's content is another -/
def Sg.put (g : Sg) (o : Owner) (v : Val) : Sg := match o with
  | .ob i => ⟨g.sl, g.st.set i (.box v)⟩
  | .slot j => ⟨g.sl.set j (some v), g.st⟩
  | .fld i f => match g.st[i]? with
    | some (.ins C fs) => ⟨g.sl, g.st.set i (.ins C (putA f v fs))⟩
    | _ => g
theorem put_fld_sl {g : Sg} {k : Nat} {f : Str} {v : Val} : (g.put (.fld k f) v).sl = g.sl := by
  show (match g.st[k]? with | some (.ins C fs) => (⟨g.sl, g.st.set k (.ins C (putA f v fs))⟩ : Sg) | _ => g).sl = g.sl
  split <;> rfl
theorem put_len {g : Sg} {o : Owner} {v : Val} : (g.put o v).st.length = g.st.length := by
  cases o with
  | ob i => simp [Sg.put]
  | slot j => rfl
  | fld k f =>
    show (match g.st[k]? with | some (.ins C fs) => (⟨g.sl, g.st.set k (.ins C (putA f v fs))⟩ : Sg) | _ => g).st.length = _
    split
    · simp
    · rfl
def isOwn (v : Val) : Prop := (∃ ds, v = .ownL ds) ∨ ∃ ds, v = .ownD ds
def COk (K : PySem.W.Frag) (H : Hp) (ho : HO) : Val → Prop
  | .ownL ds => ∃ vs, ho = .lst vs ∧ DtAll K H vs ds
  | .ownD kvs => ∃ ws, ho = .dK ws ∧ KvR K H ws kvs
  | _ => False
section
variable {K : PySem.W.Frag} {FL : Fl} {T : TbS} {F : Fr} {α α' : Al} {H H1 H' H2 : Hp} {σ : L2.St} {g : Sg}
theorem COk.plain {ho : HO} {v : Val} (h : COk K H ho v) : PlainO ho := by
  cases v with
  | dat d => exact h.elim
  | obj i => exact h.elim
  | ownL ds => obtain ⟨vs, rfl, _⟩ := h; trivial
  | ownD ds => obtain ⟨vs, rfl, _⟩ := h; trivial
theorem COk.own {ho : HO} {v : Val} (h : COk K H ho v) : isOwn v := by
  cases v with
  | dat d => exact h.elim
  | obj i => exact h.elim
  | ownL ds => exact .inl ⟨_, rfl⟩
  | ownD ds => exact .inr ⟨_, rfl⟩
theorem COk.co {ho : HO} {v : Val} {a : Addr} (h : COk K H ho v) (ha : H1 a = some ho) : CoR K H H1 a v := by
  cases v with
  | dat d => exact h.elim
  | obj i => exact h.elim
  | ownL ds => obtain ⟨vs, rfl, k⟩ := h; exact ⟨vs, ha, k⟩
  | ownD ds => obtain ⟨vs, rfl, k⟩ := h; exact ⟨vs, ha, k⟩
theorem vr_own {o : Owner} {a : Addr} {v : Val} (hv : isOwn v) (ha : α o = some a) (h : CoR K H H1 a v) : VR K α H H1 o (.ref a) v := by
  rcases hv with ⟨ds, rfl⟩ | ⟨ds, rfl⟩
  · exact ⟨a, rfl, ha, h⟩
  · exact ⟨a, rfl, ha, h⟩
theorem vr_ref {o : Owner} {a : Addr} {u : V} {v : Val} (hv : isOwn v) (ha : α o = some a) (h : VR K α H H1 o u v) : u = .ref a := by
  rcases hv with ⟨ds, rfl⟩ | ⟨ds, rfl⟩
  · obtain ⟨b, rfl, h1, _⟩ := h; rw [ha] at h1; cases h1; rfl
  · obtain ⟨b, rfl, h1, _⟩ := h; rw [ha] at h1; cases h1; rfl
theorem upd_keep {a : Addr} {ho u : HO} {b : Addr} (hne : b ≠ a) (h : H1 b = some u) : upd H1 a ho b = some u := by rw [upd_ne hne]; exact h
/-- what stands at a place is changed -/
theorem Rel.put {o : Owner} {a : Addr} {v0 v : Val} {ho : HO} (R : Rel K FL T F α H H1 σ g) (ha : α o = some a) (hc : contAt g o = some v0) (h0 : isOwn v0) (hv : COk K H ho v) : Rel K FL T F α H (upd H1 a ho) σ (g.put o v) := by
  obtain ⟨u0, hu0, pu0⟩ := R.pl o a ha
  have hH := R.off o a ha
  have hB := R.offB o a ha
  have new : CoR K H (upd H1 a ho) a v := hv.co upd_same
  have oth : ∀ {o' b}, o' ≠ o → α o' = some b → ∀ u, H1 b = some u → upd H1 a ho b = some u := fun {o' b} hne hb u hu => upd_keep (fun e => hne (R.inj o' o a (e ▸ hb) ha)) hu
  have obj_ne : ∀ {i C fs}, g.st[i]? = some (.ins C fs) → o ≠ .ob i := fun {i C fs} hs e => by
    subst e
    unfold contAt at hc
    simp only [hs] at hc
    cases hc
  have base : RelS K FL T α H (upd H1 a ho) (g.put o v).st := by
    refine ⟨ex_off R.ex hH, R.nt, EV.tabs_keep R.tb fun b u hb hp => upd_keep (fun e => by subst e; rw [hu0] at hb; cases hb; exact hp pu0) hb, R.inj, R.off, fun o' b hb => ?_, fun i ob hs => ?_, fun i hi => R.dom i (by rw [put_len] at hi; exact hi)⟩
    · by_cases c : o' = o
      · subst c
        rw [ha] at hb
        cases hb
        exact ⟨ho, upd_same, hv.plain⟩
      · obtain ⟨u, hu, pu⟩ := R.pl o' b hb
        exact ⟨u, oth c hb u hu, pu⟩
    · have keep : ∀ {ob}, g.st[i]? = some ob → (∀ f, o ≠ .fld i f) → o ≠ .ob i → ∃ b, α (.ob i) = some b ∧ ObR K FL α H (upd H1 a ho) i b ob := fun {ob} hs hf ho' => by
        obtain ⟨b, h1, h2⟩ := R.sto i ob hs
        exact ⟨b, h1, h2.ex (Ex.refl _) (fun _ _ z => z) (fun f c z => ⟨z, oth (Ne.symm (hf f)) z⟩) (oth (Ne.symm ho') h1)⟩
      cases o with
      | slot j => exact keep hs (fun f => by intro e; cases e) (by intro e; cases e)
      | ob k =>
        rcases set_get (show (g.st.set k (.box v))[i]? = some ob from hs) with ⟨rfl, rfl⟩ | ⟨c, h⟩
        · exact ⟨a, ha, new⟩
        · exact keep h (fun f => by intro e; cases e) (by intro e; cases e; exact c rfl)
      | fld k f =>
        cases hk : g.st[k]? with
        | none =>
          have e : g.put (.fld k f) v = g := by unfold Sg.put; simp only [hk]
          rw [e] at hs
          have : contAt g (.fld k f) = none := by unfold contAt; simp only [hk]
          rw [this] at hc
          cases hc
        | some obk =>
          cases obk with
          | box w =>
            have : contAt g (.fld k f) = none := by unfold contAt; simp only [hk]
            rw [this] at hc
            cases hc
          | ins C fs =>
            have e : (g.put (.fld k f) v).st = g.st.set k (.ins C (putA f v fs)) := by unfold Sg.put; simp only [hk]
            rw [e] at hs
            have hl : fs.lookup f = some v0 := by unfold contAt at hc; simp only [hk] at hc; exact hc
            rcases set_get hs with ⟨rfl, rfl⟩ | ⟨c, h⟩
            · obtain ⟨b, h1, cl, dx, us, h2, h3⟩ := R.sto i _ hk
              obtain ⟨u, k1, k2⟩ := h3.2 f v0 hl
              have eu := vr_ref h0 ha k2
              subst eu
              refine ⟨b, h1, cl, dx, us, oth (by intro e; cases e) h1 _ h2, ?_, fun f' v' hv' => ?_⟩
              · rw [h3.1]
                have : ∀ fs : List (Str × Val), fs.lookup f = some v0 → fs.map (·.1) = (putA f v fs).map (·.1) := by
                  intro fs
                  induction fs with
                  | nil => intro h; cases h
                  | cons p r ih =>
                    intro h
                    obtain ⟨k, x⟩ := p
                    unfold putA
                    by_cases c : k = f
                    · rw [if_pos c]; rfl
                    · rw [if_neg c, List.map_cons, List.map_cons]
                      rw [List.lookup_cons] at h
                      have : (f == k) = false := by simp [Ne.symm c]
                      rw [this] at h
                      rw [ih h]
                exact this fs hl
              · rw [lookup_putA] at hv'
                by_cases c : f' = f
                · subst c
                  rw [if_pos rfl] at hv'
                  cases hv'
                  exact ⟨_, k1, vr_own hv.own ha new⟩
                · rw [if_neg c] at hv'
                  obtain ⟨u', l1, l2⟩ := h3.2 f' v' hv'
                  exact ⟨u', l1, l2.ex (Ex.refl _) (fun _ _ z => z) fun b z => ⟨z, oth (by intro e; cases e; exact c rfl) z⟩⟩
            · exact keep h (fun f' => by intro e; cases e; exact c rfl) (by intro e; cases e)
  refine ⟨base, R.ext, ex_off R.gro hB, R.ntB, R.offB, R.old, ?_, fun j w hj => ?_⟩
  · cases o with
    | slot k => simp [Sg.put, R.len]
    | ob k => exact R.len
    | fld k f => rw [put_fld_sl]; exact R.len
  · have keep : g.sl[j]? = some (some w) → o ≠ .slot j → ∃ u, σ[j]? = some (some u) ∧ VR K α H (upd H1 a ho) (.slot j) u w := fun hj hne => by
      obtain ⟨u, h1, h2⟩ := R.slt j w hj
      exact ⟨u, h1, h2.ex (Ex.refl _) (fun _ _ z => z) fun b z => ⟨z, oth (Ne.symm hne) z⟩⟩
    cases o with
    | slot k =>
      rcases set_get (show (g.sl.set k (some v))[j]? = some (some w) from hj) with ⟨rfl, e⟩ | ⟨c, h⟩
      · cases e
        have hs : g.sl[j]? = some (some v0) := by
          unfold contAt at hc
          cases hk : g.sl[j]? with
          | none => simp only [hk] at hc; cases hc
          | some x =>
            cases x with
            | none => simp only [hk] at hc; cases hc
            | some y => simp only [hk] at hc; cases hc; rfl
        obtain ⟨u, h1, h2⟩ := R.slt j v0 hs
        have eu := vr_ref h0 ha h2
        subst eu
        exact ⟨_, h1, vr_own hv.own ha new⟩
      · exact keep h (by intro e; cases e; exact c rfl)
    | ob k => exact keep hj (by intro e; cases e)
    | fld k f =>
      rw [put_fld_sl] at hj
      exact keep hj (by intro e; cases e)
/-- a field is stored; what it owns may be new -/
theorem Rel.setF {i : Nat} {C f : Str} {fs : List (Str × Val)} {v : Val} {u : V} {a dx : Addr} {us : List (Str × V)} (R : Rel K FL T F α H H1 σ g) (hs : g.st[i]? = some (.ins C fs)) (ha : α (.ob i) = some a) (h1 : H1 a = some (.ins (gaE K C) dx us)) (hf : FsR K α H H1 i us fs) (hcl : ClsOk K FL C)
    (hα : ∀ o, o ≠ .fld i f → α' o = α o) (hn : ∀ p, α' (.fld i f) = some p → α (.fld i f) = some p ∨ (H p = none ∧ F.B p = none ∧ (∀ o, α o ≠ some p) ∧ ∃ ho, H1 p = some ho ∧ PlainO ho)) (hv : VR K α' H (upd H1 a (.ins (gaE K C) dx (putF f u us))) (.fld i f) u v) :
    Rel K FL T F α' H (upd H1 a (.ins (gaE K C) dx (putF f u us))) σ ⟨g.sl, g.st.set i (.ins C (putA f v fs))⟩ := by
  have hH := R.off _ a ha
  have hB := R.offB _ a ha
  have of' : ∀ {o b}, o ≠ .fld i f → α' o = some b → α o = some b := fun ne h => by rw [hα _ ne] at h; exact h
  have oth : ∀ {o b}, o ≠ .ob i → o ≠ .fld i f → α o = some b → ∀ w, H1 b = some w → upd H1 a (.ins (gaE K C) dx (putF f u us)) b = some w := fun {o b} hne _ hb w hw => upd_keep (fun e => hne (R.inj o _ a (e ▸ hb) ha)) hw
  have fne : ∀ p, α' (.fld i f) = some p → p ≠ a := fun p hp e => by
    subst e
    rcases hn p hp with z | ⟨_, _, z, _⟩
    · have := R.inj _ _ _ z ha
      cases this
    · exact z _ ha
  have inj' : ∀ o o' b, α' o = some b → α' o' = some b → o = o' := fun o o' b h h' => by
    by_cases c : o = .fld i f
    · by_cases c' : o' = .fld i f
      · rw [c, c']
      · subst c
        have k' := of' c' h'
        rcases hn b h with z | ⟨_, _, z, _⟩
        · exact R.inj _ _ b z k'
        · exact absurd k' (z o')
    · by_cases c' : o' = .fld i f
      · subst c'
        have k := of' c h
        rcases hn b h' with z | ⟨_, _, z, _⟩
        · exact R.inj _ _ b k z
        · exact absurd k (z o)
      · exact R.inj _ _ b (of' c h) (of' c' h')
  refine ⟨⟨ex_off R.ex hH, R.nt, EV.tabs_keep R.tb fun b w hb hp => upd_keep (fun e => by subst e; rw [h1] at hb; cases hb; exact hp trivial) hb, inj', fun o b h => ?_, fun o b h => ?_, fun k ob hk => ?_, fun k hk => (hα _ (by intro e; cases e)).trans (R.dom k (by simpa using hk))⟩, R.ext, ex_off R.gro hB, R.ntB, fun o b h => ?_, fun k b h => ?_, R.len, fun j w hj => ?_⟩
  · by_cases c : o = .fld i f
    · subst c
      rcases hn b h with z | ⟨z, _⟩
      · exact R.off _ b z
      · exact z
    · exact R.off _ b (of' c h)
  · by_cases c : o = .fld i f
    · subst c
      rcases hn b h with z | ⟨_, _, _, ho, z, p⟩
      · obtain ⟨w, hw, pw⟩ := R.pl _ b z
        exact ⟨w, upd_keep (fne b h) hw, pw⟩
      · exact ⟨ho, upd_keep (fne b h) z, p⟩
    · obtain ⟨w, hw, pw⟩ := R.pl _ b (of' c h)
      by_cases c2 : o = .ob i
      · subst c2
        have := of' c h
        rw [ha] at this
        cases this
        exact ⟨_, upd_same, trivial⟩
      · exact ⟨w, oth c2 c (of' c h) w hw, pw⟩
  · rcases set_get hk with ⟨rfl, rfl⟩ | ⟨c, h⟩
    · refine ⟨a, by rw [hα _ (by intro e; cases e)]; exact ha, hcl, dx, _, upd_same, put_names f u v hf.1, fun f' v' hv' => ?_⟩
      rw [lookup_putA] at hv'
      by_cases c : f' = f
      · subst c
        rw [if_pos rfl] at hv'
        cases hv'
        exact ⟨u, by rw [lookup_putF, if_pos rfl], hv⟩
      · rw [if_neg c] at hv'
        obtain ⟨u', l1, l2⟩ := hf.2 f' v' hv'
        have ne : Owner.fld k f' ≠ .fld k f := by intro e; cases e; exact c rfl
        exact ⟨u', by rw [lookup_putF, if_neg c]; exact l1, l2.ex (Ex.refl _) (fun j b z => by rw [hα _ (by intro e; cases e)]; exact z) fun b z => ⟨by rw [hα _ ne]; exact z, oth (by intro e; cases e) ne z⟩⟩
    · obtain ⟨b, h2, h3⟩ := R.sto k ob h
      refine ⟨b, by rw [hα _ (by intro e; cases e)]; exact h2, h3.ex (Ex.refl _) (fun j b z => by rw [hα _ (by intro e; cases e)]; exact z) (fun f' b z => ?_) (oth (by intro e; cases e; exact c rfl) (by intro e; cases e) h2)⟩
      have ne : Owner.fld k f' ≠ .fld i f := by intro e; cases e; exact c rfl
      exact ⟨by rw [hα _ ne]; exact z, oth (by intro e; cases e) ne z⟩
  · by_cases c : o = .fld i f
    · subst c
      rcases hn b h with z | ⟨_, z, _⟩
      · exact R.offB _ b z
      · exact z
    · exact R.offB _ b (of' c h)
  · rw [hα _ (by intro e; cases e)]
    exact R.old k b h
  · obtain ⟨u', k1, k2⟩ := R.slt j w hj
    exact ⟨u', k1, k2.ex (Ex.refl _) (fun j b z => by rw [hα _ (by intro e; cases e)]; exact z) fun b z => ⟨by rw [hα _ (by intro e; cases e)]; exact z, oth (by intro e; cases e) (by intro e; cases e) z⟩⟩
/-- a slot gets what is new -/
theorem Rel.own (R : Rel K FL T F α H H1 σ g) (j : Nat) {p : Addr} {v : Val} {ho : HO} (hp : H1 p = some ho) (hH : H p = none) (hB : F.B p = none) (hn : ∀ o, α o ≠ some p) (hv : COk K H ho v) : Rel K FL T F (fun o => if o = .slot j then some p else α o) H H1 (σ.set j (some (.ref p))) (g.set j v) := by
  have e : ∀ {o}, o ≠ .slot j → (if o = .slot j then some p else α o) = α o := fun h => if_neg h
  have eo : ∀ {k b}, α (.ob k) = some b → (if Owner.ob k = .slot j then some p else α (.ob k)) = some b := fun h => by rw [if_neg (by intro e; cases e)]; exact h
  refine ⟨⟨R.ex, R.nt, R.tb, fun o o' a h h' => ?_, fun o a h => ?_, fun o a h => ?_, fun i ob hs => ?_, fun i hi => (if_neg (by intro e; cases e)).trans (R.dom i hi)⟩, R.ext, R.gro, R.ntB, fun o a h => ?_, fun i a h => eo (R.old i a h), by simp [Sg.set, R.len], fun k w hk => ?_⟩
  · by_cases c : o = .slot j
    · by_cases c' : o' = .slot j
      · rw [c, c']
      · subst c
        rw [if_pos rfl] at h
        rw [e c'] at h'
        cases h
        exact absurd h' (hn o')
    · by_cases c' : o' = .slot j
      · subst c'
        rw [if_pos rfl] at h'
        rw [e c] at h
        cases h'
        exact absurd h (hn o)
      · rw [e c] at h
        rw [e c'] at h'
        exact R.inj _ _ a h h'
  · by_cases c : o = .slot j
    · subst c; rw [if_pos rfl] at h; cases h; exact hH
    · rw [e c] at h; exact R.off _ a h
  · by_cases c : o = .slot j
    · subst c; rw [if_pos rfl] at h; cases h; exact ⟨ho, hp, hv.plain⟩
    · rw [e c] at h; exact R.pl _ a h
  · obtain ⟨a, h1, h2⟩ := R.sto i ob hs
    exact ⟨a, eo h1, h2.ex (Ex.refl _) (fun k b z => eo z) (fun f b z => ⟨by rw [if_neg (by intro e; cases e)]; exact z, fun _ z => z⟩) fun _ z => z⟩
  · by_cases c : o = .slot j
    · subst c; rw [if_pos rfl] at h; cases h; exact hB
    · rw [e c] at h; exact R.offB _ a h
  · rcases set_get hk with ⟨rfl, ek⟩ | ⟨c, h⟩
    · cases ek
      have hlt : k < σ.length := by
        rw [R.len]
        have := (List.getElem?_eq_some_iff.mp hk).1
        simpa [Sg.set] using this
      exact ⟨.ref p, by rw [List.getElem?_set_self hlt], vr_own hv.own (by rw [if_pos rfl]) (hv.co hp)⟩
    · obtain ⟨u, h1, h2⟩ := R.slt k w h
      exact ⟨u, by rw [List.getElem?_set_ne (Ne.symm c)]; exact h1, h2.ex (Ex.refl _) (fun i b z => eo z) fun b z => ⟨by rw [if_neg (by intro e; cases e; exact c rfl)]; exact z, fun _ z => z⟩⟩
end
end EV

/-! ### EV: statements (own work) -/
namespace EV
open PySem PySem.Spec PyProof.Rows L2 Evl L2H LamX LR
inductive Flo where
  | nx
  | rt (v : Rv)
  | er (x : Str)
  | bk
  | ct
abbrev SM := Sg → Option (Flo × Sg)
section
variable (K : PySem.W.Frag) (FL : Fl) (T : TbS) (W : WX)
def KS (F : Fr) (a0 : Nat → Option Addr) (g' : Sg) (D : Ends) : Flo → Prop
  | .nx => ∀ α' H' H2 σ', Rel K FL T F α' H' H2 σ' g' → D.nx σ' H2
  | .rt v => ∀ α' H' H2 σ' u, Rel K FL T F α' H' H2 σ' g' → RR K α' H' u v → D.rt u H2
  | .er x => ∀ α' H' H2 σ', Rel K FL T F α' H' H2 σ' g' → W (.ref (gaE K x)) none σ' H2
  | .bk => ∀ α' H' H2 σ', Rel K FL T F α' H' H2 σ' g' → D.bk σ' H2
  | .ct => ∀ α' H' H2 σ', Rel K FL T F α' H' H2 σ' g' → D.ct σ' H2
def SimS (ts : TS) (m : SM) : Prop := ∀ (F : Fr) (α : Al) (H H1 : Hp) (σ : L2.St) (g : Sg) (fl : Flo) (g' : Sg), Rel K FL T F α H H1 σ g → m g = some (fl, g') → ∀ D : Ends, KS K FL T W F (fun _ => none) g' D fl → ts D σ H1
end
/-- an expression, then a statement -/
def sBind {β : Type} (m : Sg → Option (Except Str β × Sg)) (k : β → SM) : SM := fun g => (m g).bind fun p => match p.1 with
  | .ok v => k v p.2
  | .error x => some (.er x, p.2)
theorem sBind_some {β : Type} {m : Sg → Option (Except Str β × Sg)} {k : β → SM} {g : Sg} {fl : Flo} {g' : Sg} (h : sBind m k g = some (fl, g')) : (∃ v g1, m g = some (.ok v, g1) ∧ k v g1 = some (fl, g')) ∨ ∃ x, m g = some (.error x, g') ∧ fl = .er x := by
  obtain ⟨⟨r1, g1⟩, h1, h2⟩ := bind_some h
  cases r1 with
  | ok v => exact .inl ⟨v, g1, h1, h2⟩
  | error x => cases h2; exact .inr ⟨x, h1, rfl⟩
section
variable {K : PySem.W.Frag} {FL : Fl} {T : TbS} {W : WX} {ta tb tc te : TE} {tt tu : TT} {pa pb pc : PM} {qa qb : PB} {tA tr : TA} {ps pr : PMs} {ma mb : EM} {ms mr : AM} {ba bb : BM} {t1 t2 : TS} {s1 s2 : SM} {i j : Nat}
def sNext : SM := fun g => some (.nx, g)
theorem ss_next : SimS K FL T W tNext sNext := fun F α H H1 σ g fl g' R h D k => by
  cases h
  exact k α H H1 σ R
def sSeq (a b : SM) : SM := fun g => (a g).bind fun p => match p.1 with
  | .nx => b p.2
  | fl => some (fl, p.2)
theorem ss_seq (h1 : SimS K FL T W t1 s1) (h2 : SimS K FL T W t2 s2) : SimS K FL T W (tSeq t1 t2) (sSeq s1 s2) := fun F α H H1 σ g fl g' R h D k => by
  obtain ⟨⟨f1, g1⟩, k1, k2⟩ := bind_some h
  refine h1 F α H H1 σ g f1 g1 R k1 _ ?_
  cases f1 with
  | nx => exact fun α' H' H2 σ' R' => h2 F α' H' H2 σ' g1 fl g' R' k2 D k
  | rt v => cases k2; exact k
  | er x => cases k2; exact k
  | bk => cases k2; exact k
  | ct => cases k2; exact k
def sIf (c : BM) (a b : SM) : SM := sBind c fun x => if x = true then a else b
theorem ss_if (hc : SimB K FL T W tt ba) (h1 : SimS K FL T W t1 s1) (h2 : SimS K FL T W t2 s2) : SimS K FL T W (tIfS tt t1 t2) (sIf ba s1 s2) := fun F α H H1 σ g fl g' R h D k => by
  rcases sBind_some h with ⟨v, g1, k1, k2⟩ | ⟨x, k1, rfl⟩
  · refine hc F α H H1 σ g _ g1 R k1 _ fun α1 Ha H2 R1 s1' => ?_
    cases v with
    | true => exact h1 F α1 Ha H2 σ g1 fl g' R1 k2 D k
    | false => exact h2 F α1 Ha H2 σ g1 fl g' R1 k2 D k
  · exact hc F α H H1 σ g _ _ R k1 _ fun α' H' H2 R' s' => k α' H' H2 σ R'
def sRet (m : EM) : SM := sBind m fun v => fun g => some (.rt v, g)
theorem ss_ret (h1 : SimE K FL T W te ma) : SimS K FL T W (tRet te) (sRet ma) := fun F α H H1 σ g fl g' R h D k => by
  rcases sBind_some h with ⟨v, g1, k1, k2⟩ | ⟨x, k1, rfl⟩
  · cases k2
    exact h1 F α H H1 σ g _ _ R k1 _ fun α1 Ha H2 u R1 s1 ru => k α1 Ha H2 σ u R1 ru
  · exact h1 F α H H1 σ g _ _ R k1 _ fun α' H' H2 R' s' => k α' H' H2 σ R'
def sRetN : SM := fun g => some (.rt (.dat .none), g)
theorem ss_retN : SimS K FL T W tRetN sRetN := fun F α H H1 σ g fl g' R h D k => by
  cases h
  exact k α H H1 σ _ R .non
def sExpr (m : EM) : SM := sBind m fun _ => fun g => some (.nx, g)
theorem ss_expr (h1 : SimE K FL T W te ma) : SimS K FL T W (tDrop te) (sExpr ma) := fun F α H H1 σ g fl g' R h D k => by
  rcases sBind_some h with ⟨v, g1, k1, k2⟩ | ⟨x, k1, rfl⟩
  · cases k2
    exact h1 F α H H1 σ g _ _ R k1 _ fun α1 Ha H2 u R1 s1 ru => k α1 Ha H2 σ R1
  · exact h1 F α H H1 σ g _ _ R k1 _ fun α' H' H2 R' s' => k α' H' H2 σ R'
/-- x = e -/
def sAsg (j : Nat) (m : EM) : SM := sBind m fun v => fun g => (argV v).bind fun x => some (.nx, g.set j x)
theorem RR.vr {α : Al} {H H1 : Hp} {u : V} {v : Rv} {x : Val} {o : Owner} (h : RR K α H u v) (hv : argV v = some x) : VR K α H H1 o u x := by
  cases v with
  | dat d => cases hv; exact h
  | at_ ow =>
    cases ow with
    | ob i => cases hv; exact h
    | slot j => cases hv
    | fld i f => cases hv
theorem ss_asg (h1 : SimE K FL T W te ma) : SimS K FL T W (tAsg te (gName j)) (sAsg j ma) := fun F α H H1 σ g fl g' R h D k => by
  rcases sBind_some h with ⟨v, g1, k1, k2⟩ | ⟨x, k1, rfl⟩
  · obtain ⟨x, k3, k4⟩ := bind_some k2
    cases k4
    exact h1 F α H H1 σ g _ _ R k1 _ fun α1 Ha H2 u R1 s1 ru => k α1 Ha H2 _ (R1.set j (ru.vr k3))
  · exact h1 F α H H1 σ g _ _ R k1 _ fun α' H' H2 R' s' => k α' H' H2 σ R'
/-- a, (b, c) = e -/
def sAsgG (m : EM) (gm : GM) : SM := sBind m fun v => fun g => (okV v).bind fun d => (gm d g).bind fun g1 => some (.nx, g1)
theorem ss_asgG {tg : TG} {gm : GM} {vs : List Nat} (h1 : SimE K FL T W te ma) (hg : SimG K FL T tg gm vs) : SimS K FL T W (tAsg te tg) (sAsgG ma gm) := fun F α H H1 σ g fl g' R h D k => by
  rcases sBind_some h with ⟨v, g1, k1, k2⟩ | ⟨x, k1, rfl⟩
  · obtain ⟨d, k3, k4⟩ := bind_some k2
    obtain ⟨g2, k5, k6⟩ := bind_some k4
    cases k6
    refine h1 F α H H1 σ g _ _ R k1 _ fun α1 Ha H2 u R1 s1 ru => ?_
    obtain ⟨σ', R2, _, q⟩ := hg F α1 Ha H2 σ _ _ u d R1 (ru.dat (okV_some k3)) k5
    exact q _ (k α1 Ha H2 σ' R2)
  · exact h1 F α H H1 σ g _ _ R k1 _ fun α' H' H2 R' s' => k α' H' H2 σ R'
/-- a, b = x, y -/
def sPar (i j : Nat) (a : AM) : SM := sBind a fun vs => fun g => match vs with
  | [v, w] => (argV v).bind fun x => (argV w).bind fun y => some (.nx, (g.set i x).set j y)
  | _ => none
theorem ss_par (h1 : SimA K FL T W tA ms) : SimS K FL T W (tPar i j tA) (sPar i j ms) := fun F α H H1 σ g fl g' R h D k => by
  rcases sBind_some h with ⟨vs, g1, k1, k2⟩ | ⟨x, k1, rfl⟩
  · refine h1 F α H H1 σ g _ _ R k1 _ fun α1 Ha H2 us R1 s1 ru => ?_
    cases ru with
    | nil => cases k2
    | @cons u v us vs r1 r2 =>
      cases r2 with
      | nil => cases k2
      | @cons u2 v2 us2 vs2 r3 r4 =>
        cases r4 with
        | cons _ _ => cases k2
        | nil =>
          obtain ⟨x, k3, k4⟩ := bind_some (show (argV v).bind _ = _ from k2)
          obtain ⟨y, k5, k6⟩ := bind_some k4
          cases k6
          exact ⟨u, u2, rfl, k α1 Ha H2 _ ((R1.set i (r1.vr k3)).set j (r3.vr k5))⟩
  · exact h1 F α H H1 σ g _ _ R k1 _ fun α' H' H2 R' s' => k α' H' H2 σ R'
/-! ### what is new and one's own -/
/-- an expression that makes a list or a dict: its content -/
abbrev NM := Sg → Option (Except Str Val × Sg)
def KN (K : PySem.W.Frag) (FL : Fl) (T : TbS) (W : WX) (F : Fr) (α : Al) (H : Hp) (σ : L2.St) (g' : Sg) (Q : VK) : Except Str Val → Prop
  | .ok v => ∀ α' H' H2 p ho, Rel K FL T F α' H' H2 σ g' → Stp α H α' H' → H2 p = some ho → H' p = none → F.B p = none → (∀ o, α' o ≠ some p) → COk K H' ho v → Q (.ref p) H2
  | .error x => ∀ α' H' H2, Rel K FL T F α' H' H2 σ g' → Stp α H α' H' → W (.ref (gaE K x)) none σ H2
def SimN (K : PySem.W.Frag) (FL : Fl) (T : TbS) (W : WX) (te : TE) (m : NM) : Prop := ∀ (F : Fr) (α : Al) (H H1 : Hp) (σ : L2.St) (g : Sg) (r : Except Str Val) (g' : Sg), Rel K FL T F α H H1 σ g → m g = some (r, g') → ∀ Q : VK, KN K FL T W F α H σ g' Q r → te σ H1 Q
def sAsgN (j : Nat) (m : NM) : SM := sBind m fun v => fun g => some (.nx, g.set j v)
theorem ss_asgN {m : NM} (h1 : SimN K FL T W te m) : SimS K FL T W (tAsg te (gName j)) (sAsgN j m) := fun F α H H1 σ g fl g' R h D k => by
  rcases sBind_some h with ⟨v, g1, k1, k2⟩ | ⟨x, k1, rfl⟩
  · cases k2
    exact h1 F α H H1 σ g _ _ R k1 _ fun α1 Ha H2 p ho R1 s1 hp hH hB hn hc => k _ Ha H2 _ (R1.own j hp hH hB hn hc)
  · exact h1 F α H H1 σ g _ _ R k1 _ fun α' H' H2 R' s' => k α' H' H2 σ R'
def nLst (a : AM) : NM := eBind a fun xs => fun g => (okVs xs).bind fun ds => if ds.length ≤ 100000 then some (.ok (.ownL ds), g) else none
theorem Rel.fresh {F : Fr} {α : Al} {H H1 : Hp} {σ : L2.St} {g : Sg} {p : Addr} (R : Rel K FL T F α H H1 σ g) (hp : H1 p = none) : H p = none ∧ F.B p = none ∧ ∀ o, α o ≠ some p := ⟨fresh_back R.ex hp, fresh_back R.gro hp, fun o ho => by
  obtain ⟨u, hu, _⟩ := R.pl o p ho
  rw [hp] at hu
  cases hu⟩
theorem sn_lst (ha : SimA K FL T W tA ms) : SimN K FL T W (tLst tA) (nLst ms) := fun F α H H1 σ g r g' R hm Q q => by
  rcases eBind_some hm with ⟨v, g1, h1, h2⟩ | ⟨x, h1, rfl⟩
  · refine ha F α H H1 σ g _ _ R h1 _ fun α1 Ha H2 xs R1 s1 rx => ?_
    obtain ⟨ds, k1, h5⟩ := bind_some h2
    obtain ⟨hl, h7⟩ := ite_some h5
    cases h7
    have da := okVs_all rx k1
    refine ⟨by rw [da.length]; exact sz_of hl, fun p hp => ?_⟩
    obtain ⟨f1, f2, f3⟩ := R1.fresh hp
    exact q α1 Ha (upd H2 p (.lst xs)) p _ (R1.same (Ex.new hp)) s1 upd_same f1 f2 f3 ⟨xs, rfl, da⟩
  · exact ha F α H H1 σ g _ _ R h1 _ q
def nDic : NM := fun g => some (.ok (.ownD []), g)
theorem sn_dic : SimN K FL T W tDNewK nDic := fun F α H H1 σ g r g' R hm Q q => by
  cases hm
  intro p hp
  obtain ⟨f1, f2, f3⟩ := R.fresh hp
  exact q α H (upd H1 p (.dK [])) p _ (R.same (Ex.new hp)) (Stp.refl _ _) upd_same f1 f2 f3 ⟨[], rfl, rfl, .nil⟩
/-- a comprehension as a list of one's own -/
def nLc (it : IM) (gm : GM) (t : PB) (el : PM) (vs : List Nat) : NM := fun g => (it g).bind fun ds => if ds.length ≤ 50000 then (lcAll gm t el (g.wipe vs) ds).map fun out => (.ok (.ownL out), g) else none
theorem sn_lc {wi : TI} {tg : TG} {gm : GM} {it : IM} {vs ws : List Nat} (hi : SimIo K FL T wi it) (hg : SimG K FL T tg gm vs) (ht : SimPB K FL T tt qa) (he : SimP K FL T te pa) (hv : ws = vs := by rfl) : SimN K FL T W (tLc wi tg tt te ws) (nLc it gm qa pa vs) := fun F α H H1 σ g r g' R h Q q => by
  subst hv
  obtain ⟨ds, h1, h2⟩ := bind_some h
  have h2 : (if ds.length ≤ 50000 then (lcAll gm qa pa (g.wipe ws) ds).map (fun out => (Except.ok (Val.ownL out), g)) else none) = some (r, g') := h2
  split at h2
  · rename_i hl
    obtain ⟨out, h3, h4⟩ := Option.map_eq_some_iff.mp h2
    cases h4
    refine lc_new hi hg ht he R h1 hl h3 Q fun p H2 H' xs e2 e x n1 n2 h4 h5 => ?_
    obtain ⟨f1, f2, f3⟩ := R.fresh n1
    exact q α H' H2 p _ (R.grow e2 e x) (Stp.of x.ex) h4 n2 f2 f3 ⟨xs, rfl, h5⟩
  · cases h2
/-! ### fields -/
/-- the object at o: its number, its class, its fields -/
def insAt (g : Sg) (o : Owner) : Option (Nat × Str × List (Str × Val)) := match o with
  | .ob i => match g.st[i]? with
    | some (.ins C fs) => some (i, C, fs)
    | _ => none
  | _ => none
theorem Rel.insAt {F : Fr} {α : Al} {H H1 : Hp} {σ : L2.St} {g : Sg} {o : Owner} {i : Nat} {C : Str} {fs : List (Str × Val)} {a : Addr} (R : Rel K FL T F α H H1 σ g) (h : EV.insAt g o = some (i, C, fs)) (ha : α o = some a) : o = .ob i ∧ g.st[i]? = some (.ins C fs) ∧ ClsOk K FL C ∧ ∃ dx us, H1 a = some (.ins (gaE K C) dx us) ∧ FsR K α H H1 i us fs := by
  unfold EV.insAt at h
  split at h
  · split at h
    · rename_i hs
      cases h
      obtain ⟨a', k1, c, dx, us, k2, k3⟩ := R.sto _ _ hs
      rw [ha] at k1
      cases k1
      exact ⟨rfl, hs, c, dx, us, k2, k3⟩
    · cases h
  · cases h
theorem FsR.len {α : Al} {H H1 : Hp} {i : Nat} {us : List (Str × V)} {fs : List (Str × Val)} (h : FsR K α H H1 i us fs) : us.length = fs.length := by
  have := congrArg List.length h.1
  simpa using this
/-- o.f = e -/
def sSetF (FL : Fl) (w : WM) (f : Str) (m : EM) : SM := sBind m fun v => fun g => (argV v).bind fun x => (w g).bind fun o => (EV.insAt g o).bind fun p => if f ∈ FL p.2.1 ∧ p.2.2.length < 1000 then some (.nx, ⟨g.sl, g.st.set p.1 (.ins p.2.1 (putA f x p.2.2))⟩) else none
theorem ss_setF {w : WM} {f : Str} (hw : SimW K FL T ta w) (h1 : SimE K FL T W te ma) : SimS K FL T W (sFld K ta te f) (sSetF FL w f ma) := fun F α H H1 σ g fl g' R h D k => by
  rcases sBind_some h with ⟨v, g1, k1, k2⟩ | ⟨x, k1, rfl⟩
  · refine h1 F α H H1 σ g _ _ R k1 _ fun α1 Ha H2 u R1 s1 ru => ?_
    obtain ⟨x, k3, k4⟩ := bind_some k2
    obtain ⟨o, k5, k6⟩ := bind_some k4
    obtain ⟨⟨n, C, fs⟩, k7, k8⟩ := bind_some k6
    obtain ⟨⟨hf, hl⟩, e⟩ := ite_some k8
    cases e
    obtain ⟨a, l1, l2⟩ := hw F α1 Ha H2 σ _ o R1 k5
    obtain ⟨rfl, hs, hc, dx, us, l3, l4⟩ := R1.insAt k7 l1
    refine l2 _ ⟨a, _, dx, us, rfl, l3, hc.cls, hc.no f hf, by rw [l4.len]; exact hl, ?_⟩
    refine k α1 Ha _ σ (R1.setF hs l1 l3 l4 hc (fun _ _ => rfl) (fun p hp => .inl hp) ?_)
    exact ru.vr k3
  · exact h1 F α H H1 σ g _ _ R k1 _ fun α' H' H2 R' s' => k α' H' H2 σ R'
/-- o.f = what is new -/
def sSetFN (FL : Fl) (w : WM) (f : Str) (m : NM) : SM := sBind m fun x => fun g => (w g).bind fun o => (EV.insAt g o).bind fun p => if f ∈ FL p.2.1 ∧ p.2.2.length < 1000 then some (.nx, ⟨g.sl, g.st.set p.1 (.ins p.2.1 (putA f x p.2.2))⟩) else none
theorem ss_setFN {w : WM} {f : Str} {m : NM} (hw : SimW K FL T ta w) (h1 : SimN K FL T W te m) : SimS K FL T W (sFld K ta te f) (sSetFN FL w f m) := fun F α H H1 σ g fl g' R h D k => by
  rcases sBind_some h with ⟨v, g1, k1, k2⟩ | ⟨x, k1, rfl⟩
  · refine h1 F α H H1 σ g _ _ R k1 _ fun α1 Ha H2 q ho R1 s1 hp hH hB hn hco => ?_
    obtain ⟨o, k5, k6⟩ := bind_some k2
    obtain ⟨⟨n, C, fs⟩, k7, k8⟩ := bind_some k6
    obtain ⟨⟨hf, hl⟩, e⟩ := ite_some k8
    cases e
    obtain ⟨a, l1, l2⟩ := hw F α1 Ha H2 σ _ o R1 k5
    obtain ⟨rfl, hs, hc, dx, us, l3, l4⟩ := R1.insAt k7 l1
    have hqa : q ≠ a := fun e => by subst e; exact hn _ l1
    refine l2 _ ⟨a, _, dx, us, rfl, l3, hc.cls, hc.no f hf, by rw [l4.len]; exact hl, ?_⟩
    refine k _ Ha _ σ (R1.setF (α' := fun o => if o = .fld n f then some q else α1 o) hs l1 l3 l4 hc (fun o ne => if_neg ne) (fun p hp' => .inr ?_) ?_)
    · rw [if_pos rfl] at hp'
      cases hp'
      exact ⟨hH, hB, hn, ho, hp, hco.plain⟩
    · exact vr_own hco.own (by rw [if_pos rfl]) (hco.co (upd_keep hqa hp))
  · exact h1 F α H H1 σ g _ _ R k1 _ fun α' H' H2 R' s' => k α' H' H2 σ R'
/-- o.f op= e, e pure -/
def sAugF (FL : Fl) (w : WM) (f : Str) (op : PyData → PyData → Option PyData) (p : PM) : SM := fun g => (w g).bind fun o => (EV.insAt g o).bind fun q => if f ∈ FL q.2.1 ∧ q.2.2.length < 1000 then (q.2.2.lookup f).bind fun v => (match v with | .dat d => some d | _ => none).bind fun d => (p g).bind fun e => (op d e).bind fun z => some (.nx, ⟨g.sl, g.st.set q.1 (.ins q.2.1 (putA f (.dat z) q.2.2))⟩) else none
theorem ss_augF {w : WM} {f : Str} {op : PyData → PyData → Option PyData} {rd : V → V → Hp → VK → Prop} (hw : SimW K FL T ta w) (hop : OpD K rd op) (h1 : SimP K FL T te pa) : SimS K FL T W (sFldAug K ta te rd f) (sAugF FL w f op pa) := fun F α H H1 σ g fl g' R h D k => by
  obtain ⟨o, k5, k6⟩ := bind_some h
  obtain ⟨⟨n, C, fs⟩, k7, k8⟩ := bind_some k6
  have k8 : (if f ∈ FL C ∧ fs.length < 1000 then _ else _) = some (fl, g') := k8
  split at k8
  · rename_i hf
    obtain ⟨v, m1, k8⟩ := bind_some k8
    obtain ⟨d, m2, k8⟩ := bind_some k8
    obtain ⟨e, m3, k8⟩ := bind_some k8
    obtain ⟨z, m4, k8⟩ := bind_some k8
    cases k8
    cases v with
    | dat d' =>
      cases m2
      obtain ⟨a, l1, l2⟩ := hw F α H H1 σ _ o R k5
      obtain ⟨rfl, hs, hc, dx, us, l3, l4⟩ := R.insAt k7 l1
      obtain ⟨u, l5, l6⟩ := l4.2 f _ m1
      refine l2 _ ⟨a, _, dx, us, u, rfl, l3, hc.cls, hc.no f hf.1, l5, ?_⟩
      refine h1 F α H H1 σ g e R m3 _ fun y H2 Ha e2 ea xa da => ?_
      refine hop d e z m4 Ha Ha u y (Ex.refl _) (Dt.ex xa.ex l6) da H2 ea _ fun w H3 Hb e3 eb xb db => ?_
      have R2 : Rel K FL T F α Hb H3 σ g := (R.grow e2 ea xa).grow e3 eb xb
      obtain ⟨_, _, _, dx', us', l7, l8⟩ := R2.insAt k7 l1
      refine ⟨dx', us', l7, by rw [l8.len]; exact hf.2, ?_⟩
      exact k α Hb _ σ (R2.setF hs l1 l7 l8 hc (fun _ _ => rfl) (fun p hp => .inl hp) db)
    | obj i => cases m2
    | ownL ds => cases m2
    | ownD ds => cases m2
  · cases k8
end
end EV

/-! ### EV: dicts and lists in their places; loops; raise (own work) -/
namespace EV
open PySem PySem.Spec PyProof.Rows L2 Evl L2H LamX LR
def valD (kvs : List (Key × PyData)) (k : Key) : Option PyData := (kvs.find? fun kv => decide (kv.1 = k)).map (·.2)
def putD (kvs : List (Key × PyData)) (k : Key) (v : PyData) : List (Key × PyData) := if (kvs.any fun kv => decide (kv.1 = k)) = true then kvs.map (fun kv => if kv.1 = k then (kv.1, v) else kv) else kvs ++ [(k, v)]
def dropD (kvs : List (Key × PyData)) (k : Key) : List (Key × PyData) := kvs.filter fun kv => decide (kv.1 ≠ k)
def keyD (d : PyData) : Option Key := match d with
  | .int i => some (.inl i)
  | .str x => some (.inr x)
  | _ => none
def keyV (k : Key) : PyData := match k with
  | .inl i => .int i
  | .inr x => .str x
section
variable {K : PySem.W.Frag} {H : Hp}
theorem keyD_eq {d : PyData} {k : Key} {v : V} (h : keyD d = some k) (hd : Dt K H v d) : v = kV k := by
  cases d <;> simp [keyD] at h
  · subst h; exact hd.int_eq
  · subst h; exact hd.str_eq
inductive KvI (K : PySem.W.Frag) (H : Hp) : List (Key × V) → List (Key × PyData) → Prop
  | nil : KvI K H [] []
  | cons {k : Key} {u : V} {d : PyData} {ws : List (Key × V)} {kvs : List (Key × PyData)} : Dt K H u d → KvI K H ws kvs → KvI K H ((k, u) :: ws) ((k, d) :: kvs)
theorem KvR.i {ws : List (Key × V)} {kvs : List (Key × PyData)} (h : KvR K H ws kvs) : KvI K H ws kvs := by
  induction ws generalizing kvs with
  | nil =>
    cases kvs with
    | nil => exact .nil
    | cons p r => cases h.1
  | cons p r ih =>
    cases kvs with
    | nil => cases h.1
    | cons q s =>
      obtain ⟨k, u⟩ := p
      obtain ⟨k', d⟩ := q
      obtain ⟨h1, h2⟩ := h
      simp only [List.map_cons, List.cons.injEq] at h1
      obtain ⟨e1, e2⟩ := h1
      subst e1
      cases h2 with
      | cons a b => exact .cons a (ih ⟨e2, b⟩)
theorem KvI.r {ws : List (Key × V)} {kvs : List (Key × PyData)} (h : KvI K H ws kvs) : KvR K H ws kvs := by
  induction h with
  | nil => exact ⟨rfl, .nil⟩
  | cons a _ ih => exact ⟨by rw [List.map_cons, List.map_cons, ih.1], .cons a ih.2⟩
theorem KvI.val {ws : List (Key × V)} {kvs : List (Key × PyData)} (h : KvI K H ws kvs) (k : Key) : (valV ws k = none ∧ valD kvs k = none) ∨ ∃ u d, valV ws k = some u ∧ valD kvs k = some d ∧ Dt K H u d := by
  induction h with
  | nil => exact .inl ⟨rfl, rfl⟩
  | @cons k' u d ws kvs a _ ih =>
    by_cases c : k' = k
    · exact .inr ⟨u, d, by simp [valV, c], by simp [valD, c], a⟩
    · have e1 : valV ((k', u) :: ws) k = valV ws k := valV_neg c
      have e2 : valD ((k', d) :: kvs) k = valD kvs k := by simp [valD, List.find?_cons, c]
      rw [e1, e2]
      exact ih
theorem KvI.any {ws : List (Key × V)} {kvs : List (Key × PyData)} (h : KvI K H ws kvs) (k : Key) : (ws.any fun kv => decide (kv.1 = k)) = (kvs.any fun kv => decide (kv.1 = k)) := by
  induction h with
  | nil => rfl
  | cons a _ ih => rw [List.any_cons, List.any_cons, ih]
theorem KvI.put {ws : List (Key × V)} {kvs : List (Key × PyData)} (h : KvI K H ws kvs) (k : Key) {u : V} {d : PyData} (hd : Dt K H u d) : KvI K H (putK ws k u) (putD kvs k d) := by
  unfold putK putD
  rw [h.any k]
  split
  · induction h with
    | nil => exact .nil
    | @cons k' u' d' ws kvs a b ih =>
      rename_i c
      rw [List.map_cons, List.map_cons]
      have rest : KvI K H (ws.map fun kv => if kv.1 = k then (kv.1, u) else kv) (kvs.map fun kv => if kv.1 = k then (kv.1, d) else kv) := by
        clear ih c
        induction b with
        | nil => exact .nil
        | @cons k2 u2 d2 ws kvs a2 b2 ih2 =>
          rw [List.map_cons, List.map_cons]
          by_cases c : k2 = k
          · rw [if_pos c, if_pos c]; exact .cons hd ih2
          · rw [if_neg c, if_neg c]; exact .cons a2 ih2
      by_cases c : k' = k
      · rw [if_pos c, if_pos c]; exact .cons hd rest
      · rw [if_neg c, if_neg c]; exact .cons a rest
  · induction h with
    | nil => exact .cons hd .nil
    | @cons k' u' d' ws kvs a b ih =>
      rename_i c
      refine .cons a (ih fun z => c ?_)
      rw [List.any_cons, z, Bool.or_true]
theorem KvI.drop {ws : List (Key × V)} {kvs : List (Key × PyData)} (h : KvI K H ws kvs) (k : Key) : KvI K H (dropK ws k) (dropD kvs k) := by
  unfold dropK dropD
  induction h with
  | nil => exact .nil
  | @cons k' u d ws kvs a _ ih =>
    by_cases c : k' = k
    · have e : decide (k' ≠ k) = false := decide_eq_false (fun z => z c)
      rw [List.filter_cons, List.filter_cons]
      simp only [e]
      exact ih
    · have e : decide (k' ≠ k) = true := decide_eq_true c
      rw [List.filter_cons, List.filter_cons]
      simp only [e]
      exact .cons a ih
theorem KvI.len {ws : List (Key × V)} {kvs : List (Key × PyData)} (h : KvI K H ws kvs) : ws.length = kvs.length := by
  induction h with
  | nil => rfl
  | cons _ _ ih => rw [List.length_cons, List.length_cons, ih]
theorem KvI.keys {ws : List (Key × V)} {kvs : List (Key × PyData)} (h : KvI K H ws kvs) : ws.map (·.1) = kvs.map (·.1) := h.r.1
end
section
variable {K : PySem.W.Frag} {FL : Fl} {T : TbS} {W : WX} {ta tb tc te td ty tx : TE} {tt tu : TT} {pa pb pc : PM} {qa qb : PB} {tA tr : TA} {ps pr : PMs} {ma mb : EM} {ms mr : AM} {ba bb : BM} {t1 t2 : TS} {s1 s2 : SM} {i j : Nat} {w : WM}
theorem Rel.dicI {F : Fr} {α : Al} {H H1 : Hp} {σ : L2.St} {g : Sg} {o : Owner} {ds : List (Key × PyData)} {a : Addr} (R : Rel K FL T F α H H1 σ g) (h : dicAt g o = some ds) (ha : α o = some a) : ∃ ws, H1 a = some (.dK ws) ∧ KvI K H ws ds := by
  obtain ⟨ws, h1, h2⟩ := R.dic h ha
  exact ⟨ws, h1, h2.i⟩
/-- d[k], d.get(k, x), k in d -/
def pDGet (w : WM) (p : PM) : PM := fun g => (w g).bind fun o => (p g).bind fun y => (keyD y).bind fun k => (dicAt g o).bind fun kvs => valD kvs k
theorem sp_dget (hw : SimW K FL T td w) (hp : SimP K FL T ty pa) : SimP K FL T (tDGet td ty) (pDGet w pa) := fun F α H H1 σ g d R h Q q => by
  obtain ⟨o, h1, h⟩ := bind_some h
  obtain ⟨y, h2, h⟩ := bind_some h
  obtain ⟨k, h3, h⟩ := bind_some h
  obtain ⟨kvs, h4, h5⟩ := bind_some h
  obtain ⟨a, k1, k2⟩ := hw F α H H1 σ g o R h1
  refine k2 _ (hp F α H H1 σ g y R h2 _ fun u H2 Ha e2 ea xa da => ?_)
  have R2 := R.grow e2 ea xa
  obtain ⟨ws, k3, k4⟩ := R2.dicI h4 k1
  rcases k4.val k with ⟨_, z⟩ | ⟨v, d', z1, z2, z3⟩
  · rw [h5] at z; cases z
  · rw [h5] at z2
    cases z2
    refine ⟨a, v, rfl, ?_, q v H2 Ha e2 ea xa z3⟩
    rw [keyD_eq h3 da, ← z1]
    exact DGet.k k3
def pDGet2 (w : WM) (p x : PM) : PM := fun g => (w g).bind fun o => (p g).bind fun y => (x g).bind fun z => (keyD y).bind fun k => (dicAt g o).bind fun kvs => some ((valD kvs k).getD z)
theorem sp_dget2 (hw : SimW K FL T td w) (hp : SimP K FL T ty pa) (hx : SimP K FL T tx pb) : SimP K FL T (tDGet2 td ty tx) (pDGet2 w pa pb) := fun F α H H1 σ g d R h Q q => by
  obtain ⟨o, h1, h⟩ := bind_some h
  obtain ⟨y, h2, h⟩ := bind_some h
  obtain ⟨x, h6, h⟩ := bind_some h
  obtain ⟨k, h3, h⟩ := bind_some h
  obtain ⟨kvs, h4, h5⟩ := bind_some h
  cases h5
  obtain ⟨a, k1, k2⟩ := hw F α H H1 σ g o R h1
  obtain ⟨ws0, k0, _⟩ := R.dicI h4 k1
  refine k2 _ ⟨a, rfl, .inl ⟨ws0, .inl k0⟩, hp F α H H1 σ g y R h2 _ fun u H2 Ha e2 ea xa da => hx F α Ha H2 σ g x (R.grow e2 ea xa) h6 _ fun z H3 Hb e3 eb xb db => ?_⟩
  have R3 := (R.grow e2 ea xa).grow e3 eb xb
  obtain ⟨ws, k3, k4⟩ := R3.dicI h4 k1
  refine ⟨valV ws k, ?_, ?_⟩
  · rw [keyD_eq h3 da]
    exact DGet.k k3
  · rcases k4.val k with ⟨z1, z2⟩ | ⟨v, d', z1, z2, z3⟩
    · rw [z1]; rw [z2] at q
      exact q z H3 Hb (e2.trans e3) eb (xa.trans e2 xb) db
    · rw [z1]; rw [z2] at q
      exact q v H3 Hb (e2.trans e3) eb (xa.trans e2 xb) z3
def pDIn (p : PM) (w : WM) : PM := fun g => (w g).bind fun o => (p g).bind fun y => (keyD y).bind fun k => (dicAt g o).bind fun kvs => some (.bool (valD kvs k).isSome)
theorem sp_din (hw : SimW K FL T td w) (hp : SimP K FL T ty pa) : SimP K FL T (tDIn ty td) (pDIn pa w) := fun F α H H1 σ g d R h Q q => by
  obtain ⟨o, h1, h⟩ := bind_some h
  obtain ⟨y, h2, h⟩ := bind_some h
  obtain ⟨k, h3, h⟩ := bind_some h
  obtain ⟨kvs, h4, h5⟩ := bind_some h
  cases h5
  refine hp F α H H1 σ g y R h2 _ fun u H2 Ha e2 ea xa da => ?_
  have R2 := R.grow e2 ea xa
  obtain ⟨a, k1, k2⟩ := hw F α Ha H2 σ g o R2 h1
  obtain ⟨ws, k3, k4⟩ := R2.dicI h4 k1
  refine k2 _ ⟨a, valV ws k, rfl, by rw [keyD_eq h3 da]; exact DGet.k k3, ?_⟩
  have e : (valV ws k).isSome = (valD kvs k).isSome := by
    rcases k4.val k with ⟨z1, z2⟩ | ⟨v, d', z1, z2, z3⟩
    · rw [z1, z2]; rfl
    · rw [z1, z2]; rfl
  rw [e]
  exact q _ H2 Ha e2 ea xa (.bl _)
def pDNotIn (p : PM) (w : WM) : PM := fun g => (w g).bind fun o => (p g).bind fun y => (keyD y).bind fun k => (dicAt g o).bind fun kvs => some (.bool (!(valD kvs k).isSome))
theorem sp_dnotin (hw : SimW K FL T td w) (hp : SimP K FL T ty pa) : SimP K FL T (tDNotIn ty td) (pDNotIn pa w) := fun F α H H1 σ g d R h Q q => by
  obtain ⟨o, h1, h⟩ := bind_some h
  obtain ⟨y, h2, h⟩ := bind_some h
  obtain ⟨k, h3, h⟩ := bind_some h
  obtain ⟨kvs, h4, h5⟩ := bind_some h
  cases h5
  refine hp F α H H1 σ g y R h2 _ fun u H2 Ha e2 ea xa da => ?_
  have R2 := R.grow e2 ea xa
  obtain ⟨a, k1, k2⟩ := hw F α Ha H2 σ g o R2 h1
  obtain ⟨ws, k3, k4⟩ := R2.dicI h4 k1
  refine k2 _ ⟨a, valV ws k, rfl, by rw [keyD_eq h3 da]; exact DGet.k k3, ?_⟩
  have e : (valV ws k).isSome = (valD kvs k).isSome := by
    rcases k4.val k with ⟨z1, z2⟩ | ⟨v, d', z1, z2, z3⟩
    · rw [z1, z2]; rfl
    · rw [z1, z2]; rfl
  rw [e]
  exact q _ H2 Ha e2 ea xa (.bl _)
/-- d[k] = v -/
def sDPutP (w : WM) (pk pv : PM) : SM := fun g => (pv g).bind fun v => (w g).bind fun o => (pk g).bind fun y => (keyD y).bind fun k => (dicAt g o).bind fun kvs => if kvs.length < 100000 then some (.nx, g.put o (.ownD (putD kvs k v))) else none
theorem ss_dput (hw : SimW K FL T td w) (hk : SimP K FL T ty pa) (hv : SimP K FL T te pb) : SimS K FL T W (sDPut td ty te) (sDPutP w pa pb) := fun F α H H1 σ g fl g' R h D kk => by
  obtain ⟨v, h1, h⟩ := bind_some h
  obtain ⟨o, h2, h⟩ := bind_some h
  obtain ⟨y, h3, h⟩ := bind_some h
  obtain ⟨k, h4, h⟩ := bind_some h
  obtain ⟨kvs, h5, h6⟩ := bind_some h
  obtain ⟨hl, e⟩ := ite_some h6
  cases e
  refine hv F α H H1 σ g v R h1 _ fun u H2 Ha e2 ea xa da => ?_
  have R2 := R.grow e2 ea xa
  obtain ⟨a, k1, k2⟩ := hw F α Ha H2 σ g o R2 h2
  refine k2 _ (hk F α Ha H2 σ g y R2 h3 _ fun yv H3 Hb e3 eb xb db => ?_)
  have R3 := R2.grow e3 eb xb
  obtain ⟨ws, k3, k4⟩ := R3.dicI h5 k1
  refine ⟨a, _, rfl, .inl ⟨ws, k, k3, keyD_eq h4 db, ?_, rfl⟩, ?_⟩
  · rw [k4.len]; exact sz_lt hl
  · exact kk α Hb _ σ (R3.put k1 (dicAt_cont h5) (.inr ⟨_, rfl⟩) ⟨_, rfl, (k4.put k (Dt.ex xb.ex da)).r⟩)
/-- d.pop(k), d.pop(k, x) -/
def mDPop1 (w : WM) (p : PM) : EM := fun g => (w g).bind fun o => (p g).bind fun y => (keyD y).bind fun k => (dicAt g o).bind fun kvs => (valD kvs k).bind fun v => some (.ok (.dat v), g.put o (.ownD (dropD kvs k)))
theorem slot_put {α : Al} {H : Hp} : Stp α H α H := Stp.refl _ _
theorem se_dpop1 (hw : SimW K FL T td w) (hp : SimP K FL T ty pa) : SimE K FL T W (tDPop1 td ty) (mDPop1 w pa) := fun F α H H1 σ g r g' R h Q q => by
  obtain ⟨o, h1, h⟩ := bind_some h
  obtain ⟨y, h2, h⟩ := bind_some h
  obtain ⟨k, h3, h⟩ := bind_some h
  obtain ⟨kvs, h4, h⟩ := bind_some h
  obtain ⟨v, h5, h6⟩ := bind_some h
  cases h6
  obtain ⟨a, k1, k2⟩ := hw F α H H1 σ g o R h1
  obtain ⟨ws0, k0, _⟩ := R.dicI h4 k1
  refine k2 _ ⟨a, rfl, .inl ⟨ws0, .inl k0⟩, hp F α H H1 σ g y R h2 _ fun u H2 Ha e2 ea xa da => ?_⟩
  have R2 := R.grow e2 ea xa
  obtain ⟨ws, k3, k4⟩ := R2.dicI h4 k1
  rcases k4.val k with ⟨_, z⟩ | ⟨v', d', z1, z2, z3⟩
  · rw [h5] at z; cases z
  · rw [h5] at z2
    cases z2
    exact ⟨ws, k, v', k3, keyD_eq h3 da, z1, q α Ha _ v' (R2.put k1 (dicAt_cont h4) (.inr ⟨_, rfl⟩) ⟨_, rfl, (k4.drop k).r⟩) (Stp.of xa.ex) z3⟩
def mDPop2 (w : WM) (p x : PM) : EM := fun g => (w g).bind fun o => (p g).bind fun y => (x g).bind fun z => (keyD y).bind fun k => (dicAt g o).bind fun kvs => match valD kvs k with
  | some v => some (.ok (.dat v), g.put o (.ownD (dropD kvs k)))
  | none => some (.ok (.dat z), g)
theorem se_dpop2 (hw : SimW K FL T td w) (hp : SimP K FL T ty pa) (hx : SimP K FL T tx pb) : SimE K FL T W (tDPop2 td ty tx) (mDPop2 w pa pb) := fun F α H H1 σ g r g' R h Q q => by
  obtain ⟨o, h1, h⟩ := bind_some h
  obtain ⟨y, h2, h⟩ := bind_some h
  obtain ⟨x, h6, h⟩ := bind_some h
  obtain ⟨k, h3, h⟩ := bind_some h
  obtain ⟨kvs, h4, h5⟩ := bind_some h
  obtain ⟨a, k1, k2⟩ := hw F α H H1 σ g o R h1
  obtain ⟨ws0, k0, _⟩ := R.dicI h4 k1
  refine k2 _ ⟨a, rfl, .inl ⟨ws0, .inl k0⟩, hp F α H H1 σ g y R h2 _ fun u H2 Ha e2 ea xa da => hx F α Ha H2 σ g x (R.grow e2 ea xa) h6 _ fun z H3 Hb e3 eb xb db => ?_⟩
  have R3 := (R.grow e2 ea xa).grow e3 eb xb
  obtain ⟨ws, k3, k4⟩ := R3.dicI h4 k1
  refine ⟨ws, k, k3, keyD_eq h3 da, fun v hv => ?_, fun hv => ?_⟩
  · rcases k4.val k with ⟨z1, z2⟩ | ⟨v', d', z1, z2, z3⟩
    · rw [hv] at z1; cases z1
    · rw [hv] at z1
      cases z1
      have h5 : (match valD kvs k with | some v => some (Except.ok (Rv.dat v), g.put o (.ownD (dropD kvs k))) | none => some (Except.ok (Rv.dat x), g)) = some (r, g') := h5
      rw [z2] at h5
      cases h5
      exact q α Hb _ v (R3.put k1 (dicAt_cont h4) (.inr ⟨_, rfl⟩) ⟨_, rfl, (k4.drop k).r⟩) (Stp.of (xa.ex.trans xb.ex)) z3
  · rcases k4.val k with ⟨z1, z2⟩ | ⟨v', d', z1, z2, z3⟩
    · have h5 : (match valD kvs k with | some v => some (Except.ok (Rv.dat v), g.put o (.ownD (dropD kvs k))) | none => some (Except.ok (Rv.dat x), g)) = some (r, g') := h5
      rw [z2] at h5
      cases h5
      exact q α Hb _ z R3 (Stp.of (xa.ex.trans xb.ex)) db
    · rw [hv] at z1; cases z1
/-! ### lists -/
/-- l.append(e), e pure -/
def mAppP (w : WM) (p : PM) : EM := fun g => (w g).bind fun o => (p g).bind fun d => (lstAt g o).bind fun ds => if ds.length < 100000 then some (.ok (.dat .none), g.put o (.ownL (ds ++ [d]))) else none
theorem se_appP (hw : SimW K FL T td w) (hp : SimP K FL T te pa) : SimE K FL T W (tBM K "list" rAppend td (tCons te tNil)) (mAppP w pa) := fun F α H H1 σ g r g' R h Q q => by
  obtain ⟨o, h1, h⟩ := bind_some h
  obtain ⟨d, h2, h⟩ := bind_some h
  obtain ⟨ds, h3, h4⟩ := bind_some h
  obtain ⟨hl, e⟩ := ite_some h4
  cases e
  obtain ⟨a, k1, k2⟩ := hw F α H H1 σ g o R h1
  obtain ⟨vs0, k0, _⟩ := R.lst h3 k1
  refine k2 _ ⟨.inl ⟨rfl, vs0, sq_of k0⟩, hp F α H H1 σ g d R h2 _ fun u H2 Ha e2 ea xa da => ?_⟩
  have R2 := R.grow e2 ea xa
  obtain ⟨vs, k3, k4⟩ := R2.lst h3 k1
  refine ⟨a, vs, u, rfl, rfl, k3, sz_lt (by rw [k4.length]; exact hl), ?_⟩
  exact q α Ha _ _ (R2.put k1 (lstAt_cont h3) (.inl ⟨_, rfl⟩) ⟨_, rfl, k4.append (.cons da .nil)⟩) (Stp.of xa.ex) .non
def notFld (o : Owner) : Bool := match o with
  | .fld _ _ => false
  | _ => true
theorem Stp.at_ {α α' : Al} {H H' : Hp} {o : Owner} {a : Addr} (s : Stp α H α' H') (ho : notFld o = true) (h : α o = some a) : α' o = some a := by
  cases o with
  | ob i => exact s.ob i a h
  | slot j => rw [s.sl j]; exact h
  | fld i f => cases ho
/-- l.append(e), e does something; l a name's -/
def mApp (w : WM) (m : EM) : EM := fun g => (w g).bind fun o => if notFld o = true then (lstAt g o).bind fun _ => eBind m (fun v => fun g1 => (okV v).bind fun d => (lstAt g1 o).bind fun ds => if ds.length < 100000 then some (.ok (.dat .none), g1.put o (.ownL (ds ++ [d]))) else none) g else none
theorem se_app (hw : SimW K FL T td w) (hm : SimE K FL T W te ma) : SimE K FL T W (tBM K "list" rAppend td (tCons te tNil)) (mApp w ma) := fun F α H H1 σ g r g' R h Q q => by
  obtain ⟨o, h1, h⟩ := bind_some h
  split at h
  · rename_i hf
    obtain ⟨ds0, h0, h⟩ := bind_some h
    obtain ⟨a, k1, k2⟩ := hw F α H H1 σ g o R h1
    obtain ⟨vs0, k0, _⟩ := R.lst h0 k1
    refine k2 _ ⟨.inl ⟨rfl, vs0, sq_of k0⟩, ?_⟩
    rcases eBind_some h with ⟨v, g1, h2, h3⟩ | ⟨x, h2, rfl⟩
    · refine hm F α H H1 σ g _ g1 R h2 _ fun α1 Ha H2 u R2 s2 ru => ?_
      obtain ⟨d, h4, h3⟩ := bind_some h3
      obtain ⟨ds, h5, h6⟩ := bind_some h3
      obtain ⟨hl, e⟩ := ite_some h6
      cases e
      have k1' := s2.at_ hf k1
      obtain ⟨vs, k3, k4⟩ := R2.lst h5 k1'
      refine ⟨a, vs, u, rfl, rfl, k3, sz_lt (by rw [k4.length]; exact hl), ?_⟩
      exact q α1 Ha _ _ (R2.put k1' (lstAt_cont h5) (.inl ⟨_, rfl⟩) ⟨_, rfl, k4.append (.cons (ru.dat (okV_some h4)) .nil)⟩) s2 .non
    · exact hm F α H H1 σ g _ _ R h2 _ q
  · cases h
/-- l.extend(e), e tells a list of data -/
def mExt (w : WM) (m : EM) : EM := fun g => (w g).bind fun o => if notFld o = true then (lstAt g o).bind fun _ => eBind m (fun v => fun g1 => (match v with | .dat (.list es) => some es | _ => none).bind fun es => (lstAt g1 o).bind fun ds => if ds.length + es.length ≤ 100000 then some (.ok (.dat .none), g1.put o (.ownL (ds ++ es))) else none) g else none
theorem se_ext (hw : SimW K FL T td w) (hm : SimE K FL T W te ma) : SimE K FL T W (tBM K "list" rExtend td (tCons te tNil)) (mExt w ma) := fun F α H H1 σ g r g' R h Q q => by
  obtain ⟨o, h1, h⟩ := bind_some h
  split at h
  · rename_i hf
    obtain ⟨ds0, h0, h⟩ := bind_some h
    obtain ⟨a, k1, k2⟩ := hw F α H H1 σ g o R h1
    obtain ⟨vs0, k0, _⟩ := R.lst h0 k1
    refine k2 _ ⟨.inl ⟨rfl, vs0, sq_of k0⟩, ?_⟩
    rcases eBind_some h with ⟨v, g1, h2, h3⟩ | ⟨x, h2, rfl⟩
    · refine hm F α H H1 σ g _ g1 R h2 _ fun α1 Ha H2 u R2 s2 ru => ?_
      obtain ⟨es, h4, h3⟩ := bind_some h3
      obtain ⟨ds, h5, h6⟩ := bind_some h3
      obtain ⟨hl, e⟩ := ite_some h6
      cases e
      cases v with
      | at_ o => cases h4
      | dat dd =>
        cases dd <;> cases h4
        obtain ⟨b, xs, rfl, hb, rb⟩ := Dt.lst_eq ru
        have k1' := s2.at_ hf k1
        obtain ⟨vs, k3, k4⟩ := R2.lst h5 k1'
        refine ⟨a, b, vs, xs, rfl, rfl, k3, R2.ex b _ hb, by rw [k4.length, rb.length]; exact sz_of hl, ?_⟩
        exact q α1 Ha _ _ (R2.put k1' (lstAt_cont h5) (.inl ⟨_, rfl⟩) ⟨_, rfl, k4.append rb⟩) s2 .non
    · exact hm F α H H1 σ g _ _ R h2 _ q
  · cases h
/-- the same, e pure; l any place -/
def mExtP (w : WM) (p : PM) : EM := fun g => (w g).bind fun o => (p g).bind fun d => (match d with | .list es => some es | _ => none).bind fun es => (lstAt g o).bind fun ds => if ds.length + es.length ≤ 100000 then some (.ok (.dat .none), g.put o (.ownL (ds ++ es))) else none
theorem se_extP (hw : SimW K FL T td w) (hp : SimP K FL T te pa) : SimE K FL T W (tBM K "list" rExtend td (tCons te tNil)) (mExtP w pa) := fun F α H H1 σ g r g' R h Q q => by
  obtain ⟨o, h1, h⟩ := bind_some h
  obtain ⟨d, h2, h⟩ := bind_some h
  obtain ⟨es, h4, h⟩ := bind_some h
  obtain ⟨ds, h3, h6⟩ := bind_some h
  obtain ⟨hl, e⟩ := ite_some h6
  cases e
  obtain ⟨a, k1, k2⟩ := hw F α H H1 σ g o R h1
  obtain ⟨vs0, k0, _⟩ := R.lst h3 k1
  refine k2 _ ⟨.inl ⟨rfl, vs0, sq_of k0⟩, hp F α H H1 σ g d R h2 _ fun u H2 Ha e2 ea xa da => ?_⟩
  have R2 := R.grow e2 ea xa
  cases d <;> cases h4
  obtain ⟨b, xs, rfl, hb, rb⟩ := Dt.lst_eq da
  obtain ⟨vs, k3, k4⟩ := R2.lst h3 k1
  refine ⟨a, b, vs, xs, rfl, rfl, k3, ea b _ hb, by rw [k4.length, rb.length]; exact sz_of hl, ?_⟩
  exact q α Ha _ _ (R2.put k1 (lstAt_cont h3) (.inl ⟨_, rfl⟩) ⟨_, rfl, k4.append rb⟩) (Stp.of xa.ex) .non
/-- l.extend(m), m a list of one's own -/
def mExtW (w w2 : WM) : EM := fun g => (w g).bind fun o => (w2 g).bind fun o2 => (lstAt g o).bind fun ds => (lstAt g o2).bind fun es => if ds.length + es.length ≤ 100000 then some (.ok (.dat .none), g.put o (.ownL (ds ++ es))) else none
theorem se_extW {w2 : WM} (hw : SimW K FL T td w) (hw2 : SimW K FL T te w2) : SimE K FL T W (tBM K "list" rExtend td (tCons te tNil)) (mExtW w w2) := fun F α H H1 σ g r g' R h Q q => by
  obtain ⟨o, h1, h⟩ := bind_some h
  obtain ⟨o2, h2, h⟩ := bind_some h
  obtain ⟨ds, h3, h⟩ := bind_some h
  obtain ⟨es, h4, h6⟩ := bind_some h
  obtain ⟨hl, e⟩ := ite_some h6
  cases e
  obtain ⟨a, k1, k2⟩ := hw F α H H1 σ g o R h1
  obtain ⟨b, m1, m2⟩ := hw2 F α H H1 σ g o2 R h2
  obtain ⟨vs, k3, k4⟩ := R.lst h3 k1
  obtain ⟨xs, m3, m4⟩ := R.lst h4 m1
  refine k2 _ ⟨.inl ⟨rfl, vs, sq_of k3⟩, m2 _ ⟨a, b, vs, xs, rfl, rfl, k3, m3, by rw [k4.length, m4.length]; exact sz_of hl, ?_⟩⟩
  exact q α H _ _ (R.put k1 (lstAt_cont h3) (.inl ⟨_, rfl⟩) ⟨_, rfl, k4.append m4⟩) (Stp.refl _ _) .non
/-- l.pop() -/
def mLPop (w : WM) : EM := fun g => (w g).bind fun o => (lstAt g o).bind fun ds => (ds[ds.length - 1]?).bind fun d => some (.ok (.dat d), g.put o (.ownL ds.dropLast))
theorem DtAll.dropLast {H : Hp} : ∀ {vs : List V} {ds : List PyData}, DtAll K H vs ds → DtAll K H vs.dropLast ds.dropLast := fun {vs ds} h => by
  rw [List.dropLast_eq_take, List.dropLast_eq_take, h.length]
  exact h.take _
theorem se_lpop (hw : SimW K FL T td w) : SimE K FL T W (tBM0 K "list" rPop td) (mLPop w) := fun F α H H1 σ g r g' R h Q q => by
  obtain ⟨o, h1, h⟩ := bind_some h
  obtain ⟨ds, h3, h⟩ := bind_some h
  obtain ⟨d, h4, h6⟩ := bind_some h
  cases h6
  obtain ⟨a, k1, k2⟩ := hw F α H H1 σ g o R h1
  obtain ⟨vs, k3, k4⟩ := R.lst h3 k1
  obtain ⟨v, k5, k6⟩ := k4.get h4
  refine k2 _ ⟨.inl ⟨rfl, vs, sq_of k3⟩, a, vs, v, rfl, rfl, k3, by rw [k4.length]; exact k5, ?_⟩
  exact q α H _ v (R.put k1 (lstAt_cont h3) (.inl ⟨_, rfl⟩) ⟨_, rfl, EV.DtAll.dropLast k4⟩) (Stp.refl _ _) k6
/-! ### loops -/
def sWhile (c : BM) (b : SM) : Nat → SM
  | 0 => fun _ => none
  | n + 1 => sBind c fun x => if x = true then (fun g => (b g).bind fun p => match p.1 with
    | .nx => sWhile c b n p.2
    | .ct => sWhile c b n p.2
    | .bk => some (.nx, p.2)
    | fl => some (fl, p.2)) else fun g => some (.nx, g)
theorem ss_while {n : Nat} (hc : SimB K FL T W tt ba) (hb : SimS K FL T W t1 s1) : SimS K FL T W (tWhile tt t1) (sWhile ba s1 n) := fun F α H H1 σ g fl g' R h D k => by
  refine ⟨fun m σ' H' => ∃ α' Hk gi, Rel K FL T F α' Hk H' σ' gi ∧ sWhile ba s1 m gi = some (fl, g'), ⟨n, α, H, g, R, h⟩, ?_⟩
  rintro m σ' H' ⟨α', Hk, gi, Ri, hi⟩
  cases m with
  | zero => cases hi
  | succ m =>
    rcases sBind_some hi with ⟨v, g1, k1, k2⟩ | ⟨x, k1, rfl⟩
    · refine hc F α' Hk H' σ' gi _ g1 Ri k1 _ fun α1 Ha H2 R1 s1' => ?_
      cases v with
      | true =>
        have k2 : ((s1 g1).bind fun p => match p.1 with | .nx => sWhile ba s1 m p.2 | .ct => sWhile ba s1 m p.2 | .bk => some (.nx, p.2) | fl => some (fl, p.2)) = some (fl, g') := k2
        obtain ⟨⟨f1, g2⟩, k3, k4⟩ := bind_some k2
        refine ⟨fun σ2 H3 => ∃ α' Hk gi, Rel K FL T F α' Hk H3 σ2 gi ∧ sWhile ba s1 m gi = some (fl, g'), fun σ2 H3 z => ⟨m, Nat.lt_succ_self _, z⟩, ?_⟩
        refine hb F α1 Ha H2 σ' g1 f1 g2 R1 k3 _ ?_
        cases f1 with
        | nx => exact fun α2 H2' H3 σ2 R2 => ⟨α2, H2', g2, R2, k4⟩
        | ct => exact fun α2 H2' H3 σ2 R2 => ⟨α2, H2', g2, R2, k4⟩
        | bk => cases k4; exact k
        | rt v => cases k4; exact k
        | er x => cases k4; exact k
      | false =>
        cases k2
        exact k α1 Ha H2 σ' R1
    · exact hc F α' Hk H' σ' gi _ _ Ri k1 _ fun α2 H2' H3 R2 s' => k α2 H2' H3 σ' R2
def forL (gm : GM) (b : SM) : List PyData → SM
  | [] => fun g => some (.nx, g)
  | d :: ds => fun g => (gm d g).bind fun g1 => (b g1).bind fun p => match p.1 with
    | .nx => forL gm b ds p.2
    | .ct => forL gm b ds p.2
    | .bk => some (.nx, p.2)
    | fl => some (fl, p.2)
def sFor (it : IM) (gm : GM) (b : SM) : SM := fun g => (it g).bind fun ds => forL gm b ds g
theorem Rel.sub {F : Fr} {α : Al} {H H1 : Hp} {σ : L2.St} {g : Sg} (R : Rel K FL T F α H H1 σ g) : Rel K FL T ⟨H, F.B, F.a0⟩ α H H1 σ g := ⟨R.toRelS, Ext.refl _ _, R.gro, R.ntB, R.offB, R.old, R.len, R.slt⟩
theorem Rel.unsub {F : Fr} {α : Al} {Hb H H1 : Hp} {σ : L2.St} {g : Sg} (R : Rel K FL T ⟨Hb, F.B, F.a0⟩ α H H1 σ g) (x : Ext F.H0 F.B Hb) : Rel K FL T F α H H1 σ g := ⟨R.toRelS, x.trans (Ex.refl _) R.ext, R.gro, R.ntB, R.offB, R.old, R.len, R.slt⟩
theorem ss_for {wi : TI} {it : IM} {tg : TG} {gm : GM} {vs : List Nat} (hi : SimI K FL T wi it) (hg : SimG K FL T tg gm vs) (hb : SimS K FL T W t1 s1) : SimS K FL T W (tFor wi tg t1) (sFor it gm s1) := fun F α H H1 σ g fl g' R h D k => by
  obtain ⟨ds, h1, h2⟩ := bind_some h
  refine hi F α H H1 σ g ds R h1 _ fun J G H2 Hb e2 eb xb hG w => ?_
  have R0 := R.grow e2 eb xb
  refine for_it (w.mono (G' := fun H3 => Ex Hb H3) (fun H3 e3 => hG H3 e3) fun _ _ _ _ _ _ y => y)
    (fun i σ' H3 => (∃ α' Hk gi, Rel K FL T ⟨Hb, F.B, F.a0⟩ α' Hk H3 σ' gi ∧ forL gm s1 (ds.drop i) gi = some (fl, g'))) ?_ ?_ ?_ ?_
  · exact ⟨α, Hb, g, R0.sub, h2⟩
  · rintro i σ' H3 hi ⟨α', Hk, gi, Ri, _⟩
    exact Ri.ext.ex.trans Ri.ex
  · rintro i x σ' H3 H4 hi ⟨α', Hk, gi, Ri, hf⟩ ⟨y1, d, y2, y3⟩
    obtain ⟨Hc, c1, c2, c3⟩ := y3 Hk Ri.ext.ex Ri.ex
    have hd : ds.drop i = d :: ds.drop (i + 1) := by
      rw [List.drop_eq_getElem_cons hi]
      obtain ⟨_, e⟩ := List.getElem?_eq_some_iff.mp y2
      rw [e]
    rw [hd] at hf
    obtain ⟨g1, k1, k2⟩ := bind_some hf
    obtain ⟨⟨f1, g2⟩, k3, k4⟩ := bind_some k2
    have Rc := Ri.grow y1 c2 c1
    obtain ⟨σ2, R2, _, q2⟩ := hg _ α' Hc H4 σ' gi g1 x d Rc c3 k1
    refine q2 _ ?_
    refine hb _ α' Hc H4 σ2 g1 f1 g2 R2 k3 _ ?_
    cases f1 with
    | nx => exact fun α2 H2' H3 σ2 R2 => ⟨α2, H2', g2, R2, k4⟩
    | ct => exact fun α2 H2' H3 σ2 R2 => ⟨α2, H2', g2, R2, k4⟩
    | bk => cases k4; exact fun α2 H2' H3 σ2 R2 => k α2 H2' H3 σ2 (R2.unsub R0.ext)
    | rt v => cases k4; exact fun α2 H2' H3 σ2 u R2 ru => k α2 H2' H3 σ2 u (R2.unsub R0.ext) ru
    | er x => cases k4; exact fun α2 H2' H3 σ2 R2 => k α2 H2' H3 σ2 (R2.unsub R0.ext)
  · rintro σ' H3 ⟨α', Hk, gi, Ri, hf⟩
    rw [List.drop_length] at hf
    cases hf
    exact k α' Hk H3 σ' (Ri.unsub R0.ext)
/-! ### raise; a list that changes no more -/
def sRaise (x : Str) : SM := fun g => some (.er x, g)
theorem ss_raise {x : Str} : SimS K FL T W (fun _ σ H => W (.ref (gaE K x)) none σ H) (sRaise x) := fun F α H H1 σ g fl g' R h D k => by
  cases h
  exact k α H H1 σ R
/-- a name's list is data from now on -/
def Sg.frz (g : Sg) (o : Owner) : Option Sg := (lstAt g o).bind fun ds => match o with
  | .slot j => some (g.set j (.dat (.list ds)))
  | .fld i f => match g.st[i]? with
    | some (.ins C fs) => some ⟨g.sl, g.st.set i (.ins C (putA f (.dat (.list ds)) fs))⟩
    | _ => none
  | _ => none
theorem Rel.frzS {F : Fr} {α : Al} {H H1 : Hp} {σ : L2.St} {g g' : Sg} {j : Nat} (R : Rel K FL T F α H H1 σ g) (h : g.frz (.slot j) = some g') : ∃ α' H', Rel K FL T F α' H' H1 σ g' := by
  obtain ⟨ds, h1, h2⟩ := bind_some h
  cases h2
  have hc := lstAt_cont h1
  have hs : g.sl[j]? = some (some (.ownL ds)) := by
    unfold contAt at hc
    cases hk : g.sl[j]? with
    | none => simp only [hk] at hc; cases hc
    | some x =>
      cases x with
      | none => simp only [hk] at hc; cases hc
      | some y => simp only [hk] at hc; cases hc; rfl
  obtain ⟨u, k1, a, rfl, k2, vs, k3, k4⟩ := R.slt j _ hs
  have hH := R.off _ a k2
  have hx : Ex H (upd H a (.lst vs)) := Ex.new hH
  have sl : ∀ {o b}, o ≠ .slot j → α o = some b → b ≠ a := fun {o b} ne hb e => ne (R.inj _ _ a (e ▸ hb) k2)
  have e : ∀ {o : Owner}, o ≠ .slot j → (if o = .slot j then none else α o) = α o := fun ne => if_neg ne
  have eo : ∀ {k b}, α (.ob k) = some b → (if Owner.ob k = .slot j then none else α (.ob k)) = some b := fun h => by rw [if_neg (by intro e; cases e)]; exact h
  have sub : ∀ {o b}, (if o = .slot j then none else α o) = some b → o ≠ .slot j ∧ α o = some b := fun {o b} h => by
    by_cases c : o = .slot j
    · rw [if_pos c] at h; cases h
    · rw [if_neg c] at h; exact ⟨c, h⟩
  refine ⟨fun o => if o = .slot j then none else α o, upd H a (.lst vs), ⟨fun b o hb => ?_, fun hT b qs hb => ?_, R.tb, fun o o' b h h' => R.inj _ _ b (sub h).2 (sub h').2, fun o b h => ?_, fun o b h => R.pl _ b (sub h).2, fun i ob hi => ?_, fun i hi => (if_neg (by intro e; cases e)).trans (R.dom i hi)⟩, ⟨R.ext.ex.trans hx, fun b o hb => ?_⟩, R.gro, R.ntB, fun o b h => R.offB _ b (sub h).2, fun i b h => eo (R.old i b h), by simp [Sg.set, R.len], fun k w hk => ?_⟩
  · by_cases c : b = a
    · subst c; rw [upd_same] at hb; cases hb; exact k3
    · rw [upd_ne c] at hb; exact R.ex b o hb
  · by_cases c : b = a
    · subst c; rw [upd_same] at hb; cases hb
    · rw [upd_ne c] at hb; exact R.nt hT b qs hb
  · rw [upd_ne (sl (sub h).1 (sub h).2)]
    exact R.off _ b (sub h).2
  · obtain ⟨b, m1, m2⟩ := R.sto i ob hi
    exact ⟨b, eo m1, m2.ex hx (fun _ _ z => eo z) (fun f c z => ⟨by rw [if_neg (by intro e; cases e)]; exact z, fun _ z => z⟩) fun _ z => z⟩
  · by_cases c : b = a
    · subst c; rw [upd_same] at hb; cases hb; exact .inr ⟨R.offB _ b k2, fun ps z => by cases z⟩
    · rw [upd_ne c] at hb; exact R.ext.fresh b o hb
  · rcases set_get hk with ⟨rfl, ek⟩ | ⟨c, h⟩
    · cases ek
      exact ⟨_, k1, .lst upd_same (DtAll.ex hx k4)⟩
    · obtain ⟨u, m1, m2⟩ := R.slt k w h
      exact ⟨u, m1, m2.ex hx (fun _ _ z => eo z) fun b z => ⟨by rw [if_neg (by intro e; cases e; exact c rfl)]; exact z, fun _ z => z⟩⟩
theorem Rel.frzF {F : Fr} {α : Al} {H H1 : Hp} {σ : L2.St} {g g' : Sg} {i : Nat} {f : Str} (R : Rel K FL T F α H H1 σ g) (h : g.frz (.fld i f) = some g') : ∃ α' H', Rel K FL T F α' H' H1 σ g' := by
  obtain ⟨ds, h1, h2⟩ := bind_some h
  have hc := lstAt_cont h1
  cases hk : g.st[i]? with
  | none => simp only [hk] at h2; cases h2
  | some ob =>
    cases ob with
    | box v => simp only [hk] at h2; cases h2
    | ins C fs =>
      simp only [hk] at h2
      cases h2
      have hl : fs.lookup f = some (.ownL ds) := by unfold contAt at hc; simp only [hk] at hc; exact hc
      obtain ⟨p, m1, cl, dx, us, m2, m3⟩ := R.sto i _ hk
      obtain ⟨u, k1, a, rfl, k2, vs, k3, k4⟩ := m3.2 f _ hl
      have hH := R.off _ a k2
      have hx : Ex H (upd H a (.lst vs)) := Ex.new hH
      have sl : ∀ {o b}, o ≠ .fld i f → α o = some b → b ≠ a := fun {o b} ne hb e => ne (R.inj _ _ a (e ▸ hb) k2)
      have eo : ∀ {k b}, α (.ob k) = some b → (if Owner.ob k = .fld i f then none else α (.ob k)) = some b := fun h => by rw [if_neg (by intro e; cases e)]; exact h
      have sub : ∀ {o b}, (if o = .fld i f then none else α o) = some b → o ≠ .fld i f ∧ α o = some b := fun {o b} h => by
        by_cases c : o = .fld i f
        · rw [if_pos c] at h; cases h
        · rw [if_neg c] at h; exact ⟨c, h⟩
      refine ⟨fun o => if o = .fld i f then none else α o, upd H a (.lst vs), ⟨fun b o hb => ?_, fun hT b qs hb => ?_, R.tb, fun o o' b h h' => R.inj _ _ b (sub h).2 (sub h').2, fun o b h => ?_, fun o b h => R.pl _ b (sub h).2, fun k ob hi => ?_, fun k hi => (if_neg (by intro e; cases e)).trans (R.dom k (by simpa using hi))⟩, ⟨R.ext.ex.trans hx, fun b o hb => ?_⟩, R.gro, R.ntB, fun o b h => R.offB _ b (sub h).2, fun i b h => eo (R.old i b h), R.len, fun k w hk => ?_⟩
      · by_cases c : b = a
        · subst c; rw [upd_same] at hb; cases hb; exact k3
        · rw [upd_ne c] at hb; exact R.ex b o hb
      · by_cases c : b = a
        · subst c; rw [upd_same] at hb; cases hb
        · rw [upd_ne c] at hb; exact R.nt hT b qs hb
      · rw [upd_ne (sl (sub h).1 (sub h).2)]
        exact R.off _ b (sub h).2
      · rcases set_get hi with ⟨rfl, rfl⟩ | ⟨c, hh⟩
        · refine ⟨p, eo m1, cl, dx, us, m2, ?_, fun f' v' hv' => ?_⟩
          · rw [m3.1]
            have : ∀ fs : List (Str × Val), fs.lookup f = some (.ownL ds) → fs.map (·.1) = (putA f (Val.dat (.list ds)) fs).map (·.1) := by
              intro fs
              induction fs with
              | nil => intro h; cases h
              | cons p r ih =>
                intro h
                obtain ⟨k, x⟩ := p
                unfold putA
                by_cases c : k = f
                · rw [if_pos c]; rfl
                · rw [if_neg c, List.map_cons, List.map_cons]
                  rw [List.lookup_cons] at h
                  have : (f == k) = false := by simp [Ne.symm c]
                  rw [this] at h
                  rw [ih h]
            exact this fs hl
          · rw [lookup_putA] at hv'
            by_cases c : f' = f
            · subst c
              rw [if_pos rfl] at hv'
              cases hv'
              exact ⟨_, k1, .lst upd_same (DtAll.ex hx k4)⟩
            · rw [if_neg c] at hv'
              obtain ⟨u', l1, l2⟩ := m3.2 f' v' hv'
              exact ⟨u', l1, l2.ex hx (fun _ _ z => eo z) fun b z => ⟨by rw [if_neg (by intro e; cases e; exact c rfl)]; exact z, fun _ z => z⟩⟩
        · obtain ⟨b, q1, q2⟩ := R.sto k ob hh
          exact ⟨b, eo q1, q2.ex hx (fun _ _ z => eo z) (fun f' c' z => ⟨by rw [if_neg (by intro e; cases e; exact c rfl)]; exact z, fun _ z => z⟩) fun _ z => z⟩
      · by_cases c : b = a
        · subst c; rw [upd_same] at hb; cases hb; exact .inr ⟨R.offB _ b k2, fun ps z => by cases z⟩
        · rw [upd_ne c] at hb; exact R.ext.fresh b o hb
      · obtain ⟨u, q1, q2⟩ := R.slt k w hk
        exact ⟨u, q1, q2.ex hx (fun _ _ z => eo z) fun b z => ⟨by rw [if_neg (by intro e; cases e)]; exact z, fun _ z => z⟩⟩
/-- a list becomes data ahead of a statement -/
def sFrz (w : WM) (m : SM) : SM := fun g => (w g).bind fun o => (g.frz o).bind fun g1 => m g1
theorem ss_frz (hw : SimW K FL T td w) (h1 : SimS K FL T W t1 s1) : SimS K FL T W t1 (sFrz w s1) := fun F α H H1 σ g fl g' R h D k => by
  obtain ⟨o, k1, h⟩ := bind_some h
  obtain ⟨g1, k2, k3⟩ := bind_some h
  cases o with
  | ob i =>
    obtain ⟨ds, _, z⟩ := bind_some k2
    cases z
  | slot j =>
    obtain ⟨α', H', R'⟩ := R.frzS k2
    exact h1 F α' H' H1 σ g1 fl g' R' k3 D k
  | fld i f =>
    obtain ⟨α', H', R'⟩ := R.frzF k2
    exact h1 F α' H' H1 σ g1 fl g' R' k3 D k
end
end EV

/-! ### EV: defs (own work) -/
namespace EV
open PySem PySem.Spec PyProof.Rows L2 Evl L2H LamX LR
open Classical in
/-- what a def's caller has and nobody may change -/
noncomputable def baseOf (α : Al) (H1 : Hp) : Hp := fun b => if (∃ o, α o = some b) ∨ ∃ ps, H1 b = some (.tbl ps) then none else H1 b
theorem base_some {α : Al} {H1 : Hp} {b : Addr} {u : HO} (h : baseOf α H1 b = some u) : (∀ o, α o ≠ some b) ∧ (∀ ps, u ≠ .tbl ps) ∧ H1 b = some u := by
  unfold baseOf at h
  split at h
  · cases h
  · rename_i c
    exact ⟨fun o ho => c (.inl ⟨o, ho⟩), fun ps z => c (.inr ⟨ps, by rw [h, z]⟩), h⟩
theorem base_at {α : Al} {H1 : Hp} {b : Addr} {u : HO} (h1 : ∀ o, α o ≠ some b) (h2 : ∀ ps, u ≠ .tbl ps) (h : H1 b = some u) : baseOf α H1 b = some u := by
  unfold baseOf
  rw [if_neg]
  · exact h
  · rintro (⟨o, z⟩ | ⟨ps, z⟩)
    · exact h1 o z
    · rw [h] at z
      cases z
      exact h2 ps rfl
theorem base_none {α : Al} {H1 : Hp} {b : Addr} (h : baseOf α H1 b = none) : (∃ o, α o = some b) ∨ H1 b = none ∨ ∃ ps, H1 b = some (.tbl ps) := by
  unfold baseOf at h
  split at h
  · rename_i c
    exact c.elim .inl fun z => .inr (.inr z)
  · exact .inr (.inl h)
def argsOf (N n : Nat) (xs : List Val) : List (Option Val) := xs.map some ++ List.replicate (N - n) none
def endOf (p : Flo × Sg) : Option (Except Str Rv × List Ob) := match p.1 with
  | .nx => some (.ok (.dat .none), p.2.st)
  | .rt (.dat d) => some (.ok (.dat d), p.2.st)
  | .rt (.at_ (.ob i)) => some (.ok (.at_ (.ob i)), p.2.st)
  | .rt (.at_ (.slot j)) => (lstAt p.2 (.slot j)).bind fun ds => some (.ok (.dat (.list ds)), p.2.st)
  | .er x => some (.error x, p.2.st)
  | _ => none
/-- a def as a function: N slots, n parameters -/
def funOf (N n : Nat) (m : SM) : Fun := fun as st => (argVs as).bind fun xs => if as.length = n ∧ n ≤ N then (m ⟨argsOf N n xs, st⟩).bind endOf else none
section
variable {K : PySem.W.Frag} {FL : Fl} {T : TbS}
theorem Rel.frm {α α' : Al} {H H1 H' H2 : Hp} {σ : L2.St} {g : Sg} (R : Rel K FL T ⟨H, baseOf α H1, fun i => α (.ob i)⟩ α' H' H2 σ g) : Frm α H H1 (stoA α') H' H2 where
  ex := R.ext.ex
  fr := fun b u h n t => R.gro b u (base_at n t h)
  of := fun b u h h1 n t => R.ext.off h (base_at n t h1)
  nw := fun o b h => base_none (R.offB o b (stoA_sub h))
  ob := fun i a h => R.old i a h
theorem slots_of {α : Al} {H H1 : Hp} (n : Nat) : ∀ {vs : List V} {as : List Rv} {xs : List Val}, Paired (RR K α H) vs as → argVs as = some xs → ∀ (j : Nat) v, (xs.map some ++ List.replicate n none)[j]? = some (some v) → ∃ u, (vs.map some ++ List.replicate n none)[j]? = some (some u) ∧ ∀ o, VR K α H H1 o u v := by
  intro vs as xs h
  induction h generalizing xs with
  | nil =>
    intro hx j v hv
    cases hx
    simp only [List.map_nil, List.nil_append] at hv
    have := List.mem_of_getElem? hv
    have := (List.mem_replicate.mp this).2
    cases this
  | @cons u r us rs a b ih =>
    intro hx j v hv
    obtain ⟨x, h1, h2⟩ := bind_some hx
    obtain ⟨ys, h3, h4⟩ := bind_some h2
    cases h4
    cases j with
    | zero =>
      simp at hv
      subst hv
      exact ⟨u, rfl, fun o => a.vr h1⟩
    | succ j => exact ih h3 j v (by simpa using hv)
theorem argVs_len : ∀ {as : List Rv} {xs : List Val}, argVs as = some xs → xs.length = as.length
  | [], _, h => by cases h; rfl
  | a :: r, _, h => by
    obtain ⟨x, h1, h2⟩ := bind_some h
    obtain ⟨ys, h3, h4⟩ := bind_some h2
    cases h4
    rw [List.length_cons, List.length_cons, argVs_len h3]
theorem paired_len {α : Al} {H : Hp} {vs : List V} {as : List Rv} (h : Paired (RR K α H) vs as) : vs.length = as.length := Paired.length h
/-- at a def's entry -/
theorem rel_start {α : Al} {H H1 : Hp} {st : List Ob} {N : List Str} {vs : List V} {as : List Rv} {xs : List Val} (R : RelS K FL T α H H1 st) (pa : Paired (RR K α H) vs as) (hx : argVs as = some xs) (hn : as.length ≤ N.length) : Rel K FL T ⟨H, baseOf α H1, fun i => α (.ob i)⟩ α H H1 (L2.start N vs) ⟨argsOf N.length as.length xs, st⟩ where
  toRelS := R
  ext := Ext.refl _ _
  gro := fun b u h => (base_some h).2.2
  ntB := fun _ b ps h => (base_some h).2.1 ps rfl
  offB := fun o a h => by
    cases q : baseOf α H1 a with
    | none => exact q
    | some u => exact absurd h ((base_some q).1 o)
  old := fun i a h => h
  len := by
    unfold L2.start argsOf
    have h1 := paired_len pa
    have h2 := argVs_len hx
    simp only [List.length_append, List.length_map, List.length_replicate]
    omega
  slt := fun j v h => by
    unfold L2.start
    rw [paired_len pa]
    obtain ⟨u, h1, h2⟩ := slots_of (H1 := H1) (N.length - as.length) pa hx j v h
    exact ⟨u, h1, h2 _⟩
section
variable {P : Program} {w : World} {mg : Str → Option Value} {base : Heap}
theorem spF_len {n : Nat} {f : Fun} {vs : List V} {H1 : Hp} {Q : VK} {E : XK} (h : spF K FL T n f vs H1 Q E) : vs.length = n := by
  obtain ⟨H, α, st, as, r, st', _, _, pa, hl, _⟩ := h
  rw [paired_len pa, hl]
/-- how a def's end is told -/
theorem end_core {α : Al} {H H1 : Hp} {fl : Flo} {g' : Sg} {r : Except Str Rv} {st' : List Ob} {Q : VK} {E : XK} (he : endOf (fl, g') = some (r, st')) (q : KF K FL T E α H H1 st' Q r) : KS K FL T (fun c d _ H => E c d H) ⟨H, baseOf α H1, fun i => α (.ob i)⟩ (fun _ => none) g' { nx := fun _ H' => Q .non H', rt := Q } fl := by
  cases fl with
  | nx =>
    cases he
    exact fun α' H' H2 σ' R => q .non H2 H' (stoA α') R.toRelS.sto_only R.frm .non
  | rt v =>
    intro α' H' H2 σ' u R ru
    cases v with
    | dat d =>
      cases he
      exact q u H2 H' (stoA α') R.toRelS.sto_only R.frm ru
    | at_ o =>
      cases o with
      | ob i =>
        cases he
        exact q u H2 H' (stoA α') R.toRelS.sto_only R.frm ru
      | slot j =>
        obtain ⟨ds, h1, h2⟩ := bind_some (show (lstAt g' (.slot j)).bind _ = _ from he)
        cases h2
        obtain ⟨a, rfl, ha⟩ := ru
        have hc := lstAt_cont h1
        have hs : g'.sl[j]? = some (some (.ownL ds)) := by
          unfold contAt at hc
          cases hk : g'.sl[j]? with
          | none => simp only [hk] at hc; cases hc
          | some x =>
            cases x with
            | none => simp only [hk] at hc; cases hc
            | some y => simp only [hk] at hc; cases hc; rfl
        obtain ⟨u1, k1, a1, rfl, k2, _⟩ := R.slt j _ hs
        rw [ha] at k2
        cases k2
        obtain ⟨α2, H2', R2⟩ := R.frzS (g' := g'.set j (.dat (.list ds))) (by unfold Sg.frz; rw [h1]; rfl)
        have hlt : j < g'.sl.length := (List.getElem?_eq_some_iff.mp hs).1
        obtain ⟨u2, m1, m2⟩ := R2.slt j (.dat (.list ds)) (by show (g'.sl.set j _)[j]? = _; rw [List.getElem?_set_self hlt])
        rw [k1] at m1
        cases m1
        exact q (.ref a) H2 H2' (stoA α2) R2.toRelS.sto_only R2.frm m2
      | fld i f => cases he
  | er x =>
    cases he
    exact fun α' H' H2 σ' R => q H2 H' (stoA α') R.toRelS.sto_only R.frm
  | bk => cases he
  | ct => cases he
/-- a def keeps the promise that it is what the evaluator tells -/
theorem fn_ev {nm qual : Str} {st : Stmt} {f : Addr} {fd : FuncData} {N ps : List Str} {k n : Nat} {dvs : List V} {kws : List (Str × V)} {m : SM} (F : FunD K nm qual (defArgs st) (defBody st) (defScope st) dvs kws f fd) (S : FnScope N ps (defScope st)) (hn : ps.length = n)
    (body : ∀ (cdv : Value) (A : Around) (outer : List Env) (s : Shared) (Hs : Hp) (E : XK), Room k (A.deeper (envOfC qual (defScope st) s.heap.objs.size f cdv)) →
      ∃ t, PSs (cxOf (CXL P w) P w K mg base N qual (defScope st) f cdv A outer s Hs E) (defBody st) t ∧ SimS K FL T (fun c d _ H => E c d H) t m) :
    FnOk P w K mg base (CXL P w) (k + 1) f fd ps (spF K FL T n (funOf N.length n m)) := by
  refine F.ok S (fun vs H Q E h => by rw [hn]; exact spF_len h) (fun cdv A outer s H1 vs Q E hr h => ?_)
  obtain ⟨H, α, sto, as, r, st', R, hsl, pa, hl, hf, q⟩ := h
  obtain ⟨t, ht, hk⟩ := body cdv A outer s H1 E hr
  obtain ⟨xs, h1, h2⟩ := bind_some hf
  have h2 : (if as.length = n ∧ n ≤ N.length then (m ⟨argsOf N.length n xs, sto⟩).bind endOf else none) = some (r, st') := h2
  split at h2
  · rename_i hc
    obtain ⟨⟨fl, g'⟩, h3, h4⟩ := bind_some h2
    obtain ⟨rfl, hN⟩ := hc
    exact ⟨t, ht, hk _ α H H1 _ _ fl g' (rel_start R pa h1 hN) h3 _ (end_core h4 q)⟩
  · cases h2
theorem fx_ev {x nm qual : Str} {st : Stmt} {f : Addr} {fd : FuncData} {N ps : List Str} {k n : Nat} {m : SM} (F : FunD K nm qual (defArgs st) (defBody st) (defScope st) [] [] f fd) (hm : mg x = some (.ref f)) (S : FnScope N ps (defScope st)) (hn : ps.length = n)
    (hb : ∀ (kV doc pm : Value) (an : Option Addr) (cdv ct : Value) (us : List Value), us.length = ps.length → bindArgs (PySem.W.fnOf nm qual (defArgs st) (defBody st) (defScope st) .none kV doc pm an cdv ct) ⟨us, []⟩ = pure (ps.zip us))
    (body : ∀ (cdv : Value) (A : Around) (outer : List Env) (s : Shared) (Hs : Hp) (E : XK), Room k (A.deeper (envOfC qual (defScope st) s.heap.objs.size f cdv)) →
      ∃ t, PSs (cxOf (CXL P w) P w K mg base N qual (defScope st) f cdv A outer s Hs E) (defBody st) t ∧ SimS K FL T (fun c d _ H => E c d H) t m) :
    Fx P w K mg base (k + 1) x ps (spF K FL T n (funOf N.length n m)) := ⟨f, fd, fn_ev F S hn body, hm, F.kp, F.bindsN hb⟩
theorem mx_ev {mn nm qual : Str} {C : Addr} {st : Stmt} {f : Addr} {fd : FuncData} {N ps : List Str} {k n : Nat} {m : SM} (F : FunD K nm qual (defArgs st) (defBody st) (defScope st) [] [] f fd) (hm : Meth K C mn f) (S : FnScope N ps (defScope st)) (hn : ps.length = n)
    (hb : ∀ (kV doc pm : Value) (an : Option Addr) (cdv ct : Value) (us : List Value), us.length = ps.length → bindArgs (PySem.W.fnOf nm qual (defArgs st) (defBody st) (defScope st) .none kV doc pm an cdv ct) ⟨us, []⟩ = pure (ps.zip us))
    (body : ∀ (cdv : Value) (A : Around) (outer : List Env) (s : Shared) (Hs : Hp) (E : XK), Room k (A.deeper (envOfC qual (defScope st) s.heap.objs.size f cdv)) →
      ∃ t, PSs (cxOf (CXL P w) P w K mg base N qual (defScope st) f cdv A outer s Hs E) (defBody st) t ∧ SimS K FL T (fun c d _ H => E c d H) t m) :
    Mx P w K C mg base (k + 1) mn ps (spF K FL T n (funOf N.length n m)) := ⟨f, fd, fn_ev F S hn body, hm, F.bindsN hb⟩
/-! pure defs -/
abbrev T0 : TbS := ⟨false, []⟩
abbrev F0 : Fl := fun _ => []
abbrev W0 : WX := fun _ _ _ _ => False
def endP (p : Flo × Sg) : Option PyData := match p.1 with
  | .nx => some .none
  | .rt (.dat d) => some d
  | .rt (.at_ (.slot j)) => (lstAt p.2 (.slot j)).map .list
  | _ => none
def pureOf (N n : Nat) (m : SM) (ds : List PyData) : Option PyData := if ds.length = n ∧ n ≤ N then (m ⟨argsOf N n (ds.map .dat), []⟩).bind endP else none
theorem fx_evP {x nm qual : Str} {st : Stmt} {f : Addr} {fd : FuncData} {N ps : List Str} {k n : Nat} {m : SM} (F : FunD K nm qual (defArgs st) (defBody st) (defScope st) [] [] f fd) (hm : mg x = some (.ref f)) (S : FnScope N ps (defScope st)) (hn : ps.length = n)
    (hb : ∀ (kV doc pm : Value) (an : Option Addr) (cdv ct : Value) (us : List Value), us.length = ps.length → bindArgs (PySem.W.fnOf nm qual (defArgs st) (defBody st) (defScope st) .none kV doc pm an cdv ct) ⟨us, []⟩ = pure (ps.zip us))
    (body : ∀ (cdv : Value) (A : Around) (outer : List Env) (s : Shared) (Hs : Hp) (E : XK), Room k (A.deeper (envOfC qual (defScope st) s.heap.objs.size f cdv)) →
      ∃ t, PSs (cxOf (CXL P w) P w K mg base N qual (defScope st) f cdv A outer s Hs E).nox (defBody st) t ∧ SimS K F0 T0 W0 t m) :
    Fx P w K mg base (k + 1) x ps (spR K n fun ds z => pureOf N.length n m ds = some z) := by
  refine ⟨f, fd, F.ok S (fun vs H Q E h => by rw [hn]; exact spR_len h) (fun cdv A outer s H1 vs Q E hr h => ?_), hm, F.kp, F.bindsN hb⟩
  obtain ⟨H, ds, r, e, da, hl, hR, q⟩ := h
  obtain ⟨t, ht, hk⟩ := body cdv A outer s H1 E hr
  unfold pureOf at hR
  split at hR
  · rename_i hc
    obtain ⟨⟨fl, g'⟩, h3, h4⟩ := bind_some hR
    have lv : vs.length = n := da.length.trans hl
    have R : Rel K F0 T0 ⟨H, H1, fun _ => none⟩ (fun _ => none) H H1 (L2.start N vs) ⟨argsOf N.length n (ds.map .dat), []⟩ := by
      refine ⟨⟨e, (fun h => nomatch h), (fun p hp => nomatch hp), (fun _ _ _ h => nomatch h), (fun _ _ h => nomatch h), (fun _ _ h => nomatch h), (fun i o h => by simp at h), fun _ _ => rfl⟩, Ext.refl _ _, Ex.refl _, (fun h => nomatch h), (fun _ _ h => nomatch h), (fun _ _ h => nomatch h), ?_, fun j v h => ?_⟩
      · unfold L2.start argsOf
        simp only [List.length_append, List.length_map, List.length_replicate]
        omega
      · have hj : ∀ {vs : List V} {ds : List PyData} {k : Nat} {j : Nat} {v : Val}, DtAll K H vs ds → ((ds.map Val.dat).map some ++ List.replicate k none)[j]? = some (some v) → ∃ u d, (vs.map some ++ List.replicate k none)[j]? = some (some u) ∧ v = .dat d ∧ Dt K H u d := by
          intro vs ds k j v hd
          induction vs generalizing ds j with
          | nil =>
            cases hd
            intro h
            have := (List.mem_replicate.mp (List.mem_of_getElem? h)).2
            cases this
          | cons u us ih =>
            cases hd with
            | cons a b =>
              intro h
              cases j with
              | zero => simp at h; subst h; exact ⟨u, _, rfl, rfl, a⟩
              | succ j =>
                obtain ⟨u', d', q1, q2, q3⟩ := ih b (j := j) (by simpa using h)
                exact ⟨u', d', by simpa using q1, q2, q3⟩
        unfold L2.start
        rw [lv]
        obtain ⟨u, d, q1, q2, q3⟩ := hj da h
        subst q2
        exact ⟨u, q1, q3⟩
    refine ⟨t, ht.nox, hk _ _ H H1 _ _ fl g' R h3 _ ?_⟩
    cases fl with
    | nx =>
      cases h4
      exact fun α' H' H2 σ' R' => q .non H2 H' R'.gro R'.ex R'.ext .non
    | rt v =>
      intro α' H' H2 σ' u R' ru
      cases v with
      | dat d =>
        cases h4
        exact q u H2 H' R'.gro R'.ex R'.ext ru
      | at_ o =>
        cases o with
        | ob i => cases h4
        | fld i f => cases h4
        | slot j =>
          obtain ⟨es, k1, k2⟩ := Option.map_eq_some_iff.mp (show (lstAt g' (.slot j)).map PyData.list = some r from h4)
          subst k2
          obtain ⟨a, rfl, ha⟩ := ru
          obtain ⟨xs, k3, k4⟩ := R'.lst k1 ha
          have n1 := R'.offB _ a ha
          obtain ⟨x1, e1⟩ := ext_lay R'.ext R'.ex n1 (R'.off _ a ha) k3
          exact q (.ref a) H2 _ R'.gro e1 x1 (.lst upd_same (DtAll.ex (Ex.new (R'.off _ a ha)) k4))
    | er x => cases h4
    | bk => cases h4
    | ct => cases h4
  · cases hR
end
end
/-! ### calls in the derivation -/
section
variable {X : Cx} {W : WX} {k j : Nat} {x : Str} {ps : List Str} {sp : Sp} {p pos apos : Pos} {e o : Expr} {es : List Expr} {t : TA} {ta : TE}
theorem pe_fxW (tk : L2N.Takes X W) (c : Fx X.prog X.w X.K X.mg X.base k x ps sp) (hr : Room j X.A) (hk : k ≤ j) (hg : Gl X x) (ha : PA X (e :: es) t)
    (hdb : (x == ("__debug__" : Str)) = false := by decide) (he : starEach (e :: es) X.env = (false, eval e X.env) :: starEach es X.env := by rfl) (hpl : (backTo pos (starEach es X.env)).any (·.1) = false := by rfl) :
    PE X (.Call (.Name x p) (e :: es) [] pos) (tCallS sp (WE W) t) := by
  obtain ⟨f, fd, F, hm, kp, b⟩ := c.ex
  exact pe_callS F (hr.mono hk) hg hm kp b (fun σ => L2N.passAt tk σ) ha hdb he hpl
theorem takes0 {X : Cx} : ∀ σ, PassesAt (CXL X.prog X.w) X σ (WE W0 σ) := fun σ pins H s e s' I c => by
  obtain ⟨_, _, _, _, _, _, _, _, _, _, _, _, z⟩ := c
  exact z.elim
theorem pe_fx0 (c : Fx X.prog X.w X.K X.mg X.base k x ps sp) (hr : Room j X.A) (hk : k ≤ j) (hg : Gl X x) (ha : PA X (e :: es) t)
    (hdb : (x == ("__debug__" : Str)) = false := by decide) (he : starEach (e :: es) X.env = (false, eval e X.env) :: starEach es X.env := by rfl) (hpl : (backTo pos (starEach es X.env)).any (·.1) = false := by rfl) :
    PE X (.Call (.Name x p) (e :: es) [] pos) (tCallS sp (WE W0) t) := by
  obtain ⟨f, fd, F, hm, kp, b⟩ := c.ex
  exact pe_callS F (hr.mono hk) hg hm kp b takes0 ha hdb he hpl
theorem pe_mxG {C : Addr} {m : Str} {pl : Sem Bool} (hx : ∀ σ, PassesAt (CXL X.prog X.w) X σ (WE W σ)) (c : Mx X.prog X.w X.K C X.mg X.base k m ps sp) (hC : Cls X.K C) (hr : Room j X.A) (hk : k ≤ j) (ho : PE X o ta) (ha : PA X (e :: es) t)
    (hst : starEach (e :: es) X.env = (false, eval e X.env) :: starEach es X.env := by rfl) (hpl : (backTo pos (starEach es X.env)).any (·.1) = false := by rfl)
    (ht : eval (.Call (.Attribute o m apos) (e :: es) [] pos) X.env = (do
      let ov ← eval o X.env
      standAt apos.atName
      let (f, first) ← holding [ov] (getMethod ov m pl)
      callWith pos f first (backTo pos (starEach (e :: es) X.env)) (backToKw pos (keywordEach [] X.env))) := by rfl) :
    PE X (.Call (.Attribute o m apos) (e :: es) [] pos) (tMethW C m sp (WE W) ta t) := by
  obtain ⟨f, fd, F, hm, b⟩ := c.ex
  refine ⟨fun pins s σ H Q I h => ?_⟩
  refine PySem.W.methodCall_KW (pl := pl) (thn (ho.run pins s σ H _ I h) fun u s1 ⟨x, H1, I1, rx, a, dx, fs, ex, ea, l, q⟩ => ?_) ht
  subst ex
  obtain rfl : u = Value.ref a := rx
  refine getmeth_ok I1 ea hC hm l ?_
  refine PySem.W.callWith_K (first := [.ref a]) (h₀ := X.base) I.ok.mod.kin hm.kp (thn (ha.run pos pins s1 σ H1 _ I1 q) fun us s2 ⟨vs, H2, I2, r, q2⟩ => ⟨I2.kIn, ?_⟩) hst hpl
  exact run_fnS (us := .ref a :: us) (vs := .ref a :: vs) F (hr.mono hk) b (hx σ) I2 (.cons rfl r) q2
theorem pe_mxG0 {C : Addr} {m : Str} {pl : Sem Bool} (hx : ∀ σ, PassesAt (CXL X.prog X.w) X σ (WE W σ)) (c : Mx X.prog X.w X.K C X.mg X.base k m ps sp) (hC : Cls X.K C) (hr : Room j X.A) (hk : k ≤ j) (ho : PE X o ta)
    (ht : eval (.Call (.Attribute o m apos) [] [] pos) X.env = (do
      let ov ← eval o X.env
      standAt apos.atName
      let (f, first) ← holding [ov] (getMethod ov m pl)
      callWith pos f first (backTo pos (starEach [] X.env)) (backToKw pos (keywordEach [] X.env))) := by rfl) :
    PE X (.Call (.Attribute o m apos) [] [] pos) (tMethW C m sp (WE W) ta tNil) := by
  obtain ⟨f, fd, F, hm, b⟩ := c.ex
  refine ⟨fun pins s σ H Q I h => ?_⟩
  refine PySem.W.methodCall_KW (pl := pl) (thn (ho.run pins s σ H _ I h) fun u s1 ⟨x, H1, I1, rx, a, dx, fs, ex, ea, l, q⟩ => ?_) ht
  subst ex
  obtain rfl : u = Value.ref a := rx
  refine getmeth_ok I1 ea hC hm l ?_
  exact PySem.W.callWith_K0 (first := [.ref a]) I1.kIn hm.kp (run_fnS (us := [.ref a]) (vs := [.ref a]) F (hr.mono hk) b (hx σ) I1 (.cons rfl .nil) q)
end
end EV

/-! ### EV: operators and built-ins of data (own work) -/
namespace EV
open PySem PySem.Spec PyProof.Rows L2 Evl L2H LamX LR
def fAdd : PyData → PyData → Option PyData
  | .int i, .int j => some (.int (i + j))
  | .str a, .str b => if a.length + b.length ≤ 100000 then some (.str (a ++ b)) else none
  | .list ds, .list es => if ds.length + es.length ≤ 100000 then some (.list (ds ++ es)) else none
  | .tuple ds, .tuple es => if ds.length + es.length ≤ 100000 then some (.tuple (ds ++ es)) else none
  | _, _ => none
def fI (g : Int → Int → Int) : PyData → PyData → Option PyData
  | .int i, .int j => some (.int (g i j))
  | _, _ => none
def fIC (C : Int → Int → Bool) (g : Int → Int → Int) : PyData → PyData → Option PyData
  | .int i, .int j => if C i j = true then some (.int (g i j)) else none
  | _, _ => none
def fIB (g : Int → Int → Bool) : PyData → PyData → Option PyData
  | .int i, .int j => some (.bool (g i j))
  | _, _ => none
def fSub := fI fun i j => i - j
def fAnd := fI Builtin.bitAnd
def fMod := fIC (fun _ j => decide (0 < j)) fun i j => i % j
def fDiv := fIC (fun _ j => decide (0 < j ∧ j < 2 ^ 64)) fun i j => i / j
def fPow := fIC (fun i j => decide (0 ≤ j ∧ j ≤ 1000000 ∧ i.natAbs < 2 ^ 64)) fun i j => i ^ j.toNat
def fShl := fIC (fun i j => decide (0 ≤ j ∧ j ≤ 1000000 ∧ i.natAbs < 2 ^ 64)) fun i j => i * 2 ^ j.toNat
def fShr := fIC (fun _ j => decide (0 ≤ j)) fun i j => i / 2 ^ j.toNat
def repS (z : Str) (k : Nat) : Str := ⟨(List.replicate k z.cps.toList).flatten.toArray⟩
def fMul : PyData → PyData → Option PyData
  | .int i, .int j => if (-(2 ^ 64) < i ∧ i < 2 ^ 64) ∨ (-(2 ^ 64) < j ∧ j < 2 ^ 64) then some (.int (i * j)) else none
  | .str z, .int k => if -(2 ^ 60) ≤ k ∧ k ≤ 1000 ∧ z.length ≤ 1000 then some (.str (repS z k.toNat)) else none
  | .list ds, .int k => if 0 ≤ k ∧ k ≤ 1000 ∧ ds.length ≤ 90 then some (.list (List.replicate k.toNat ds).flatten) else none
  | .tuple ds, .int k => if ds.isEmpty = false ∧ 2 ≤ k ∧ k ≤ 1000 ∧ ds.length ≤ 1000 then some (.tuple (List.replicate k.toNat ds).flatten) else none
  | _, _ => none
def fLt : PyData → PyData → Option PyData
  | .int i, .int j => some (.bool (decide (i < j)))
  | .str a, .str b => some (.bool (decide (a.cps.toList < b.cps.toList)))
  | _, _ => none
def fEqB : PyData → PyData → Option Bool
  | .int i, .int j => some (decide (i = j))
  | .str a, .str b => some (decide (a = b))
  | .bool a, .bool b => some (decide (a = b))
  | d, e => if SeqAt.shaped d = true ∧ SeqAt.shaped e = true then some (PyData.eqv d e) else none
def fEq (d e : PyData) : Option PyData := (fEqB d e).map .bool
def fNe (d e : PyData) : Option PyData := (fEqB d e).map fun b => .bool (!b)
def fIx : PyData → PyData → Option PyData
  | .tuple ds, .int i => atI ds i
  | .list ds, .int i => atI ds i
  | .str z, .int i => if z.length ≤ 100000 then (atI z.cps.toList i).map fun c => .str ⟨#[c]⟩ else none
  | _, _ => none
def fIn : PyData → PyData → Option PyData
  | .str x, .str z => match x.cps.toList with
    | [c] => some (.bool (decide (c ∈ z.cps.toList)))
    | _ => none
  | _, _ => none
def fNotIn (d e : PyData) : Option PyData := (fIn d e).bind fun z => (asB z).map fun b => .bool (!b)
def isNone : PyData → Bool
  | .none => true
  | _ => false
def fIsN (d e : PyData) : Option PyData := if isNone e = true then some (.bool (isNone d)) else none
def fNotN (d e : PyData) : Option PyData := if isNone e = true then some (.bool (!isNone d)) else none
def fIsB : PyData → PyData → Option PyData
  | .bool a, .bool b => some (.bool (decide (a = b)))
  | _, _ => none
section
variable {K : PySem.W.Frag}
theorem od_I {g : Int → Int → Int} : OpD K (rI0 fun i j => .int (g i j)) (fI g) := fun d e z h H => by
  cases d <;> cases e <;> cases h
  exact rd_I0
theorem od_IB {g : Int → Int → Bool} : OpD K (rI0 fun i j => .bl (g i j)) (fIB g) := fun d e z h H => by
  cases d <;> cases e <;> cases h
  exact rd_IB
theorem od_IC {C' : Int → Int → Prop} {C : Int → Int → Bool} {g : Int → Int → Int} (hC : ∀ i j, C i j = true → C' i j) : OpD K (rI C' fun i j => .int (g i j)) (fIC C g) := fun d e z h H => by
  cases d <;> cases e <;> try cases h
  obtain ⟨h1, rfl⟩ := ite_some (show (if C _ _ = true then some _ else none) = some z from h)
  exact rd_I (hC _ _ h1)
theorem od_sub : OpD K (rI0 fun i j => .int (i - j)) fSub := od_I
theorem od_subA : OpD K rSub fSub := od_I
theorem od_addA : OpD K rAdd (fI fun i j => i + j) := od_I
theorem od_and : OpD K (rI0 fun i j => .int (Builtin.bitAnd i j)) fAnd := od_I
theorem od_mod : OpD K (rI (fun _ j => 0 < j) fun i j => .int (i % j)) fMod := od_IC fun i j h => of_decide_eq_true h
theorem od_div : OpD K (rI CDivW fun i j => .int (i / j)) fDiv := od_IC fun i j h => by
  have ⟨h1, h2⟩ := of_decide_eq_true h
  refine ⟨h1, ?_⟩
  have : j.natAbs < 2 ^ 64 := by omega
  exact Nat.lt_of_lt_of_le ((Nat.log2_lt (by omega)).mpr this) (by decide)
theorem od_pow : OpD K (rI CPow fun i j => .int (i ^ j.toNat)) fPow := od_IC fun i j h => by
  have h : decide (0 ≤ j ∧ j ≤ 1000000 ∧ i.natAbs < 2 ^ 64) = true := h
  have h2 : 0 ≤ j ∧ j ≤ 1000000 ∧ i.natAbs < 2 ^ 64 := of_decide_eq_true h
  exact h2
theorem od_shl : OpD K (rI CPow fun i j => .int (i * 2 ^ j.toNat)) fShl := od_IC fun i j h => by
  have h : decide (0 ≤ j ∧ j ≤ 1000000 ∧ i.natAbs < 2 ^ 64) = true := h
  have h2 : 0 ≤ j ∧ j ≤ 1000000 ∧ i.natAbs < 2 ^ 64 := of_decide_eq_true h
  exact h2
theorem od_shr : OpD K (rI (fun _ j => 0 ≤ j) fun i j => .int (i / 2 ^ j.toNat)) fShr := od_IC fun i j h => of_decide_eq_true h
theorem od_le : OpD K (rI0 fun i j => .bl (decide (i ≤ j))) (fIB fun i j => decide (i ≤ j)) := od_IB
theorem od_gt : OpD K (rI0 fun i j => .bl (decide (j < i))) (fIB fun i j => decide (j < i)) := od_IB
theorem od_ge : OpD K (rI0 fun i j => .bl (decide (j ≤ i))) (fIB fun i j => decide (j ≤ i)) := od_IB
theorem od_add : OpD K (rAddU K) fAdd := fun d e z h H => by
  cases d <;> cases e <;> try cases h
  · exact rd_addI
  · obtain ⟨h1, rfl⟩ := ite_some (show (if _ then some (PyData.str _) else none) = some z from h)
    exact rd_addS (Nat.le_trans h1 (by decide))
  · obtain ⟨h1, rfl⟩ := ite_some (show (if _ then some (PyData.list _) else none) = some z from h)
    exact rd_addL h1
  · obtain ⟨h1, rfl⟩ := ite_some (show (if _ then some (PyData.tuple _) else none) = some z from h)
    exact rd_addT h1
theorem rd_mulL' {H : Hp} {ds : List PyData} {k : Int} (h1 : 0 ≤ k) (h2 : k ≤ 1000) (hl : ds.length ≤ 90) : RD2 K (rMulU K) (.list ds) (.int k) H (.list (List.replicate k.toNat ds).flatten) := fun H' x y _ dx dy H1 e1 Q q => by
  obtain ⟨a, xs, rfl, ha, ra⟩ := dx.lst_eq
  refine .inr (.inr (.inl ⟨a, k, xs, rfl, dy.int_eq, e1 a _ ha, by omega, by omega, ?_, fun p hp => ?_⟩))
  · rw [ra.length]
    exact Nat.le_trans (Nat.mul_le_mul hl (show k.toNat ≤ 1000 by omega)) (by decide)
  · exact q.new e1 hp (.lst upd_same (DtAll.ex (Ex.new (fresh_back e1 hp)) (DtAll.rep ra _)))
theorem od_mul : OpD K (rMulU K) fMul := fun d e z h H => by
  cases d <;> cases e <;> try cases h
  · obtain ⟨h1, rfl⟩ := ite_some (show (if _ then some (PyData.int _) else none) = some z from h)
    exact rd_mulI h1
  · obtain ⟨⟨h1, h2, h3⟩, rfl⟩ := ite_some (show (if _ then some (PyData.str _) else none) = some z from h)
    exact rd_mulS h1 h2 h3
  · obtain ⟨⟨h1, h2, h3⟩, rfl⟩ := ite_some (show (if _ then some (PyData.list _) else none) = some z from h)
    exact rd_mulL' h1 h2 h3
  · obtain ⟨⟨h0, h1, h2, h3⟩, rfl⟩ := ite_some (show (if _ then some (PyData.tuple _) else none) = some z from h)
    exact rd_mulT (fun e => by rw [e] at h0; cases h0) h1 h2 h3
theorem od_lt : OpD K rLtU fLt := fun d e z h H => by
  cases d <;> cases e <;> cases h
  · exact rd_ltI
  · exact rd_ltS
theorem od_eq : OpD K (rEqU K) fEq := fun d e z h H => by
  obtain ⟨b, h1, rfl⟩ := Option.map_eq_some_iff.mp h
  unfold fEqB at h1
  split at h1
  · cases h1; exact rd_eqI
  · cases h1; exact rd_eqS
  · cases h1; exact rd_eqB
  · obtain ⟨⟨h2, h3⟩, rfl⟩ := ite_some h1
    exact rd_eqU h2 h3
theorem od_ne : OpD K (rNeU K) fNe := fun d e z h H => by
  obtain ⟨b, h1, rfl⟩ := Option.map_eq_some_iff.mp h
  unfold fEqB at h1
  split at h1
  · cases h1; exact rd_neI
  · cases h1; exact rd_neS
  · cases h1; exact rd_neB
  · obtain ⟨⟨h2, h3⟩, rfl⟩ := ite_some h1
    exact rd_neU h2 h3
theorem od_ix : OpD K (rIx K) fIx := fun d e z h H => by
  cases d <;> cases e <;> try cases h
  · have h : (if _ then (atI _ _).map (fun c => PyData.str ⟨#[c]⟩) else none) = some z := h
    split at h
    · rename_i hl
      obtain ⟨c, h1, rfl⟩ := Option.map_eq_some_iff.mp h
      exact rd_ixS hl h1
    · cases h
  · exact rd_ixL h
  · exact rd_ixT h
theorem od_in : OpD K (fun x y H Q => ∃ (c : Nat) (z : Str), x = .str ⟨#[c]⟩ ∧ y = .str z ∧ Q (.bl (decide (c ∈ z.cps.toList))) H) fIn := fun d e z h H => by
  cases d <;> cases e <;> try cases h
  rename_i x y
  have h : (match x.cps.toList with | [c] => some (PyData.bool (decide (c ∈ y.cps.toList))) | _ => none) = some z := h
  split at h
  · rename_i c hc
    cases h
    have ex : x = ⟨#[c]⟩ := by
      cases x with
      | mk cps =>
        have : cps = #[c] := Array.toList_inj.mp hc
        rw [this]
    subst ex
    exact rd_inS
  · cases h
theorem od_notin : OpD K (fun x y H Q => ∃ (c : Nat) (z : Str), x = .str ⟨#[c]⟩ ∧ y = .str z ∧ Q (.bl (!decide (c ∈ z.cps.toList))) H) fNotIn := fun d e z h H => by
  obtain ⟨y, h1, h2⟩ := bind_some h
  obtain ⟨b, h3, rfl⟩ := Option.map_eq_some_iff.mp h2
  rw [asB_some h3] at h1
  cases d <;> cases e <;> try cases h1
  rename_i x y
  have h1 : (match x.cps.toList with | [c] => some (PyData.bool (decide (c ∈ y.cps.toList))) | _ => none) = some (.bool b) := h1
  split at h1
  · rename_i c hc
    cases h1
    have ex : x = ⟨#[c]⟩ := by
      cases x with
      | mk cps =>
        have : cps = #[c] := Array.toList_inj.mp hc
        rw [this]
    subst ex
    exact fun H' u v _ dx dy H1 e1 Q q => ⟨c, y, dx.str_eq, dy.str_eq, q.val e1 fun _ => .bl _⟩
  · cases h1
theorem isNone_v {H : Hp} {v : V} {d : PyData} (h : Dt K H v d) : decide (v = .non) = isNone d := by
  cases h <;> rfl
theorem isNone_eq {d : PyData} (h : isNone d = true) : d = .none := by
  cases d <;> first | rfl | cases h
theorem od_isN : OpD K rIsN0 fIsN := fun d e z h H => by
  obtain ⟨h1, rfl⟩ := ite_some h
  rw [isNone_eq h1]
  exact fun H' u v _ dx dy H1 e1 Q q => ⟨dy.non_eq, by rw [isNone_v dx]; exact q.val e1 fun _ => .bl _⟩
theorem od_notN : OpD K rNotN0 fNotN := fun d e z h H => by
  obtain ⟨h1, rfl⟩ := ite_some h
  rw [isNone_eq h1]
  exact fun H' u v _ dx dy H1 e1 Q q => ⟨dy.non_eq, by rw [isNone_v dx]; exact q.val e1 fun _ => .bl _⟩
theorem od_isB : OpD K (fun x y H Q => ∃ a b, x = .bl a ∧ y = .bl b ∧ Q (.bl (decide (a = b))) H) fIsB := fun d e z h H => by
  cases d <;> cases e <;> cases h
  exact rd_isB
/-! built-ins -/
def fNeg : PyData → Option PyData
  | .int i => some (.int (-i))
  | _ => none
theorem ud_neg : ∀ d z, fNeg d = some z → ∀ H, RDU K (rU fun i => .int (-i)) d H z := fun d z h H => by
  cases d <;> cases h
  exact rdu_neg
theorem cb_of {r : List V → Hp → VK → Prop} {d z : PyData} (h : ∀ (H : Hp) (v : V), Dt K H v d → EvD K (tCB r (tCons (tC v) tNil)) [] H z) : ∀ H, RDC K r [d] H z := fun H H' vs _ dv H1 e1 Q q => by
  cases dv with
  | cons a b => cases b; exact h H' _ a H1 e1 Q q
def fLen : List PyData → Option PyData
  | [.str z] => if z.length ≤ 100000 then some (.int z.length) else none
  | [.list ds] => some (.int ds.length)
  | [.tuple ds] => some (.int ds.length)
  | _ => none
theorem cd_len : CbD K (lenR K) fLen := fun ds z h => by
  unfold fLen at h
  split at h
  · obtain ⟨h1, rfl⟩ := ite_some h
    exact cb_of fun H v dv => ed_lenS (ed_c dv) (Nat.le_trans h1 (by decide))
  · cases h; exact cb_of fun H v dv => ed_lenL (ed_c dv)
  · cases h; exact cb_of fun H v dv => ed_lenT (ed_c dv)
  · cases h
def bools : List PyData → Option (List Bool)
  | [] => some []
  | d :: r => (asB d).bind fun b => (bools r).map fun bs => b :: bs
theorem bools_eq : ∀ {ds : List PyData} {bs : List Bool}, bools ds = some bs → ds = bs.map .bool
  | [], _, h => by cases h; rfl
  | d :: r, _, h => by
    obtain ⟨b, h1, h2⟩ := bind_some h
    obtain ⟨bs, h3, rfl⟩ := Option.map_eq_some_iff.mp h2
    rw [asB_some h1, bools_eq h3]
    rfl
def fAll : List PyData → Option PyData
  | [.list ds] => (bools ds).map fun bs => .bool (bs.all id)
  | _ => none
def fAny : List PyData → Option PyData
  | [.list ds] => (bools ds).map fun bs => .bool (bs.any id)
  | _ => none
theorem cd_all : CbD K (rAll K) fAll := fun ds z h => by
  unfold fAll at h
  split at h
  · obtain ⟨bs, h1, rfl⟩ := Option.map_eq_some_iff.mp h
    rw [bools_eq h1]
    exact cb_of fun H v dv => ed_all (ed_c dv)
  · cases h
theorem cd_any : CbD K (rAny K) fAny := fun ds z h => by
  unfold fAny at h
  split at h
  · obtain ⟨bs, h1, rfl⟩ := Option.map_eq_some_iff.mp h
    rw [bools_eq h1]
    exact cb_of fun H v dv => ed_any (ed_c dv)
  · cases h
def intsD : List PyData → Option (List Int)
  | [] => some []
  | d :: r => (asI d).bind fun b => (intsD r).map fun bs => b :: bs
theorem intsD_eq : ∀ {ds : List PyData} {bs : List Int}, intsD ds = some bs → ds = bs.map .int
  | [], _, h => by cases h; rfl
  | d :: r, _, h => by
    obtain ⟨b, h1, h2⟩ := bind_some h
    obtain ⟨bs, h3, rfl⟩ := Option.map_eq_some_iff.mp h2
    rw [asI_some h1, intsD_eq h3]
    rfl
def asS (d : PyData) : Option Str := match d with
  | .str i => some i
  | _ => none
theorem asS_some {d : PyData} {i : Str} (h : asS d = some i) : d = .str i := by
  cases d <;> simp [asS] at h
  rw [h]
def strsD : List PyData → Option (List Str)
  | [] => some []
  | d :: r => (asS d).bind fun b => (strsD r).map fun bs => b :: bs
theorem strsD_eq : ∀ {ds : List PyData} {bs : List Str}, strsD ds = some bs → ds = bs.map .str
  | [], _, h => by cases h; rfl
  | d :: r, _, h => by
    obtain ⟨b, h1, h2⟩ := bind_some h
    obtain ⟨bs, h3, rfl⟩ := Option.map_eq_some_iff.mp h2
    rw [asS_some h1, strsD_eq h3]
    rfl
def fSum : List PyData → Option PyData
  | [.list ds] => (intsD ds).map fun bs => .int bs.sum
  | _ => none
theorem cd_sum : CbD K (rSum K) fSum := fun ds z h => by
  unfold fSum at h
  split at h
  · obtain ⟨bs, h1, rfl⟩ := Option.map_eq_some_iff.mp h
    rw [intsD_eq h1]
    exact cb_of fun H v dv => ed_sum (ed_c dv)
  · cases h
def fMax2 : List PyData → Option PyData
  | [.int a, .int b] => some (.int (if b > a then b else a))
  | _ => none
def fMin2 : List PyData → Option PyData
  | [.int a, .int b] => some (.int (if b < a then b else a))
  | _ => none
theorem two_of {H : Hp} {vs : List V} {a b : PyData} (h : DtAll K H vs [a, b]) : ∃ u v, vs = [u, v] ∧ Dt K H u a ∧ Dt K H v b := by
  cases h with
  | cons x y => cases y with
    | cons z w => cases w; exact ⟨_, _, rfl, x, z⟩
theorem cd_max2 : CbD K (fun xs H Q => ∃ i j, xs = [.int i, .int j] ∧ Q (.int (if j > i then j else i)) H) fMax2 := fun ds z h => by
  unfold fMax2 at h
  split at h
  · cases h
    intro H H' vs _ dv H1 e1 Q q
    obtain ⟨u, v, rfl, h1, h2⟩ := two_of dv
    exact ⟨_, _, by rw [h1.int_eq, h2.int_eq], q.val e1 fun _ => .int _⟩
  · cases h
theorem cd_min2 : CbD K (fun xs H Q => ∃ i j, xs = [.int i, .int j] ∧ Q (.int (if j < i then j else i)) H) fMin2 := fun ds z h => by
  unfold fMin2 at h
  split at h
  · cases h
    intro H H' vs _ dv H1 e1 Q q
    obtain ⟨u, v, rfl, h1, h2⟩ := two_of dv
    exact ⟨_, _, by rw [h1.int_eq, h2.int_eq], q.val e1 fun _ => .int _⟩
  · cases h
def fOrd : List PyData → Option PyData
  | [.str x] => match x.cps.toList with
    | [c] => some (.int c)
    | _ => none
  | _ => none
theorem one_of {H : Hp} {vs : List V} {a : PyData} (h : DtAll K H vs [a]) : ∃ u, vs = [u] ∧ Dt K H u a := by
  cases h with
  | cons x y => cases y; exact ⟨_, rfl, x⟩
theorem cd_ord : CbD K (fun xs H Q => ∃ x : Str, xs = [.str x] ∧ x.length = 1 ∧ Q (.int (x.cps.getD 0 0 : Nat)) H) fOrd := fun ds z h => by
  unfold fOrd at h
  split at h
  · split at h
    · rename_i c hc
      rename_i x _
      cases h
      intro H H' vs _ dv H1 e1 Q q
      obtain ⟨u, rfl, h1⟩ := one_of dv
      have ex : x = ⟨#[c]⟩ := by
        cases x with
        | mk cps =>
          have : cps = #[c] := Array.toList_inj.mp hc
          rw [this]
      subst ex
      exact ⟨_, by rw [h1.str_eq], rfl, q.val e1 fun _ => .int _⟩
    · cases h
  · cases h
def fStrI : List PyData → Option PyData
  | [.int i] => if i.natAbs < 2 ^ 64 then some (.str (Str.ofString (toString i))) else none
  | _ => none
theorem cd_strI : CbD K (fun xs H Q => ∃ i : Int, xs = [.int i] ∧ i.natAbs.log2 < 1920 ∧ Q (.str (toString i)) H) fStrI := fun ds z h => by
  unfold fStrI at h
  split at h
  · rename_i i
    obtain ⟨h0, rfl⟩ := ite_some h
    intro H H' vs _ dv H1 e1 Q q
    obtain ⟨u, rfl, h1⟩ := one_of dv
    refine ⟨i, by rw [h1.int_eq], ?_, q.val e1 fun _ => .str _⟩
    by_cases c : i.natAbs = 0
    · rw [c]; decide
    · exact Nat.lt_of_lt_of_le ((Nat.log2_lt c).mpr h0) (by decide)
  · cases h
def fInt : List PyData → Option PyData
  | [.int i] => some (.int i)
  | [.bool b] => some (.int (if b then 1 else 0))
  | _ => none
theorem cd_int : CbD K (fun xs H Q => (∃ i, xs = [.int i] ∧ Q (.int i) H) ∨ ∃ k, xs = [.bl k] ∧ Q (.int (if k then 1 else 0)) H) fInt := fun ds z h => by
  unfold fInt at h
  split at h
  · cases h
    intro H H' vs _ dv H1 e1 Q q
    obtain ⟨u, rfl, h1⟩ := one_of dv
    exact .inl ⟨_, by rw [h1.int_eq], q.val e1 fun _ => .int _⟩
  · cases h
    intro H H' vs _ dv H1 e1 Q q
    obtain ⟨u, rfl, h1⟩ := one_of dv
    exact .inr ⟨_, by rw [h1.bl_eq], q.val e1 fun _ => .int _⟩
  · cases h
def fTuple : List PyData → Option PyData
  | [.list ds] => some (.tuple ds)
  | [.tuple ds] => some (.tuple ds)
  | _ => none
theorem cd_tuple : CbD K (rTupOf K) fTuple := fun ds z h => by
  unfold fTuple at h
  split at h
  · cases h
    intro H H' vs _ dv H1 e1 Q q
    obtain ⟨u, rfl, h1⟩ := one_of dv
    obtain ⟨a, xs, rfl, ha, ra⟩ := h1.lst_eq
    exact ⟨a, xs, rfl, .inl ⟨sq_of (e1 a _ ha), fun l hl => q.new e1 hl (.tup (st_of upd_same) (DtAll.ex (Ex.new (fresh_back e1 hl)) ra))⟩⟩
  · cases h
    intro H H' vs _ dv H1 e1 Q q
    obtain ⟨u, rfl, h1⟩ := one_of dv
    obtain ⟨a, xs, rfl, ha, ra⟩ := h1.tup_eq
    exact ⟨a, xs, rfl, .inr ⟨ex_t e1 ha, KD.now q e1 (.tup ha ra)⟩⟩
  · cases h
def fList : List PyData → Option PyData
  | [.list ds] => some (.list ds)
  | [.tuple ds] => some (.list ds)
  | _ => none
theorem cd_list : CbD K (rLstOf K) fList := fun ds z h => by
  unfold fList at h
  split at h
  · cases h; exact cb_of fun H v dv => ed_listL (ed_c dv)
  · cases h; exact cb_of fun H v dv => ed_listT (ed_c dv)
  · cases h
end
/-! kinds -/
def isTy (n : String) (d : PyData) : Option Bool := if n = "str" then some (match d with | .str _ => true | _ => false)
  else if n = "int" then some (match d with | .int _ => true | .bool _ => true | _ => false)
  else if n = "bool" then some (match d with | .bool _ => true | _ => false)
  else if n = "tuple" then some (match d with | .tuple _ => true | _ => false)
  else if n = "list" then some (match d with | .list _ => true | .dict _ => true | _ => false) else none
theorem isTy_kit {n : String} {d : PyData} {b : Bool} (h : isTy n d = some b) : kitB (tyD d) n = some b := by
  unfold isTy at h
  split at h
  · rename_i e; subst e; cases h; cases d <;> simp only [tyD] <;> decide +kernel
  · split at h
    · rename_i e; subst e; cases h; cases d <;> simp only [tyD] <;> decide +kernel
    · split at h
      · rename_i e; subst e; cases h; cases d <;> simp only [tyD] <;> decide +kernel
      · split at h
        · rename_i e; subst e; cases h; cases d <;> simp only [tyD] <;> decide +kernel
        · split at h
          · rename_i e; subst e; cases h; cases d <;> simp only [tyD] <;> decide +kernel
          · cases h
section
variable {K : PySem.W.Frag} {FL : Fl} {T : TbS} {W : WX} {ta tb te : TE} {pa pb : PM} {ma : EM}
def pIsi (n : String) (p : PM) : PM := fun g => (p g).bind fun d => (isTy n d).map .bool
theorem sp_isi {n : String} (ha : SimP K FL T ta pa) : SimP K FL T (tCB (rIsi K) (tCons ta (tCons (tC (.ty n)) tNil))) (pIsi n pa) := fun F α H H1 σ g z R h Q q => by
  obtain ⟨d, h1, h2⟩ := bind_some h
  obtain ⟨b, h3, rfl⟩ := Option.map_eq_some_iff.mp h2
  refine ha F α H H1 σ g d R h1 _ fun x H2 Ha e2 ea xa da => ?_
  exact rdc_isi (H := Ha) (isTy_kit h3) Ha _ (Ex.refl _) x da rfl H2 ea Q fun v H4 Hc e4 ec xc dc => q v H4 Hc (e2.trans e4) ec (xa.trans e2 xc) dc
def mIsi (n : String) (m : EM) : EM := eBind m fun v => fun g => (okV v).bind fun d => (isTy n d).bind fun b => some (.ok (.dat (.bool b)), g)
theorem se_isi {n : String} (ha : SimE K FL T W ta ma) : SimE K FL T W (tCB (rIsi K) (tCons ta (tCons (tC (.ty n)) tNil))) (mIsi n ma) := fun F α H H1 σ g r g' R hm Q q => by
  rcases eBind_some hm with ⟨v, g1, h1, h2⟩ | ⟨x, h1, rfl⟩
  · refine ha F α H H1 σ g _ g1 R h1 _ fun α1 Ha H2 x R1 s1 rx => ?_
    obtain ⟨d, k1, h5⟩ := bind_some h2
    obtain ⟨b, k3, h7⟩ := bind_some h5
    cases h7
    exact rdc_isi (H := Ha) (isTy_kit k3) Ha _ (Ex.refl _) x (rx.dat (okV_some k1)) rfl H2 R1.ex Q fun v H4 Hc e4 ec xc dc => q α1 Hc H4 v (R1.grow e4 ec xc) (s1.trans (Stp.of xc.ex)) dc
  · exact ha F α H H1 σ g _ _ R h1 _ q
/-! methods of texts, with one argument -/
def pM1 (f : Str → PyData → Option PyData) (a b : PM) : PM := fun g => (a g).bind fun d => (asS d).bind fun x => (b g).bind fun e => f x e
def MtD (K : PySem.W.Frag) (r : V → List V → Hp → VK → Prop) (f : Str → PyData → Option PyData) : Prop := ∀ x e z, f x e = some z → ∀ H y, Dt K H y e → ∀ H1, Ex H H1 → ∀ Q : VK, KD K H H1 z Q → r (.str x) [y] H1 Q
theorem sp_m1 {r : V → List V → Hp → VK → Prop} {f : Str → PyData → Option PyData} (hf : MtD K r f) (ha : SimP K FL T ta pa) (hb : SimP K FL T tb pb) : SimP K FL T (tM1 r ta tb) (pM1 f pa pb) := fun F α H H1 σ g z R h Q q => by
  obtain ⟨d, h1, h⟩ := bind_some h
  obtain ⟨x, h2, h⟩ := bind_some h
  obtain ⟨e, h3, h4⟩ := bind_some h
  rw [asS_some h2] at h1
  refine ha F α H H1 σ g _ R h1 _ fun v H2 Ha e2 ea xa da => ?_
  rw [da.str_eq]
  refine ⟨⟨x, rfl⟩, hb F α Ha H2 σ g e (R.grow e2 ea xa) h3 _ fun y H3 Hb e3 eb xb db => ?_⟩
  exact hf x e z h4 Hb y db H3 eb Q fun v H4 Hc e4 ec xc dc => q v H4 Hc ((e2.trans e3).trans e4) ec ((xa.trans e2 xb).trans (e2.trans e3) xc) dc
def fFind (x : Str) : PyData → Option PyData
  | .str y => some (.int (Txt.find x y))
  | _ => none
theorem md_find : MtD K (fun x xs H Q => ∃ a b, x = .str a ∧ xs = [.str b] ∧ Q (.int (Txt.find a b)) H) fFind := fun x e z h H y dy H1 e1 Q q => by
  cases e <;> cases h
  exact ⟨x, _, rfl, by rw [dy.str_eq], q.val e1 fun _ => .int _⟩
def fJoin (x : Str) : PyData → Option PyData
  | .list ds => (strsD ds).bind fun zs => if (zs.map (·.length)).sum + zs.length * x.length ≤ 100000 then some (.str (Txt.join x zs)) else none
  | _ => none
theorem md_join : MtD K (rJoin K) fJoin := fun x e z h H y dy H1 e1 Q q => by
  unfold fJoin at h
  split at h
  · obtain ⟨zs, h1, h2⟩ := bind_some h
    obtain ⟨h3, rfl⟩ := ite_some h2
    have := strsD_eq h1
    subst this
    obtain ⟨a, xs, rfl, ha, ra⟩ := dy.lst_eq
    have e2 := strs_dp ra
    subst e2
    exact ⟨x, a, zs, rfl, rfl, .inl (sq_of (e1 a _ ha)), Nat.le_trans h3 (by decide), q.val e1 fun _ => .str _⟩
  · cases h
def fSplit (x : Str) : PyData → Option PyData
  | .str y => if (y.length == 0) = false ∧ x.length ≤ 60000 then some (.list ((Txt.split x y).map .str)) else none
  | _ => none
theorem md_split : MtD K (fun x xs H Q => ∃ a b, x = .str a ∧ xs = [.str b] ∧ (b.length == 0) = false ∧ a.length + 2 ≤ sizeLine ∧ rNewStrs (Txt.split a b) H Q) fSplit := fun x e z h H y dy H1 e1 Q q => by
  unfold fSplit at h
  split at h
  · obtain ⟨⟨h1, h2⟩, rfl⟩ := ite_some h
    refine ⟨x, _, rfl, by rw [dy.str_eq], h1, Nat.le_trans (Nat.add_le_add_right h2 2) (by decide), fun p hp => q.new e1 hp (.lst upd_same (dp_strs _))⟩
  · cases h
end
end EV

/-! ### EV: the program's classes -/
namespace EV
open PySem PySem.Spec PyProof.Rows L2 Evl L2H LamX LR
abbrev FLD : Fl := fun C => if C = "Disk" then ["wide", "settled_ones", "loose", "fuse", "has_fallen", "many_reads", "many_writes", "many_settles"]
  else if C = "Room" then ["plate", "most", "held", "peak"]
  else if C = "Store" then ["plate", "room", "used", "new", "gone", "late", "walks"]
  else if C = "Leafmap" then ["made_of", "kind", "store", "held", "walks", "is_dead", "done", "serial", "many", "root"] else []
theorem pure_len {N n : Nat} {m : SM} {ds : List PyData} {z : PyData} (h : pureOf N n m ds = some z) : ds.length = n := by
  unfold pureOf at h
  split at h
  · rename_i c; exact c.1
  · cases h
end EV

/-! ### EV: what is new, guarded; comprehensions that do something; more reads (own work) -/
namespace EV
open PySem PySem.Spec PyProof.Rows L2 Evl L2H LamX LR
section
variable {K : PySem.W.Frag} {FL : Fl} {T : TbS} {W : WX} {ta tb tc te td ty tx : TE} {tt tu : TT} {pa pb pc : PM} {qa qb : PB} {tA tr : TA} {ps pr : PMs} {ma mb : EM} {ms mr : AM} {ba bb : BM} {t1 t2 : TS} {s1 s2 : SM} {i j : Nat} {w : WM}
/-- a thing that nobody owns is kept -/
theorem Rel.prot {F : Fr} {α : Al} {H H1 : Hp} {σ : L2.St} {g : Sg} {p : Addr} {ho : HO} (R : Rel K FL T F α H H1 σ g) (hp : H1 p = some ho) (hn : ∀ o, α o ≠ some p) (nt : ∀ qs, ho ≠ .tbl qs) : Rel K FL T ⟨H, upd F.B p ho, F.a0⟩ α H H1 σ g := by
  refine ⟨R.toRelS, Ext.refl _ _, fun b u hb => ?_, fun hT b qs hb => ?_, fun o a ha => ?_, R.old, R.len, R.slt⟩
  · have hb : upd F.B p ho b = some u := hb
    by_cases c : b = p
    · subst c; rw [upd_same] at hb; cases hb; exact hp
    · rw [upd_ne c] at hb; exact R.gro b u hb
  · have hb : upd F.B p ho b = some (.tbl qs) := hb
    by_cases c : b = p
    · subst c; rw [upd_same] at hb; cases hb; exact nt qs rfl
    · rw [upd_ne c] at hb; exact R.ntB hT b qs hb
  · show upd F.B p ho a = none
    have c : a ≠ p := fun e => hn o (e ▸ ha)
    rw [upd_ne c]
    exact R.offB o a ha
theorem Rel.unprot {F : Fr} {α : Al} {H0 H H1 : Hp} {σ : L2.St} {g : Sg} {p : Addr} {ho : HO} (R : Rel K FL T ⟨H0, upd F.B p ho, F.a0⟩ α H H1 σ g) (x : Ext F.H0 F.B H0) (hB : F.B p = none) (h0 : H0 p = none) (nB : T.fl = true → NT F.B) : Rel K FL T F α H H1 σ g ∧ H1 p = some ho ∧ H p = none ∧ ∀ o, α o ≠ some p := by
  have ex : Ex F.B (upd F.B p ho) := Ex.new hB
  refine ⟨⟨R.toRelS, ⟨x.ex.trans R.ext.ex, fun b o hb => ?_⟩, ex.trans R.gro, nB, fun o a ha => ?_, R.old, R.len, R.slt⟩, R.gro p ho upd_same, R.ext.off h0 (show upd F.B p ho p = some ho from upd_same), fun o ha => ?_⟩
  · rcases R.ext.fresh b o hb with z | ⟨z1, z2⟩
    · exact x.fresh b o z
    · exact .inr ⟨fresh_back ex z1, z2⟩
  · exact fresh_back ex (R.offB o a ha)
  · have : upd F.B p ho p = none := R.offB o p ha
    rw [upd_same] at this
    cases this
/-- x, then y, where x is new -/
theorem new_then {F : Fr} {α : Al} {H H1 : Hp} {σ : L2.St} {g : Sg} {p : Addr} {ho : HO} (R : Rel K FL T F α H H1 σ g) (hp : H1 p = some ho) (hH : H p = none) (hB : F.B p = none) (hn : ∀ o, α o ≠ some p) (nt : ∀ qs, ho ≠ .tbl qs)
    (hm : SimE K FL T W te ma) {r : Except Str Rv} {g' : Sg} (h : ma g = some (r, g')) (Q : VK)
    (q : match r with
      | .ok v => ∀ α' H' H2 u, Rel K FL T F α' H' H2 σ g' → Stp α H α' H' → RR K α' H' u v → H2 p = some ho → H' p = none → (∀ o, α' o ≠ some p) → Q u H2
      | .error x => ∀ α' H' H2, Rel K FL T F α' H' H2 σ g' → Stp α H α' H' → W (.ref (gaE K x)) none σ H2) : te σ H1 Q := by
  refine hm _ α H H1 σ g r g' (R.prot hp hn nt) h Q ?_
  cases r with
  | ok v =>
    intro α' H' H2 u R' s ru
    obtain ⟨R2, a, b, c⟩ := R'.unprot R.ext hB hH R.ntB
    exact q α' H' H2 u R2 s ru a b c
  | error x =>
    intro α' H' H2 R' s
    obtain ⟨R2, _⟩ := R'.unprot R.ext hB hH R.ntB
    exact q α' H' H2 R2 s
/-- a, b = new, e -/
def sParNE (i j : Nat) (m : NM) (e : EM) : SM := sBind m fun c => sBind e fun v => fun g => (argV v).bind fun x => if i ≠ j then some (.nx, (g.set i c).set j x) else none
theorem ss_parNE {m : NM} (h1 : SimN K FL T W ta m) (h2 : SimE K FL T W tb mb) : SimS K FL T W (tPar i j (tCons ta (tCons tb tNil))) (sParNE i j m mb) := fun F α H H1 σ g fl g' R h D k => by
  rcases sBind_some h with ⟨c, g1, k1, k2⟩ | ⟨x, k1, rfl⟩
  · refine h1 F α H H1 σ g _ _ R k1 _ fun α1 Ha H2 p ho R1 s1 hp hH hB hn hc => ?_
    rcases sBind_some k2 with ⟨v, g2, k3, k4⟩ | ⟨x, k3, rfl⟩
    · obtain ⟨x, k5, k6⟩ := bind_some k4
      obtain ⟨hij, e⟩ := ite_some k6
      cases e
      refine new_then R1 hp hH hB hn hc.plain.tbl h2 k3 _ fun α2 Hb H3 u R2 s2 ru q1 q2 q3 => ⟨.ref p, u, rfl, ?_⟩
      have hc2 : COk K Hb ho c := by
        cases c with
        | dat d => exact hc.elim
        | obj i => exact hc.elim
        | ownL ds => obtain ⟨vs, e1, e2⟩ := hc; exact ⟨vs, e1, DtAll.ex s2.ex e2⟩
        | ownD ds => obtain ⟨vs, e1, e2⟩ := hc; exact ⟨vs, e1, e2.ex s2.ex⟩
      exact k _ Hb H3 _ ((R2.own i q1 q2 hB q3 hc2).set j (by
        cases v with
        | dat d => cases k5; exact ru
        | at_ o =>
          cases o with
          | ob n =>
            cases k5
            obtain ⟨a, e, h⟩ := ru
            exact ⟨a, e, (if_neg (by intro e; cases e)).trans h⟩
          | slot n => cases k5
          | fld n f => cases k5))
    · exact new_then R1 hp hH hB hn hc.plain.tbl h2 k3 _ fun α2 Hb H3 R2 s2 => k α2 Hb H3 σ R2
  · exact h1 F α H H1 σ g _ _ R k1 _ fun α' H' H2 R' s' => k α' H' H2 σ R'
/-- a, b = e, new -/
def sParEN (i j : Nat) (e : EM) (m : NM) : SM := sBind e fun v => sBind m fun c => fun g => (argV v).bind fun x => some (.nx, (g.set i x).set j c)
theorem ss_parEN {m : NM} (h1 : SimE K FL T W ta ma) (h2 : SimN K FL T W tb m) : SimS K FL T W (tPar i j (tCons ta (tCons tb tNil))) (sParEN i j ma m) := fun F α H H1 σ g fl g' R h D k => by
  rcases sBind_some h with ⟨v, g1, k1, k2⟩ | ⟨x, k1, rfl⟩
  · refine h1 F α H H1 σ g _ _ R k1 _ fun α1 Ha H2 u R1 s1 ru => ?_
    rcases sBind_some k2 with ⟨c, g2, k3, k4⟩ | ⟨x, k3, rfl⟩
    · obtain ⟨x, k5, k6⟩ := bind_some k4
      cases k6
      refine h2 F α1 Ha H2 σ g1 _ _ R1 k3 _ fun α2 Hb H3 p ho R2 s2 hp hH hB hn hc => ⟨u, .ref p, rfl, ?_⟩
      have hv : ∀ o, VR K α2 Hb H3 o u x := fun o => by
        cases v with
        | dat d => cases k5; exact Dt.ex s2.ex ru
        | at_ ow =>
          cases ow with
          | ob n => cases k5; obtain ⟨a, e, h⟩ := ru; exact ⟨a, e, s2.ob n a h⟩
          | slot n => cases k5
          | fld n f => cases k5
      exact k _ Hb H3 _ ((R2.set i (hv _)).own j hp hH hB hn hc)
    · exact h2 F α1 Ha H2 σ g1 _ _ R1 k3 _ fun α2 Hb H3 R2 s2 => k α2 Hb H3 σ R2
  · exact h1 F α H H1 σ g _ _ R k1 _ fun α' H' H2 R' s' => k α' H' H2 σ R'
/-- an unowned thing is changed -/
theorem Rel.upd0 {F : Fr} {α : Al} {H H1 : Hp} {σ : L2.St} {g : Sg} {p : Addr} {o o' : HO} (R : Rel K FL T F α H H1 σ g) (hp : H1 p = some o) (po : PlainO o) (hH : H p = none) (hB : F.B p = none) (hn : ∀ o, α o ≠ some p) : Rel K FL T F α H (upd H1 p o') σ g := by
  have oth : ∀ {ow b}, α ow = some b → ∀ u, H1 b = some u → upd H1 p o' b = some u := fun {ow b} hb u hu => upd_keep (fun e => hn ow (e ▸ hb)) hu
  refine ⟨⟨ex_off R.ex hH, R.nt, EV.tabs_keep R.tb fun b u hb hp' => upd_keep (fun e => by subst e; rw [hp] at hb; cases hb; exact hp' po) hb, R.inj, R.off, fun ow b hb => ?_, fun i ob hs => ?_, R.dom⟩, R.ext, ex_off R.gro hB, R.ntB, R.offB, R.old, R.len, fun j v hj => ?_⟩
  · obtain ⟨u, hu, pu⟩ := R.pl ow b hb
    exact ⟨u, oth hb u hu, pu⟩
  · obtain ⟨b, h1, h2⟩ := R.sto i ob hs
    exact ⟨b, h1, h2.ex (Ex.refl _) (fun _ _ z => z) (fun f c z => ⟨z, oth z⟩) (oth h1)⟩
  · obtain ⟨u, h1, h2⟩ := R.slt j v hj
    exact ⟨u, h1, h2.ex (Ex.refl _) (fun _ _ z => z) fun b z => ⟨z, oth z⟩⟩
/-! ### comprehensions whose parts do something; nothing is raised out of them -/
def keepV : Option Val → Option Val
  | some (.dat d) => some (.dat d)
  | some (.obj i) => some (.obj i)
  | _ => none
def Sg.inner (g : Sg) (vs : List Nat) : Sg := ⟨(g.wipe vs).sl.map keepV, g.st⟩
theorem keepV_some {o : Option Val} {v : Val} (h : keepV o = some v) : o = some v ∧ ∀ (K : PySem.W.Frag) (α : Al) (H H1 : Hp) (o1 o2 : Owner) (u : V), VR K α H H1 o1 u v → VR K (stoA α) H H1 o2 u v := by
  cases o with
  | none => cases h
  | some x =>
    cases x with
    | dat d => cases h; exact ⟨rfl, fun _ _ _ _ _ _ _ h => h⟩
    | obj i => cases h; exact ⟨rfl, fun _ _ _ _ _ _ _ h => h⟩
    | ownL ds => cases h
    | ownD ds => cases h
theorem wipe_st (g : Sg) : ∀ vs : List Nat, (g.wipe vs).st = g.st
  | [] => rfl
  | _ :: vs => wipe_st g vs
theorem Rel.inner {F : Fr} {α : Al} {H H1 : Hp} {σ : L2.St} {g : Sg} (R : Rel K FL T F α H H1 σ g) (vs : List Nat) : Rel K FL T ⟨H, baseOf (stoA α) H1, fun i => stoA α (.ob i)⟩ (stoA α) H H1 (L2.wipe σ vs) (g.inner vs) := by
  have Rw := R.wipe vs
  refine ⟨R.toRelS.sto_only, Ext.refl _ _, fun b u h => (base_some h).2.2, fun _ b ps h => (base_some h).2.1 ps rfl, fun o a h => ?_, fun i a h => h, ?_, fun j v h => ?_⟩
  · cases q : baseOf (stoA α) H1 a with
    | none => exact q
    | some u => exact absurd h ((base_some q).1 o)
  · have := Rw.len
    simpa [Sg.inner] using this
  · have h : ((g.wipe vs).sl.map keepV)[j]? = some (some v) := h
    rw [List.getElem?_map] at h
    obtain ⟨o, h1, h2⟩ := Option.map_eq_some_iff.mp h
    obtain ⟨e, k⟩ := keepV_some h2
    subst e
    obtain ⟨u, q1, q2⟩ := Rw.slt j v h1
    exact ⟨u, q1, k _ _ _ _ _ _ _ q2⟩
def lcOneE (gm : GM) (t : BM) (el : EM) (vs : List Nat) (g : Sg) (d : PyData) : Option (Option PyData × Sg) := (gm d (g.inner vs)).bind fun g1 => (t g1).bind fun p => match p.1 with
  | .error _ => none
  | .ok b => if b = true then (el p.2).bind fun q => match q.1 with
    | .ok (.dat z) => some (some z, ⟨g.sl, q.2.st⟩)
    | _ => none else some (none, ⟨g.sl, p.2.st⟩)
def lcAllE (gm : GM) (t : BM) (el : EM) (vs : List Nat) : List PyData → List PyData → Sg → Option (List PyData × Sg)
  | [], acc, g => some (acc, g)
  | d :: ds, acc, g => (lcOneE gm t el vs g d).bind fun p => lcAllE gm t el vs ds (match p.1 with | some z => acc ++ [z] | none => acc) p.2
theorem stoA_idem {α : Al} : stoA (stoA α) = stoA α := by
  funext o
  cases o <;> rfl
theorem lce_new {wi : TI} {tg : TG} {gm : GM} {it : IM} {vs : List Nat} (hT : T.fl = true) (hi : SimI K FL T wi it) (hg : SimG K FL T tg gm vs) (ht : SimB K FL T W0 tt ba) (he : SimE K FL T W0 te ma)
    {F : Fr} {α : Al} {H H1 : Hp} {σ : L2.St} {g g' : Sg} {out ds : List PyData} (R : Rel K FL T F α H H1 σ g) (h1 : it g = some ds) (hl : ds.length ≤ 50000) (h3 : lcAllE gm ba ma vs ds [] g = some (out, g')) (Q : VK)
    (q : ∀ p α' H' H2 xs, Rel K FL T F α' H' H2 σ g' → Stp α H α' H' → F.B p = none → H' p = none → H2 p = some (.lst xs) → (∀ o, α' o ≠ some p) → DtAll K H' xs out → Q (.ref p) H2) : tLc wi tg tt te vs σ H1 Q := by
  refine hi F α H H1 σ g ds R h1 _ fun J G H2 Hb e2 eb xb hG w Dl hD => ?_
  have R0 := R.grow e2 eb xb
  obtain ⟨f1, f2, f3⟩ := R0.fresh hD
  refine lc_it (w.mono (G' := fun H3 => Ex Hb H3) (fun H3 e3 => hG H3 e3) fun _ _ _ _ _ _ y => y)
    (fun i Hr => ∃ α' H' acc dn gi, Rel K FL T F α' H' Hr σ gi ∧ Stp α Hb α' H' ∧ H' Dl = none ∧ Hr Dl = some (.lst acc) ∧ (∀ o, α' o ≠ some Dl) ∧ DtAll K H' acc dn ∧ acc.length ≤ i ∧ lcAllE gm ba ma vs (ds.drop i) dn gi = some (out, g')) ?_ ?_ ?_ ?_
  · exact ⟨α, Hb, [], [], g, R0.same (Ex.new hD), Stp.refl _ _, f1, upd_same, f3, .nil, Nat.le_refl _, h3⟩
  · rintro i Hr hi ⟨α', H', acc, dn, gi, a1, a2, _⟩
    exact a2.ex.trans a1.ex
  · rintro i x Hr H3 hi ⟨α', H', acc, dn, gi, a1, a2, a3, a4, a5, a6, a7, a8⟩ ⟨y1, d, y2, y3⟩
    obtain ⟨Hc, c1, c2, c3⟩ := y3 H' a2.ex a1.ex
    have Rc := a1.grow y1 c2 c1
    have hd : ds.drop i = d :: ds.drop (i + 1) := by
      rw [List.drop_eq_getElem_cons hi]
      obtain ⟨_, e⟩ := List.getElem?_eq_some_iff.mp y2
      rw [e]
    rw [hd] at a8
    obtain ⟨⟨o, gn⟩, k1, k2⟩ := bind_some a8
    obtain ⟨g1, k3, k4⟩ := bind_some k1
    obtain ⟨⟨rb, g2⟩, k5, k6⟩ := bind_some k4
    have nD : Hc Dl = none := c1.off a3 a4
    obtain ⟨σ2, R2, w2, q2⟩ := hg _ _ Hc H3 (L2.wipe σ vs) (gi.inner vs) g1 x d (Rc.inner vs) c3 k3
    refine q2 _ ⟨?_, ?_⟩
    · rw [w2 vs fun _ h => h]
      have idem : ∀ (ws : List Nat) (τ : L2.St), (∀ v ∈ ws, v ∈ vs) → L2.wipe (L2.wipe τ ws) vs = L2.wipe τ vs := by
        intro ws
        induction ws with
        | nil => intro τ _; rfl
        | cons v r ih => intro τ hv; show L2.wipe ((L2.wipe τ r).set v none) vs = _; rw [wipe_set (hv v List.mem_cons_self), ih τ fun x hx => hv x (List.mem_cons_of_mem _ hx)]
      exact idem vs σ fun _ h => h
    · cases rb with
      | error e => cases k6
      | ok b =>
        refine ht _ _ Hc H3 σ2 g1 _ g2 R2 k5 _ fun α3 Hd H4 R3 s3 => ?_
        have ne : ∀ ow, stoA α' ow ≠ some Dl := fun ow h => a5 ow (stoA_sub h)
        have back : ∀ {α5 : Al} {Hf H5 : Hp} {g5 : Sg}, Rel K FL T ⟨Hc, baseOf (stoA α') H3, fun i => stoA α' (.ob i)⟩ α5 Hf H5 σ2 g5 → ∃ α6, Rel K FL T F α6 Hf H5 σ ⟨gi.sl, g5.st⟩ ∧ Stp α Hb α6 Hf ∧ Hf Dl = none ∧ H5 Dl = some (.lst acc) ∧ (∀ ow, α6 ow ≠ some Dl) ∧ DtAll K Hf acc dn := fun {α5 Hf H5 g5} R5 => by
          have fm := R5.frm
          obtain ⟨z1, z2⟩ := Rc.call hT R5.toRelS.sto_only fm
          have h3D : H3 Dl = some (.lst acc) := y1 Dl _ a4
          refine ⟨merge α' (stoA α5), z1, (a2.trans (Stp.of c1.ex)).trans z2, fm.of Dl _ nD h3D ne (fun ps z => by cases z), fm.fr Dl _ h3D ne (fun ps z => by cases z), fun ow h => ?_, DtAll.ex (c1.ex.trans z2.ex) a6⟩
          cases ow with
          | slot j => exact a5 _ h
          | ob n =>
            rcases fm.nw (.ob n) Dl h with ⟨o', z⟩ | z | ⟨qs, z⟩
            · exact ne o' z
            · rw [h3D] at z; cases z
            · rw [h3D] at z; cases z
          | fld n f =>
            rcases fm.nw (.fld n f) Dl h with ⟨o', z⟩ | z | ⟨qs, z⟩
            · exact ne o' z
            · rw [h3D] at z; cases z
            · rw [h3D] at z; cases z
        cases b with
        | false =>
          cases k6
          obtain ⟨α6, z1, z2, z3, z4, z5, z6⟩ := back R3
          exact ⟨α6, Hd, acc, dn, _, z1, z2, z3, z4, z5, z6, Nat.le_succ_of_le a7, k2⟩
        | true =>
          obtain ⟨⟨rv, g5⟩, k7, k8⟩ := bind_some (show (ma g2).bind _ = some (o, gn) from k6)
          cases rv with
          | error e => cases k8
          | ok v =>
            cases v with
            | at_ ow => cases k8
            | dat z =>
              cases k8
              refine he _ _ Hd H4 σ2 g2 _ g5 R3 k7 _ fun α5 Hf H5 u R5 s5 ru => ?_
              obtain ⟨α6, z1, z2, z3, z4, z5, z6⟩ := back R5
              refine ⟨acc, z4, sz_lt (by omega), α6, Hf, acc ++ [u], dn ++ [z], _, z1.upd0 z4 trivial z3 f2 z5, z2, z3, upd_same, z5, z6.append (.cons ru .nil), ?_, k2⟩
              rw [List.length_append]
              exact Nat.succ_le_succ a7
  · rintro Hr ⟨α', H', acc, dn, gi, a1, a2, a3, a4, a5, a6, a7, a8⟩
    rw [List.drop_length] at a8
    cases a8
    exact q Dl α' H' Hr acc a1 ((Stp.of xb.ex).trans a2) f2 a3 a4 a5 a6
/-- a new list as data -/
theorem Rel.lay {F : Fr} {α : Al} {H H1 : Hp} {σ : L2.St} {g : Sg} {p : Addr} {xs : List V} (R : Rel K FL T F α H H1 σ g) (hB : F.B p = none) (hH : H p = none) (hp : H1 p = some (.lst xs)) (hn : ∀ o, α o ≠ some p) : Rel K FL T F α (upd H p (.lst xs)) H1 σ g ∧ Ex H (upd H p (.lst xs)) := by
  have hx : Ex H (upd H p (.lst xs)) := Ex.new hH
  refine ⟨⟨⟨fun b o hb => ?_, fun hT b qs hb => ?_, R.tb, R.inj, fun o b h => ?_, R.pl, fun i ob hi => ?_, R.dom⟩, ⟨R.ext.ex.trans hx, fun b o hb => ?_⟩, R.gro, R.ntB, R.offB, R.old, R.len, fun k w hk => ?_⟩, hx⟩
  · by_cases c : b = p
    · subst c; rw [upd_same] at hb; cases hb; exact hp
    · rw [upd_ne c] at hb; exact R.ex b o hb
  · by_cases c : b = p
    · subst c; rw [upd_same] at hb; cases hb
    · rw [upd_ne c] at hb; exact R.nt hT b qs hb
  · have c : b ≠ p := fun e => hn o (by rw [← e]; exact h)
    rw [upd_ne c]
    exact R.off _ b h
  · obtain ⟨b, m1, m2⟩ := R.sto i ob hi
    exact ⟨b, m1, m2.ex hx (fun _ _ z => z) (fun f c z => ⟨z, fun _ z => z⟩) fun _ z => z⟩
  · by_cases c : b = p
    · subst c; rw [upd_same] at hb; cases hb; exact .inr ⟨hB, fun ps z => by cases z⟩
    · rw [upd_ne c] at hb; exact R.ext.fresh b o hb
  · obtain ⟨u, m1, m2⟩ := R.slt k w hk
    exact ⟨u, m1, m2.ex hx (fun _ _ z => z) fun b z => ⟨z, fun _ z => z⟩⟩
def mLc (it : IM) (gm : GM) (t : BM) (el : EM) (vs : List Nat) : EM := fun g => (it g).bind fun ds => if ds.length ≤ 50000 then (lcAllE gm t el vs ds [] g).map fun p => (.ok (.dat (.list p.1)), p.2) else none
theorem se_lc {wi : TI} {tg : TG} {gm : GM} {it : IM} {vs ws : List Nat} (hT : T.fl = true) (hi : SimI K FL T wi it) (hg : SimG K FL T tg gm vs) (ht : SimB K FL T W0 tt ba) (he : SimE K FL T W0 te ma) (hv : ws = vs := by rfl) : SimE K FL T W (tLc wi tg tt te ws) (mLc it gm ba ma vs) := fun F α H H1 σ g r g' R h Q q => by
  subst hv
  obtain ⟨ds, h1, h2⟩ := bind_some h
  have h2 : (if ds.length ≤ 50000 then (lcAllE gm ba ma ws ds [] g).map (fun p => (Except.ok (Rv.dat (.list p.1)), p.2)) else none) = some (r, g') := h2
  split at h2
  · rename_i hl
    obtain ⟨⟨out, g2⟩, h3, h4⟩ := Option.map_eq_some_iff.mp h2
    cases h4
    refine lce_new hT hi hg ht he R h1 hl h3 Q fun p α' H' H2 xs R' s hB hH hp hn dt => ?_
    obtain ⟨R2, hx⟩ := R'.lay hB hH hp hn
    exact q α' _ H2 _ R2 (s.trans (Stp.of hx)) (.lst upd_same (DtAll.ex hx dt))
  · cases h2
/-- calls of pure defs with arguments that do something -/
theorem se_callP {n : Nat} {R' : List PyData → PyData → Prop} {E : XK} {f : List PyData → Option PyData} (hf : ∀ ds z, f ds = some z → R' ds z ∧ ds.length = n) (ha : SimA K FL T W tA ms) : SimE K FL T W (tCall (spR K n R') [] E tA) (mCB f ms) := fun F α H H1 σ g r g' R hm Q q => by
  rcases eBind_some hm with ⟨v, g1, h1, h2⟩ | ⟨x, h1, rfl⟩
  · refine ha F α H H1 σ g _ g1 R h1 _ fun α1 Ha H2 vs R1 s1 rx => ?_
    obtain ⟨ds, k1, h5⟩ := bind_some h2
    obtain ⟨z, k3, h7⟩ := bind_some h5
    cases h7
    show spR K n R' (vs ++ []) H2 Q E
    rw [List.append_nil]
    exact ⟨Ha, ds, z, R1.ex, okVs_all rx k1, (hf ds z k3).2, (hf ds z k3).1, fun v H4 Hc e4 ec xc dc => q α1 Hc H4 v (R1.grow e4 ec xc) (s1.trans (Stp.of xc.ex)) dc⟩
  · exact ha F α H H1 σ g _ _ R h1 _ q
def mM1 (f : Str → PyData → Option PyData) (a b : EM) : EM := eBind a fun v => fun g => (okV v).bind fun d => (asS d).bind fun x => eBind b (fun u => fun g1 => (okV u).bind fun e => (f x e).bind fun z => some (.ok (.dat z), g1)) g
theorem se_m1 {r : V → List V → Hp → VK → Prop} {f : Str → PyData → Option PyData} (hf : MtD K r f) (ha : SimE K FL T W ta ma) (hb : SimE K FL T W tb mb) : SimE K FL T W (tM1 r ta tb) (mM1 f ma mb) := fun F α H H1 σ g r' g' R hm Q q => by
  rcases eBind_some hm with ⟨v, g1, h1, h2⟩ | ⟨x, h1, rfl⟩
  · refine ha F α H H1 σ g _ g1 R h1 _ fun α1 Ha H2 u R1 s1 ru => ?_
    obtain ⟨d, k1, h2⟩ := bind_some h2
    obtain ⟨x, k2, h2⟩ := bind_some h2
    have e := ru.dat (okV_some k1)
    rw [asS_some k2] at e
    rw [e.str_eq]
    refine ⟨⟨x, rfl⟩, ?_⟩
    rcases eBind_some h2 with ⟨w, g2, h3, h4⟩ | ⟨y, h3, rfl⟩
    · refine hb F α1 Ha H2 σ g1 _ g2 R1 h3 _ fun α2 Hb H3 y R2 s2 ry => ?_
      obtain ⟨e, k3, h5⟩ := bind_some h4
      obtain ⟨z, k4, h6⟩ := bind_some h5
      cases h6
      exact hf x e z k4 Hb y (ry.dat (okV_some k3)) H3 R2.ex Q fun v H4 Hc e4 ec xc dc => q α2 Hc H4 v (R2.grow e4 ec xc) ((s1.trans s2).trans (Stp.of xc.ex)) dc
    · exact hb F α1 Ha H2 σ g1 _ _ R1 h3 _ (q.err s1)
  · exact ha F α H H1 σ g _ _ R h1 _ q
end
end EV

/-! ### EV: objects made; lambdas; more reads and walks (own work) -/
namespace EV
open PySem PySem.Spec PyProof.Rows L2 Evl L2H LamX LR
section
variable {K : PySem.W.Frag} {FL : Fl} {T : TbS} {W : WX} {ta tb tc te td ty tx : TE} {tt tu : TT} {pa pb pc : PM} {qa qb : PB} {tA tr tK : TA} {ps pr : PMs} {ma mb : EM} {ms mr mk : AM} {ba bb : BM} {t1 t2 : TS} {s1 s2 : SM} {i j : Nat} {w : WM}
/-- a new instance, without fields -/
theorem Rel.made {F : Fr} {α : Al} {H H1 : Hp} {σ : L2.St} {g : Sg} {C : Str} {x dx : Addr} (R : Rel K FL T F α H H1 σ g) (hc : ClsOk K FL C) (hx : H1 x = none) (hdx : H1 dx = none) (hne : dx ≠ x) :
    Rel K FL T F (fun o => if o = .ob g.st.length then some x else α o) H (upd (upd H1 dx (.own x)) x (.ins (gaE K C) dx [])) σ ⟨g.sl, g.st ++ [.ins C []]⟩ ∧ Stp α H (fun o => if o = .ob g.st.length then some x else α o) H := by
  have hx' : upd H1 dx (.own x) x = none := by rw [upd_ne (Ne.symm hne)]; exact hx
  have e3 : Ex H1 (upd (upd H1 dx (.own x)) x (.ins (gaE K C) dx [])) := (Ex.new hdx).trans (Ex.new hx')
  obtain ⟨f1, f2, f3⟩ := R.fresh hx
  have Rg := R.same e3
  have e : ∀ {o}, o ≠ .ob g.st.length → (if o = .ob g.st.length then some x else α o) = α o := fun h => if_neg h
  have eo : ∀ {k b}, α (.ob k) = some b → (if Owner.ob k = .ob g.st.length then some x else α (.ob k)) = some b := fun {k b} h => by
    have c : k ≠ g.st.length := fun z => by
      rw [z, R.dom _ (Nat.le_refl _)] at h
      cases h
    exact (if_neg (by intro e; cases e; exact c rfl)).trans h
  refine ⟨⟨⟨Rg.ex, R.nt, Rg.tb, fun o o' a h h' => ?_, fun o a h => ?_, fun o a h => ?_, fun k ob hk => ?_, fun k hk => ?_⟩, R.ext, Rg.gro, R.ntB, fun o a h => ?_, fun k a h => eo (R.old k a h), R.len, fun k v hk => ?_⟩, Ex.refl _, fun k a h => eo h, fun k => if_neg (by intro e; cases e)⟩
  · by_cases c : o = .ob g.st.length
    · by_cases c' : o' = .ob g.st.length
      · rw [c, c']
      · subst c
        rw [if_pos rfl] at h
        rw [e c'] at h'
        cases h
        exact absurd h' (f3 o')
    · by_cases c' : o' = .ob g.st.length
      · subst c'
        rw [if_pos rfl] at h'
        rw [e c] at h
        cases h'
        exact absurd h (f3 o)
      · rw [e c] at h
        rw [e c'] at h'
        exact R.inj _ _ a h h'
  · by_cases c : o = .ob g.st.length
    · subst c; rw [if_pos rfl] at h; cases h; exact f1
    · rw [e c] at h; exact R.off _ a h
  · by_cases c : o = .ob g.st.length
    · subst c; rw [if_pos rfl] at h; cases h; exact ⟨_, upd_same, trivial⟩
    · rw [e c] at h; exact Rg.pl _ a h
  · by_cases c : k < g.st.length
    · rw [List.getElem?_append_left c] at hk
      obtain ⟨b, h1, h2⟩ := Rg.sto k ob hk
      exact ⟨b, eo h1, h2.ex (Ex.refl _) (fun _ _ z => eo z) (fun f b z => ⟨(if_neg (by intro e; cases e)).trans z, fun _ z => z⟩) fun _ z => z⟩
    · rw [List.getElem?_append_right (Nat.le_of_not_lt c)] at hk
      have hk0 : k - g.st.length = 0 := by
        cases hq : k - g.st.length with
        | zero => rfl
        | succ n => rw [hq] at hk; simp at hk
      rw [hk0] at hk
      simp at hk
      subst hk
      have ek : k = g.st.length := by omega
      subst ek
      exact ⟨x, if_pos rfl, hc, dx, [], upd_same, rfl, fun f v h => by cases h⟩
  · have hk : g.st.length + 1 ≤ k := by simpa using hk
    exact (if_neg (by intro e; cases e; omega)).trans (R.dom k (by omega))
  · by_cases c : o = .ob g.st.length
    · subst c; rw [if_pos rfl] at h; cases h; exact f2
    · rw [e c] at h; exact R.offB _ a h
  · obtain ⟨u, h1, h2⟩ := Rg.slt k v hk
    exact ⟨u, h1, h2.ex (Ex.refl _) (fun _ _ z => eo z) fun b z => ⟨(if_neg (by intro e; cases e)).trans z, fun _ z => z⟩⟩
/-- C(..): the new object, then __init__ -/
def makeF (C : Str) (f : Fun) (n : Nat) (vs : List Rv) : EM := fun g => (argVs vs).bind fun _ => if vs.length + 1 = n then (f (.at_ (.ob g.st.length) :: vs) (g.st ++ [.ins C []])).bind fun p => match p.1 with
  | .ok (.dat .none) => some (.ok (.at_ (.ob g.st.length)), ⟨g.sl, p.2⟩)
  | .error x => some (.error x, ⟨g.sl, p.2⟩)
  | _ => none else none
theorem args_step {α α' : Al} {H H' : Hp} (s : Stp α H α' H') : ∀ {us : List V} {vs : List Rv} {xs : List Val}, Paired (RR K α H) us vs → argVs vs = some xs → Paired (RR K α' H') us vs
  | _, _, _, .nil, _ => .nil
  | _, _, _, .cons (b := v) a b, h => by
    obtain ⟨x, h1, h2⟩ := bind_some h
    obtain ⟨xs, h3, h4⟩ := bind_some h2
    refine .cons (a.step s fun i f e => ?_) (args_step s b h3)
    subst e
    cases h1
theorem make_core {C : Str} {n : Nat} {f : Fun} (hT : T.fl = true) (hc : ClsOk K FL C) {E : XK} (hW : ∀ c d σ H, W c d σ H → E c d H) {F : Fr} {α : Al} {H H1 : Hp} {σ : L2.St} {g g' : Sg} {r : Except Str Rv} {us : List V} {vs : List Rv} (R : Rel K FL T F α H H1 σ g) (ra : Paired (RR K α H) us vs) (h : makeF C f n vs g = some (r, g')) {Q : VK} (q : KE K FL T W F α H σ g' Q r) :
    ∀ x dx, H1 x = none → H1 dx = none → dx ≠ x → spF K FL T n f (.ref x :: us) (upd (upd H1 dx (.own x)) x (.ins (gaE K C) dx [])) (fun v H2 => v = .non ∧ Q (.ref x) H2) E := fun x dx hx hdx hne => by
  obtain ⟨R2, s2⟩ := R.made hc hx hdx hne
  obtain ⟨xs, h1, h2⟩ := bind_some h
  have h2 : (if vs.length + 1 = n then (f (.at_ (.ob g.st.length) :: vs) (g.st ++ [.ins C []])).bind _ else none) = some (r, g') := h2
  split at h2
  · rename_i hn
    obtain ⟨⟨r', st'⟩, h3, h4⟩ := bind_some h2
    have hob : stoA (fun o => if o = .ob g.st.length then some x else α o) (.ob g.st.length) = some x := if_pos rfl
    refine ⟨H, stoA (fun o => if o = .ob g.st.length then some x else α o), g.st ++ [.ins C []], .at_ (.ob g.st.length) :: vs, r', st', R2.toRelS.sto_only, fun _ => rfl, .cons ⟨x, rfl, hob⟩ (args_sto (args_step s2 ra h1) h1), hn, h3, ?_⟩
    cases r' with
    | ok v =>
      intro u H2 H' α' R' f' ru
      obtain ⟨a, b⟩ := R2.call hT R' f'
      cases v with
      | at_ o => cases h4
      | dat d =>
        cases d <;> cases h4
        refine ⟨Dt.non_eq ru, q _ H' H2 _ a (s2.trans b) ⟨x, rfl, ?_⟩⟩
        exact b.ob _ x (if_pos rfl)
    | error y =>
      cases h4
      intro H2 H' α' R' f'
      obtain ⟨a, b⟩ := R2.call hT R' f'
      exact hW _ _ σ _ (q _ H' H2 a (s2.trans b))
  · cases h2
/-- C(e, ..), the rest defaults -/
def mMake (C : Str) (f : Fun) (n : Nat) (dv : List PyData) (a : AM) : EM := eBind a fun vs => makeF C f n (vs ++ dv.map .dat)
theorem se_make {C : Str} {n : Nat} {f : Fun} {dvs : List V} {dv : List PyData} {E : XK} (hT : T.fl = true) (hc : ClsOk K FL C) (hW : ∀ c d σ H, W c d σ H → E c d H) (hd : ∀ H, DtAll K H dvs dv) (ha : SimA K FL T W tA ms) : SimE K FL T W (tMake (gaE K C) (spF K FL T n f) dvs E tA) (mMake C f n dv ms) := fun F α H H1 σ g r g' R hm Q q => by
  rcases eBind_some hm with ⟨vs, g1, h1, h2⟩ | ⟨x, h1, rfl⟩
  · refine ha F α H H1 σ g _ g1 R h1 _ fun α1 Ha H2 us R1 s1 ru => ?_
    have rd : ∀ {us vs}, Paired (RR K α1 Ha) us vs → Paired (RR K α1 Ha) (us ++ dvs) (vs ++ dv.map .dat) := fun {us vs} h => by
      induction h with
      | nil =>
        have : ∀ {dvs : List V} {dv : List PyData}, DtAll K Ha dvs dv → Paired (RR K α1 Ha) dvs (dv.map .dat) := by
          intro dvs dv h
          induction dvs generalizing dv with
          | nil => cases h; exact .nil
          | cons u us ih => cases h with | cons a b => exact .cons a (ih b)
        exact this (hd Ha)
      | cons a b ih => exact .cons a ih
    exact make_core hT hc hW R1 (rd ru) h2 (q.step s1)
  · exact ha F α H H1 σ g _ _ R h1 _ q
/-- C(e, .., k = e, ..) -/
def mMakeK (C : Str) (f : Fun) (n nv nk : Nat) (a k : AM) : EM := eBind a fun vs => eBind k fun zs => fun g => if vs.length = nv ∧ zs.length = nk ∧ vs.all noFld = true then makeF C f n (vs ++ zs) g else none
theorem paired_app {α : Al} {H : Hp} : ∀ {us : List V} {vs : List Rv} {ws : List V} {zs : List Rv}, Paired (RR K α H) us vs → Paired (RR K α H) ws zs → Paired (RR K α H) (us ++ ws) (vs ++ zs)
  | _, _, _, _, .nil, b => b
  | _, _, _, _, .cons a r, b => .cons a (paired_app r b)
theorem paired_step {α α' : Al} {H H' : Hp} (s : Stp α H α' H') : ∀ {us : List V} {vs : List Rv}, Paired (RR K α H) us vs → vs.all noFld = true → Paired (RR K α' H') us vs
  | _, _, .nil, _ => .nil
  | _, _, .cons a b, h => by
    rw [List.all_cons, Bool.and_eq_true] at h
    exact .cons (a.step s (noFld_ne h.1)) (paired_step s b h.2)
theorem se_makeK {C : Str} {n nv nk : Nat} {f : Fun} {E : XK} (hT : T.fl = true) (hc : ClsOk K FL C) (hW : ∀ c d σ H, W c d σ H → E c d H) (ha : SimA K FL T W tA ms) (hk : SimA K FL T W tK mk) : SimE K FL T W (tMakeK (gaE K C) nv nk (spF K FL T n f) (fun vs zs => vs ++ zs) E tA tK) (mMakeK C f n nv nk ms mk) := fun F α H H1 σ g r g' R hm Q q => by
  rcases eBind_some hm with ⟨vs, g1, h1, h2⟩ | ⟨x, h1, rfl⟩
  · refine ha F α H H1 σ g _ g1 R h1 _ fun α1 Ha H2 us R1 s1 ru => ?_
    rcases eBind_some h2 with ⟨zs, g2, h3, h4⟩ | ⟨x, h3, rfl⟩
    · refine hk F α1 Ha H2 σ g1 _ g2 R1 h3 _ fun α2 Hb H3 ws R2 s2 rw => ?_
      have h4 : (if vs.length = nv ∧ zs.length = nk ∧ vs.all noFld = true then makeF C f n (vs ++ zs) g2 else none) = some (r, g') := h4
      split at h4
      · rename_i hc'
        refine ⟨(paired_len ru).trans hc'.1, (paired_len rw).trans hc'.2.1, ?_⟩
        exact make_core (us := us ++ ws) hT hc hW R2 (paired_app (paired_step s2 ru hc'.2.2) rw) h4 (q.step (s1.trans s2))
      · cases h4
    · exact hk F α1 Ha H2 σ g1 _ _ R1 h3 _ fun α' H' H2 R s' => q α' H' H2 R (s1.trans s')
  · exact ha F α H H1 σ g _ _ R h1 _ q
/-! ### lambdas handed to a def that calls them and tells what is refused -/
theorem Rel.tabs {F : Fr} {α : Al} {H H1 H2 : Hp} {σ : L2.St} {g : Sg} (R : Rel K FL T F α H H1 σ g) (hT : T.fl = true) (e : ExtN H1 H2) (tb : Tabs T.l H2) : Rel K FL T F α H H2 σ g := by
  have pl : ∀ {o b}, α o = some b → ∀ u, H1 b = some u → H2 b = some u := fun {o b} h u hu => by
    obtain ⟨u', hu', pu⟩ := R.pl o b h
    rw [hu] at hu'
    cases hu'
    exact e b u hu pu.tbl
  refine ⟨⟨ex_nt (R.nt hT) R.ex e, R.nt, tb, R.inj, R.off, fun o a h => ?_, fun i o h => ?_, R.dom⟩, R.ext, ex_nt (R.ntB hT) R.gro e, R.ntB, R.offB, R.old, R.len, fun j v h => ?_⟩
  · obtain ⟨u, hu, p⟩ := R.pl o a h
    exact ⟨u, pl h u hu, p⟩
  · obtain ⟨a, h1, h2⟩ := R.sto i o h
    exact ⟨a, h1, h2.ex (Ex.refl _) (fun _ _ z => z) (fun f b z => ⟨z, pl z⟩) (pl h1)⟩
  · obtain ⟨u, h1, h2⟩ := R.slt j v h
    exact ⟨u, h1, h2.ex (Ex.refl _) (fun _ _ z => z) fun b z => ⟨z, pl z⟩⟩
def toldV (x : Str) : PyData := .tuple [.str (Str.ofString "refused"), .str x]
def mTold (ex : List Str) (m : EM) : EM := fun g => (m g).bind fun p => match p.1 with
  | .ok v => some (.ok v, p.2)
  | .error x => if x ∈ ex then some (.ok (.dat (toldV x)), p.2) else none
/-- what the def makes of the lambda -/
def TTx (K : PySem.W.Frag) (ex : List Str) : (XK → Hp → VK → Prop) → Hp → VK → Prop := fun tl H Q =>
  tl (fun cls d H' => ∃ x ∈ ex, cls = .ref (gaE K x) ∧ d = none ∧ ∀ H2 p, Ex H' H2 → H2 p = none → Q (.ref p) (upd H2 p (.tup [.str "refused", .str x]))) H Q
theorem se_told {ex : List Str} {t : XK → TE} (hT : T.fl = true) (hm : ∀ E : XK, SimE K FL T (fun c d _ H => E c d H) (t E) ma) : SimE K FL T W (tLam T.l (TTx K ex) t) (mTold ex ma) := fun F α H H1 σ g r g' R h Q q => by
  refine ⟨R.tb, fun H1' eN tb2 => ?_⟩
  have R1 := R.tabs hT eN tb2
  obtain ⟨⟨r1, g1⟩, h1, h2⟩ := bind_some h
  refine hm _ F α H H1' σ g r1 g1 R1 h1 Q ?_
  cases r1 with
  | ok v => cases h2; exact q
  | error x =>
    obtain ⟨hx, h3⟩ := ite_some (show (if x ∈ ex then some (Except.ok (Rv.dat (toldV x)), g1) else none) = some (r, g') from h2)
    cases h3
    intro α' H' H2 R' s'
    refine ⟨x, hx, rfl, rfl, fun H3 p e3 hp => ?_⟩
    have h2p : H2 p = none := fresh_back e3 hp
    refine q α' (upd H' p (.tup [.str "refused", .str x])) _ _ (R'.grow (e3.trans (Ex.new hp)) (ex_upd (R'.ex.trans e3)) (Ext.new R'.ex h2p)) (s'.trans (Stp.of (Ex.new (fresh_back R'.ex h2p)))) ?_
    exact .tup (st_of upd_same) (.cons (.str _) (.cons (.str _) .nil))
/-! ### more reads -/
def cr_lenD_r : List V → Hp → VK → Prop := fun xs H Q => ∃ (a : Addr) (kvs : List (Key × V)), xs = [.ref a] ∧ Rd H a (.dK kvs) ∧ Q (.int kvs.length) H
theorem cr_lenD {X : Cx} : CallR X (.builtin "len") cr_lenD_r := by
  rintro pins s σ H xs us Q I r ⟨a, kvs, rfl, ha, q⟩
  obtain ⟨u, rfl, ru⟩ := r.one
  cases ru
  exact d_len I ha fun t s' I' => ⟨.int kvs.length, H, I', ⟨t, rfl⟩, q⟩
def pLenD (w : WM) : PM := fun g => (w g).bind fun o => (dicAt g o).bind fun ds => some (.int ds.length)
theorem sp_lenD (h : SimW K FL T te w) : SimP K FL T (tCB cr_lenD_r (tCons te tNil)) (pLenD w) := fun F α H H1 σ g d R hw Q q => by
  obtain ⟨o, h1, h2⟩ := bind_some hw
  obtain ⟨ds, h3, h4⟩ := bind_some h2
  cases h4
  obtain ⟨a, k1, k2⟩ := h F α H H1 σ g o R h1
  obtain ⟨ws, k3, k4⟩ := R.dicI h3 k1
  refine k2 _ ⟨a, ws, rfl, .inl k3, ?_⟩
  rw [k4.len]
  exact KD.now q R.ex (.int _)
def pKeys (w : WM) : PM := fun g => (w g).bind fun o => (dicAt g o).bind fun ds => some (.list (ds.map fun kv => keyV kv.1))
def rListD : List V → Hp → VK → Prop := fun xs H Q => ∃ (a : Addr) (kvs : List (Key × V)), xs = [.ref a] ∧ Rd H a (.dK kvs) ∧ ∀ p, H p = none → Q (.ref p) (upd H p (.lst (kvs.map fun kv => kV kv.1)))
theorem cr_listD {X : Cx} (hc : X.calm = true) : CallR X (.type "list") rListD := call_listD hc
theorem keys_dt {H : Hp} : ∀ {ks : List Key}, DtAll K H (ks.map kV) (ks.map keyV)
  | [] => .nil
  | .inl i :: r => .cons (.int i) keys_dt
  | .inr x :: r => .cons (.str x) keys_dt
theorem sp_keys (h : SimW K FL T te w) : SimP K FL T (tCB rListD (tCons te tNil)) (pKeys w) := fun F α H H1 σ g d R hw Q q => by
  obtain ⟨o, h1, h2⟩ := bind_some hw
  obtain ⟨ds, h3, h4⟩ := bind_some h2
  cases h4
  obtain ⟨a, k1, k2⟩ := h F α H H1 σ g o R h1
  obtain ⟨ws, k3, k4⟩ := R.dicI h3 k1
  refine k2 _ ⟨a, ws, rfl, .inl k3, fun p hp => q.new R.ex hp (.lst upd_same ?_)⟩
  have e : ws.map (fun kv => kV kv.1) = (ds.map (·.1)).map kV := by rw [← k4.keys, List.map_map]; rfl
  have e2 : ds.map (fun kv => keyV kv.1) = (ds.map (·.1)).map keyV := by rw [List.map_map]; rfl
  rw [e, e2]
  exact keys_dt
/-- list(l), tuple(l), l[i] of a list of one's own -/
def pLstW (w : WM) : PM := fun g => (w g).bind fun o => (lstAt g o).bind fun ds => some (.list ds)
theorem sp_lstW (h : SimW K FL T te w) : SimP K FL T (tCB (rLstOf K) (tCons te tNil)) (pLstW w) := fun F α H H1 σ g d R hw Q q => by
  obtain ⟨o, h1, h2⟩ := bind_some hw
  obtain ⟨ds, h3, h4⟩ := bind_some h2
  cases h4
  obtain ⟨a, k1, k2⟩ := h F α H H1 σ g o R h1
  obtain ⟨vs, k3, k4⟩ := R.lst h3 k1
  exact k2 _ ⟨a, vs, rfl, .inl (sq_of k3), fun p hp => q.new R.ex hp (.lst upd_same (DtAll.ex (Ex.new (fresh_back R.ex hp)) k4))⟩
def pTupW (w : WM) : PM := fun g => (w g).bind fun o => (lstAt g o).bind fun ds => some (.tuple ds)
theorem sp_tupW (h : SimW K FL T te w) : SimP K FL T (tCB (rTupOf K) (tCons te tNil)) (pTupW w) := fun F α H H1 σ g d R hw Q q => by
  obtain ⟨o, h1, h2⟩ := bind_some hw
  obtain ⟨ds, h3, h4⟩ := bind_some h2
  cases h4
  obtain ⟨a, k1, k2⟩ := h F α H H1 σ g o R h1
  obtain ⟨vs, k3, k4⟩ := R.lst h3 k1
  exact k2 _ ⟨a, vs, rfl, .inl ⟨sq_of k3, fun p hp => q.new R.ex hp (.tup (st_of upd_same) (DtAll.ex (Ex.new (fresh_back R.ex hp)) k4))⟩⟩
def pIxL (w : WM) (p : PM) : PM := fun g => (w g).bind fun o => (p g).bind fun e => (asI e).bind fun i => (lstAt g o).bind fun ds => atI ds i
theorem sp_ixL (h : SimW K FL T te w) (hp : SimP K FL T ty pa) : SimP K FL T (tOp (rIx K) te ty) (pIxL w pa) := fun F α H H1 σ g d R hw Q q => by
  obtain ⟨o, h1, h2⟩ := bind_some hw
  obtain ⟨e, h3, h2⟩ := bind_some h2
  obtain ⟨i, h4, h2⟩ := bind_some h2
  obtain ⟨ds, h5, h6⟩ := bind_some h2
  rw [asI_some h4] at h3
  obtain ⟨a, k1, k2⟩ := h F α H H1 σ g o R h1
  refine k2 _ (hp F α H H1 σ g _ R h3 _ fun y H2 Ha e2 ea xa da => ?_)
  have R2 := R.grow e2 ea xa
  obtain ⟨vs, k3, k4⟩ := R2.lst h5 k1
  have h6 : atI ds i = some d := h6
  unfold atI at h6
  rw [← k4.length] at h6
  obtain ⟨j, hj, hd⟩ := Option.bind_eq_some_iff.mp h6
  obtain ⟨v, hv, dv⟩ := k4.get hd
  refine .inl ⟨a, vs, i, v, rfl, da.int_eq, sq_of k3, ?_, q v H2 Ha e2 ea xa dv⟩
  unfold atI
  rw [hj]
  exact hv
/-! ### walks: zip, enumerate -/
def zipD (ds es : List PyData) : List PyData := (ds.zip es).map fun p => .tuple [p.1, p.2]
def seqD : PyData → Option (List PyData)
  | .list ds => some ds
  | .tuple ds => some ds
  | _ => none
def iZip2 (a b : PM) : IM := fun g => (a g).bind fun d => (b g).bind fun e => match d, e with
  | .list ds, .list es => some (zipD ds es)
  | .tuple ds, .tuple es => some (zipD ds es)
  | .list ds, .tuple es => some (zipD ds es)
  | _, _ => none
theorem zip_len (ds es : List PyData) : (zipD ds es).length = min ds.length es.length := by simp [zipD]
theorem zip_yi {ds es : List PyData} {Hi : Hp} {i : Nat} {H3 H4 : Hp} {v : V} {Tt : Addr} {x y : V} {d d' : PyData} (h1 : v = .ref Tt) (h2 : H3 Tt = none) (h3 : H4 = upd H3 Tt (.tup [x, y])) (q1 : ds[i]? = some d) (q3 : es[i]? = some d') (q2 : Dt K Hi x d) (q4 : Dt K Hi y d') : YI K (zipD ds es) Hi i H3 v H4 := by
  subst h1 h3
  refine ⟨Ex.new h2, .tuple [d, d'], ?_, fun Hb e1 e2 => ⟨upd Hb Tt (.tup [x, y]), Ext.new e2 h2, ex_upd e2, ?_⟩⟩
  · unfold zipD
    rw [List.getElem?_map, show (ds.zip es)[i]? = some (d, d') from List.getElem?_zip_eq_some.mpr ⟨q1, q3⟩]
    rfl
  · have hx : Ex Hb (upd Hb Tt (.tup [x, y])) := Ex.new (fresh_back e2 h2)
    exact .tup (st_of upd_same) (.cons (Dt.ex (e1.trans hx) q2) (.cons (Dt.ex (e1.trans hx) q4) .nil))
theorem si_zip (ha : SimP K FL T ta pa) (hb : SimP K FL T tb pb) : SimI K FL T (iZipU K (tCons ta (tCons tb tNil))) (iZip2 pa pb) := fun F α H H1 σ g out R h Rk k => by
  obtain ⟨d, h1, h⟩ := bind_some h
  obtain ⟨e, h2, h3⟩ := bind_some h
  refine ha F α H H1 σ g d R h1 _ fun u H2 Ha e2 ea xa da => hb F α Ha H2 σ g e (R.grow e2 ea xa) h2 _ fun v H3 Hb e3 eb xb db => ?_
  have da' := Dt.ex xb.ex da
  have fin : ∀ {J G}, (∀ H4, Ex Hb H4 → G H4) → Walk J out.length G (YI K out Hb) → Rk J H3 := fun hG w => k _ _ H3 Hb (e2.trans e3) eb (xa.trans e2 xb) hG w
  split at h3
  · rename_i ds es
    cases h3
    obtain ⟨a, xs, rfl, ha, ra⟩ := da'.lst_eq
    obtain ⟨b, ys, rfl, hb, rb⟩ := db.lst_eq
    refine ⟨a, b, xs, ys, rfl, .inl ⟨sq_of (eb a _ ha), sq_of (eb b _ hb), fin (G := fun H3 => Ex Hb H3) (fun H3 e3 => e3) ?_⟩⟩
    rw [zip_len]
    refine (walk_zip (K := K) (a := a) (b := b) (xs := xs) (ys := ys) (by rw [ra.length, rb.length])).mono (fun H3 e3 => ⟨sq_of (e3 a _ ha), sq_of (e3 b _ hb)⟩) fun i H3 v H4 hi e3 z => ?_
    obtain ⟨Tt, x, y, h1, h2, h3, h4, h5⟩ := z
    obtain ⟨d, q1, q2⟩ := ra.get' h4
    obtain ⟨d', q3, q4⟩ := rb.get' h5
    exact zip_yi h1 h2 h3 q1 q3 q2 q4
  · rename_i ds es
    cases h3
    obtain ⟨a, xs, rfl, ha, ra⟩ := da'.tup_eq
    obtain ⟨b, ys, rfl, hb, rb⟩ := db.tup_eq
    refine ⟨a, b, xs, ys, rfl, .inr (.inl ⟨ex_t eb ha, ex_t eb hb, fin (G := fun H3 => Ex Hb H3) (fun H3 e3 => e3) ?_⟩)⟩
    rw [zip_len]
    refine (walk_zipTT (K := K) (a := a) (b := b) (xs := xs) (ys := ys) (by rw [ra.length, rb.length])).mono (fun H3 e3 => ⟨ex_t e3 ha, ex_t e3 hb⟩) fun i H3 v H4 hi e3 z => ?_
    obtain ⟨Tt, x, y, h1, h2, h3, h4, h5⟩ := z
    obtain ⟨d, q1, q2⟩ := ra.get' h4
    obtain ⟨d', q3, q4⟩ := rb.get' h5
    exact zip_yi h1 h2 h3 q1 q3 q2 q4
  · rename_i ds es
    cases h3
    obtain ⟨a, xs, rfl, ha, ra⟩ := da'.lst_eq
    obtain ⟨b, ys, rfl, hb, rb⟩ := db.tup_eq
    refine ⟨a, b, xs, ys, rfl, .inr (.inr ⟨sq_of (eb a _ ha), ex_t eb hb, fin (G := fun H3 => Ex Hb H3) (fun H3 e3 => e3) ?_⟩)⟩
    rw [zip_len]
    refine (walk_zipM (K := K) (a := a) (b := b) (xs := xs) (ys := ys) (by rw [ra.length, rb.length])).mono (fun H3 e3 => ⟨sq_of (e3 a _ ha), ex_t e3 hb⟩) fun i H3 v H4 hi e3 z => ?_
    obtain ⟨Tt, x, y, h1, h2, h3, h4, h5⟩ := z
    obtain ⟨d, q1, q2⟩ := ra.get' h4
    obtain ⟨d', q3, q4⟩ := rb.get' h5
    exact zip_yi h1 h2 h3 q1 q3 q2 q4
  · cases h3
/-! ### sets of whole numbers, sorted at once -/
def fSortSet : List PyData → Option PyData
  | [.list ds] => (intsD ds).bind fun ns => if ns.length < 4000 then some (.list ((usort ltI ns).map .int)) else none
  | _ => none
theorem sp_sortSetI {P : Program} {w' : World} (ha : SimP K FL T te pa) : SimP K FL T (tCB (rSortKI P w') (tCons (tCB (rSetK K P w') (tCons te tNil)) tNil)) (pCB fSortSet (pCons pa pNil)) := fun F α H H1 σ g z R h Q q => by
  obtain ⟨ds, h1, h2⟩ := bind_some h
  obtain ⟨d, h3, h4⟩ := bind_some h1
  obtain ⟨es, h5, h6⟩ := bind_some h4
  cases h5
  cases h6
  cases d with
  | list es =>
    obtain ⟨ns, k1, k2⟩ := bind_some (show (intsD es).bind _ = some z from h2)
    obtain ⟨k3, rfl⟩ := ite_some k2
    have := intsD_eq k1
    subst this
    refine ha F α H H1 σ g _ R h3 _ fun v H2 Ha e2 ea xa da => ?_
    obtain ⟨a, xs, rfl, ha, ra⟩ := da.lst_eq
    have e1 := ints_dp ra
    subst e1
    refine ⟨a, ns.map .inl, rfl, by rw [← ints_keyV]; exact sq_of (ea a _ ha), by rw [List.length_map]; exact k3, fun p c hp hc => ?_⟩
    refine ⟨p, ns, c, rfl, upd_same, fun p2 hp2 => ?_⟩
    exact q _ _ (upd Ha p2 _) ((e2.trans (Ex.new hp)).trans (Ex.new hp2)) (ex_upd (ea.trans (Ex.new hp))) (xa.trans (e2.trans (Ex.new hp)) (Ext.new (ea.trans (Ex.new hp)) hp2)) (.lst upd_same (dp_ints _))
  | none => cases h2
  | bool b => cases h2
  | int i => cases h2
  | str i => cases h2
  | tuple i => cases h2
  | dict kv => cases h2
end
end EV

/-! ### EV: several names at once; lists of one's own compared; defs with lambdas (own work) -/
namespace EV
open PySem PySem.Spec PyProof.Rows L2 Evl L2H LamX LR
/-- what is assigned: a value, or something new -/
inductive Nv where
  | v (x : Rv)
  | n (c : Val)
abbrev AN := Sg → Option (Except Str (List Nv) × Sg)
inductive NR (K : PySem.W.Frag) (F : Fr) (α : Al) (H H2 : Hp) : List V → List Nv → List Addr → Prop
  | nil : NR K F α H H2 [] [] []
  | v {u : V} {x : Rv} {y : Val} {us : List V} {xs : List Nv} {qs : List Addr} : argV x = some y → RR K α H u x → NR K F α H H2 us xs qs → NR K F α H H2 (u :: us) (.v x :: xs) qs
  | n {p : Addr} {ho : HO} {c : Val} {us : List V} {xs : List Nv} {qs : List Addr} : H2 p = some ho → H p = none → F.B p = none → (∀ o, α o ≠ some p) → COk K H ho c → p ∉ qs → NR K F α H H2 us xs qs → NR K F α H H2 (.ref p :: us) (.n c :: xs) (p :: qs)
def KNs (K : PySem.W.Frag) (FL : Fl) (T : TbS) (W : WX) (F : Fr) (α : Al) (H : Hp) (σ : L2.St) (g' : Sg) (Q : List V → Hp → Prop) : Except Str (List Nv) → Prop
  | .ok xs => ∀ α' H' H2 us qs, Rel K FL T F α' H' H2 σ g' → Stp α H α' H' → NR K F α' H' H2 us xs qs → Q us H2
  | .error x => ∀ α' H' H2, Rel K FL T F α' H' H2 σ g' → Stp α H α' H' → W (.ref (gaE K x)) none σ H2
def SimAN (K : PySem.W.Frag) (FL : Fl) (T : TbS) (W : WX) (ta : TA) (m : AN) : Prop := ∀ (F : Fr) (α : Al) (H H1 : Hp) (σ : L2.St) (g : Sg) (r : Except Str (List Nv)) (g' : Sg), Rel K FL T F α H H1 σ g → m g = some (r, g') → ∀ Q : List V → Hp → Prop, KNs K FL T W F α H σ g' Q r → ta σ H1 Q
section
variable {K : PySem.W.Frag} {FL : Fl} {T : TbS} {W : WX} {ta tb tc te td ty tx : TE} {tA tr : TA} {pa pb : PM} {ma mb : EM} {ms mr : AN} {i j : Nat} {w : WM}
theorem COk.ex {H H' : Hp} {ho : HO} {c : Val} (h : COk K H ho c) (e : Ex H H') : COk K H' ho c := by
  cases c with
  | dat d => exact h.elim
  | obj i => exact h.elim
  | ownL ds => obtain ⟨vs, e1, e2⟩ := h; exact ⟨vs, e1, DtAll.ex e e2⟩
  | ownD ds => obtain ⟨vs, e1, e2⟩ := h; exact ⟨vs, e1, e2.ex e⟩
def anNil : AN := fun g => some (.ok [], g)
theorem san_nil : SimAN K FL T W tNil anNil := fun F α H H1 σ g r g' R h Q q => by
  cases h
  exact q α H H1 [] [] R (Stp.refl _ _) .nil
def anV (m : EM) (r : AN) : AN := eBind m fun x => eBind r fun xs => fun g => (argV x).bind fun _ => some (.ok (.v x :: xs), g)
theorem san_v (ha : SimE K FL T W ta ma) (hr : SimAN K FL T W tr mr) : SimAN K FL T W (tCons ta tr) (anV ma mr) := fun F α H H1 σ g r g' R hm Q q => by
  rcases eBind_some hm with ⟨v, g1, h1, h2⟩ | ⟨x, h1, rfl⟩
  · refine ha F α H H1 σ g _ g1 R h1 _ fun α1 Ha H2 u R1 s1 ru => ?_
    rcases eBind_some h2 with ⟨xs, g2, h3, h4⟩ | ⟨y, h3, rfl⟩
    · obtain ⟨y, h5, h6⟩ := bind_some h4
      cases h6
      exact hr F α1 Ha H2 σ g1 _ _ R1 h3 _ fun α2 Hb H3 us qs R2 s2 rn => q α2 Hb H3 (u :: us) qs R2 (s1.trans s2) (.v h5 (ru.step s2 fun i f e => by subst e; cases h5) rn)
    · exact hr F α1 Ha H2 σ g1 _ _ R1 h3 _ fun α' H' H2 R s' => q α' H' H2 R (s1.trans s')
  · exact ha F α H H1 σ g _ _ R h1 _ q
def anN (m : NM) (r : AN) : AN := eBind m fun c => eBind r fun xs => fun g => some (.ok (.n c :: xs), g)
theorem NR.lift {F : Fr} {α : Al} {H H2 : Hp} {p : Addr} {ho : HO} {us : List V} {xs : List Nv} {qs : List Addr} {H0 : Hp} (h : NR K ⟨H0, upd F.B p ho, F.a0⟩ α H H2 us xs qs) (hB : F.B p = none) : NR K F α H H2 us xs qs ∧ p ∉ qs := by
  induction h with
  | nil => exact ⟨.nil, by simp⟩
  | v a0 a _ ih => exact ⟨.v a0 a ih.1, ih.2⟩
  | @n p' ho' c us xs qs h1 h2 h3 h4 h5 h6 _ ih =>
    have h3 : upd F.B p ho p' = none := h3
    have c : p' ≠ p := fun e => by subst e; rw [upd_same] at h3; cases h3
    rw [upd_ne c] at h3
    refine ⟨.n h1 h2 h3 h4 h5 h6 ih.1, fun hm => ?_⟩
    rcases List.mem_cons.mp hm with e | e
    · exact c e.symm
    · exact ih.2 e
theorem san_n {m : NM} (ha : SimN K FL T W ta m) (hr : SimAN K FL T W tr mr) : SimAN K FL T W (tCons ta tr) (anN m mr) := fun F α H H1 σ g r g' R hm Q q => by
  rcases eBind_some hm with ⟨c, g1, h1, h2⟩ | ⟨x, h1, rfl⟩
  · refine ha F α H H1 σ g _ g1 R h1 _ fun α1 Ha H2 p ho R1 s1 hp hH hB hn hc => ?_
    rcases eBind_some h2 with ⟨xs, g2, h3, h4⟩ | ⟨y, h3, rfl⟩
    · cases h4
      refine hr _ α1 Ha H2 σ g1 _ _ (R1.prot hp hn hc.plain.tbl) h3 _ fun α2 Hb H3 us qs R2 s2 rn => ?_
      obtain ⟨R3, k1, k2, k3⟩ := R2.unprot R1.ext hB hH R1.ntB
      obtain ⟨rn', k4⟩ := rn.lift hB
      exact q α2 Hb H3 (.ref p :: us) (p :: qs) R3 (s1.trans s2) (.n k1 k2 hB k3 (COk.ex hc s2.ex) k4 rn')
    · refine hr _ α1 Ha H2 σ g1 _ _ (R1.prot hp hn hc.plain.tbl) h3 _ fun α2 Hb H3 R2 s2 => ?_
      obtain ⟨R3, _⟩ := R2.unprot R1.ext hB hH R1.ntB
      exact q α2 Hb H3 R3 (s1.trans s2)
  · exact ha F α H H1 σ g _ _ R h1 _ q
/-! names get them -/
def setNs : List Nat → List Nv → Sg → Option Sg
  | [], [], g => some g
  | i :: is, .v x :: xs, g => (argV x).bind fun y => if is.contains i = true then none else setNs is xs (g.set i y)
  | i :: is, .n c :: xs, g => if is.contains i = true then none else setNs is xs (g.set i c)
  | _, _, _ => none
def setVs (σ : L2.St) : List Nat → List V → L2.St
  | i :: is, u :: us => setVs (σ.set i (some u)) is us
  | _, _ => σ
theorem NR.own {F : Fr} {α : Al} {H H2 : Hp} {us : List V} {xs : List Nv} {qs : List Addr} {p : Addr} {i : Nat} (h : NR K F α H H2 us xs qs) (hp : p ∉ qs) : NR K F (fun o => if o = .slot i then some p else α o) H H2 us xs qs := by
  induction h with
  | nil => exact .nil
  | @v u x y us xs qs a0 a b ih =>
    refine .v a0 ?_ (ih hp)
    cases x with
    | dat d => exact a
    | at_ o =>
      obtain ⟨b', e1, e2⟩ := a
      refine ⟨b', e1, (if_neg fun c => ?_).trans e2⟩
      subst c
      cases a0
  | @n p' ho' c' us xs qs k1 k2 k3 k4 k5 k6 k7 ih =>
    have hpp : p ≠ p' := fun e => hp (by rw [e]; exact List.mem_cons_self)
    refine .n k1 k2 k3 (fun o z => ?_) k5 k6 (ih fun hm => hp (List.mem_cons_of_mem _ hm))
    have z : (if o = .slot i then some p else α o) = some p' := z
    split at z
    · cases z; exact hpp rfl
    · exact k4 o z
theorem setNs_rel {F : Fr} {H H2 : Hp} : ∀ {is : List Nat} {xs : List Nv} {us : List V} {qs : List Addr} {α : Al} {σ : L2.St} {g g' : Sg}, Rel K FL T F α H H2 σ g → NR K F α H H2 us xs qs → setNs is xs g = some g' → ∃ α', Rel K FL T F α' H H2 (setVs σ is us) g'
  | [], [], _, _, α, σ, g, g', R, h, hs => by
    cases hs
    cases h
    exact ⟨α, R⟩
  | [], _ :: _, _, _, _, _, _, _, _, _, hs => by cases hs
  | _ :: _, [], _, _, _, _, _, _, _, _, hs => by cases hs
  | i :: is, .v x :: xs, _, _, α, σ, g, g', R, h, hs => by
    cases h with
    | @v u _ _ us _ qs _ a b =>
      obtain ⟨y, h1, h2⟩ := bind_some (show (argV x).bind _ = some g' from hs)
      have h2 : (if is.contains i = true then none else setNs is xs (g.set i y)) = some g' := h2
      split at h2
      · cases h2
      · show ∃ α', Rel K FL T F α' H H2 (setVs (List.set σ i (some u)) is us) g'
        exact setNs_rel (R.set i (a.vr h1)) b h2
  | i :: is, .n c :: xs, _, _, α, σ, g, g', R, h, hs => by
    cases h with
    | @n p ho _ us _ qs h1 h2 h3 h4 h5 h6 h7 =>
      have hs : (if is.contains i = true then none else setNs is xs (g.set i c)) = some g' := hs
      split at hs
      · cases hs
      · show ∃ α', Rel K FL T F α' H H2 (setVs (List.set σ i (some (.ref p))) is us) g'
        refine setNs_rel (qs := qs) (R.own i h1 h2 h3 h4 h5) (h7.own h6) hs
def gNames : List Nat → TGs
  | [] => gNil
  | i :: is => gCons (gName i) (gNames is)
theorem gNames_run {H : Hp} : ∀ {is : List Nat} {us : List V} {σ : L2.St} {Q : L2.St → Hp → Prop}, is.length = us.length → Q (setVs σ is us) H → gNames is us σ H Q
  | [], [], _, _, _, q => ⟨rfl, q⟩
  | [], _ :: _, _, _, h, _ => by cases h
  | _ :: _, [], _, _, h, _ => by cases h
  | i :: is, u :: us, σ, Q, h, q => ⟨u, us, rfl, gNames_run (is := is) (us := us) (σ := σ.set i (some u)) (by simpa using h) q⟩
theorem NR.len {F : Fr} {α : Al} {H H2 : Hp} {us : List V} {xs : List Nv} {qs : List Addr} (h : NR K F α H H2 us xs qs) : us.length = xs.length := by
  induction h with
  | nil => rfl
  | v _ _ _ ih => rw [List.length_cons, List.length_cons, ih]
  | n _ _ _ _ _ _ _ ih => rw [List.length_cons, List.length_cons, ih]
theorem NR.same {F : Fr} {α : Al} {H H2 H3 : Hp} {us : List V} {xs : List Nv} {qs : List Addr} (h : NR K F α H H2 us xs qs) (e : Ex H2 H3) : NR K F α H H3 us xs qs := by
  induction h with
  | nil => exact .nil
  | v a0 a _ ih => exact .v a0 a ih
  | n h1 h2 h3 h4 h5 h6 _ ih => exact .n (e _ _ h1) h2 h3 h4 h5 h6 ih
/-- a, b, .. = x, y, .. -/
def sNames (is : List Nat) (m : AN) : SM := sBind m fun xs => fun g => if xs.length = is.length ∧ is.length ≤ 100000 then (setNs is xs g).map fun g' => (.nx, g') else none
theorem ss_names {is : List Nat} {n : Nat} (hn : n = is.length) (h1 : SimAN K FL T W tA ms) : SimS K FL T W (tAsg (tTup tA) (gTup K n (gNames is))) (sNames is ms) := fun F α H H1 σ g fl g' R h D k => by
  subst hn
  rcases sBind_some h with ⟨xs, g1, k1, k2⟩ | ⟨x, k1, rfl⟩
  · have k2 : (if xs.length = is.length ∧ is.length ≤ 100000 then (setNs is xs g1).map (fun g' => (Flo.nx, g')) else none) = some (fl, g') := k2
    split at k2
    · rename_i hl
      obtain ⟨g2, k3, k4⟩ := Option.map_eq_some_iff.mp k2
      cases k4
      refine h1 F α H H1 σ g _ _ R k1 _ fun α1 Ha H2 us qs R1 s1 rn => ⟨by rw [rn.len, hl.1]; exact sz_of hl.2, fun p hp => ?_⟩
      obtain ⟨α2, R2⟩ := setNs_rel (R1.same (Ex.new hp)) (rn.same (Ex.new hp)) k3
      exact ⟨p, us, rfl, st_of upd_same, by rw [rn.len, hl.1], gNames_run (by rw [rn.len, hl.1]) (k α2 Ha _ _ R2)⟩
    · cases k2
  · exact h1 F α H H1 σ g _ _ R k1 _ fun α' H' H2 R' s' => k α' H' H2 σ R'
theorem ss_par2 (h1 : SimAN K FL T W tA ms) : SimS K FL T W (tPar i j tA) (sNames [i, j] ms) := fun F α H H1 σ g fl g' R h D k => by
  rcases sBind_some h with ⟨xs, g1, k1, k2⟩ | ⟨x, k1, rfl⟩
  · have k2 : (if xs.length = 2 ∧ 2 ≤ 100000 then (setNs [i, j] xs g1).map (fun g' => (Flo.nx, g')) else none) = some (fl, g') := k2
    split at k2
    · rename_i hl
      obtain ⟨g2, k3, k4⟩ := Option.map_eq_some_iff.mp k2
      cases k4
      refine h1 F α H H1 σ g _ _ R k1 _ fun α1 Ha H2 us qs R1 s1 rn => ?_
      obtain ⟨α2, R2⟩ := setNs_rel R1 rn k3
      have hu : us.length = 2 := rn.len.trans hl.1
      match us, hu, R2 with
      | [u, v], _, R2 => exact ⟨u, v, rfl, k α2 Ha _ _ R2⟩
    · cases k2
  · exact h1 F α H H1 σ g _ _ R k1 _ fun α' H' H2 R' s' => k α' H' H2 σ R'
theorem ss_par3 {l : Nat} (h1 : SimAN K FL T W tA ms) : SimS K FL T W (tPar3 i j l tA) (sNames [i, j, l] ms) := fun F α H H1 σ g fl g' R h D k => by
  rcases sBind_some h with ⟨xs, g1, k1, k2⟩ | ⟨x, k1, rfl⟩
  · have k2 : (if xs.length = 3 ∧ 3 ≤ 100000 then (setNs [i, j, l] xs g1).map (fun g' => (Flo.nx, g')) else none) = some (fl, g') := k2
    split at k2
    · rename_i hl
      obtain ⟨g2, k3, k4⟩ := Option.map_eq_some_iff.mp k2
      cases k4
      refine h1 F α H H1 σ g _ _ R k1 _ fun α1 Ha H2 us qs R1 s1 rn => ?_
      obtain ⟨α2, R2⟩ := setNs_rel R1 rn k3
      have hu : us.length = 3 := rn.len.trans hl.1
      match us, hu, R2 with
      | [u, v, x], _, R2 => exact ⟨u, v, x, rfl, k α2 Ha _ _ R2⟩
    · cases k2
  · exact h1 F α H H1 σ g _ _ R k1 _ fun α' H' H2 R' s' => k α' H' H2 σ R'
/-! ### a list of one's own beside data: a truth is told -/
theorem own_view {F : Fr} {α : Al} {H H1 : Hp} {σ : L2.St} {g : Sg} {o : Owner} {a : Addr} {ds : List PyData} (R : Rel K FL T F α H H1 σ g) (h : lstAt g o = some ds) (ha : α o = some a) : ∃ Hx, Ex H Hx ∧ Ex Hx H1 ∧ Dt K Hx (.ref a) (.list ds) := by
  obtain ⟨vs, k1, k2⟩ := R.lst h ha
  have hH := R.off _ a ha
  have hx : Ex H (upd H a (.lst vs)) := Ex.new hH
  refine ⟨upd H a (.lst vs), hx, fun b o hb => ?_, .lst upd_same (DtAll.ex hx k2)⟩
  by_cases c : b = a
  · subst c; rw [upd_same] at hb; cases hb; exact k1
  · rw [upd_ne c] at hb; exact R.ex b o hb
/-- e op l -/
def mOpW (f : PyData → PyData → Option PyData) (a : EM) (w : WM) : EM := eBind a fun x => fun g => (okV x).bind fun d => (w g).bind fun o => (lstAt g o).bind fun ds => (f d (.list ds)).bind fun z => (asB z).bind fun b => some (.ok (.dat (.bool b)), g)
theorem se_opW {r : R2} {f : PyData → PyData → Option PyData} (hf : OpD K r f) (ha : SimE K FL T W ta ma) (hw : SimW K FL T tb w) : SimE K FL T W (tOp r ta tb) (mOpW f ma w) := fun F α H H1 σ g r' g' R hm Q q => by
  rcases eBind_some hm with ⟨v, g1, h1, h2⟩ | ⟨x, h1, rfl⟩
  · refine ha F α H H1 σ g _ g1 R h1 _ fun α1 Ha H2 x R1 s1 rx => ?_
    obtain ⟨d, k1, h2⟩ := bind_some h2
    obtain ⟨o, k2, h2⟩ := bind_some h2
    obtain ⟨ds, k3, h2⟩ := bind_some h2
    obtain ⟨z, k4, h2⟩ := bind_some h2
    obtain ⟨b, k5, h2⟩ := bind_some h2
    cases h2
    rw [asB_some k5] at k4
    obtain ⟨a, m1, m2⟩ := hw F α1 Ha H2 σ _ o R1 k2
    obtain ⟨Hx, n1, n2, n3⟩ := own_view R1 k3 m1
    refine m2 _ (hf d (.list ds) _ k4 Hx Hx x (.ref a) (Ex.refl _) (Dt.ex n1 (rx.dat (okV_some k1))) n3 H2 n2 Q fun v H4 Hc e4 ec xc dc => ?_)
    rw [dc.bl_eq]
    exact q α1 Ha H4 _ (R1.same e4) s1 (.bl _)
  · exact ha F α H H1 σ g _ _ R h1 _ q
/-- l op e, e pure -/
def pOpWL (f : PyData → PyData → Option PyData) (w : WM) (p : PM) : PM := fun g => (w g).bind fun o => (p g).bind fun d => (lstAt g o).bind fun ds => (f (.list ds) d).bind fun z => (asB z).bind fun b => some (.bool b)
theorem sp_opWL {r : R2} {f : PyData → PyData → Option PyData} (hf : OpD K r f) (hw : SimW K FL T ta w) (hp : SimP K FL T tb pa) : SimP K FL T (tOp r ta tb) (pOpWL f w pa) := fun F α H H1 σ g z0 R h Q q => by
  obtain ⟨o, k2, h2⟩ := bind_some h
  obtain ⟨d, k1, h2⟩ := bind_some h2
  obtain ⟨ds, k3, h2⟩ := bind_some h2
  obtain ⟨z, k4, h2⟩ := bind_some h2
  obtain ⟨b, k5, h2⟩ := bind_some h2
  cases h2
  rw [asB_some k5] at k4
  obtain ⟨a, m1, m2⟩ := hw F α H H1 σ g o R k2
  refine m2 _ (hp F α H H1 σ g d R k1 _ fun y H2 Ha e2 ea xa da => ?_)
  obtain ⟨Hx, n1, n2, n3⟩ := own_view (R.grow e2 ea xa) k3 m1
  refine hf (.list ds) d _ k4 Hx Hx (.ref a) y (Ex.refl _) n3 (Dt.ex n1 da) H2 n2 Q fun v H4 Hc e4 ec xc dc => ?_
  rw [dc.bl_eq]
  exact q _ H4 Ha (e2.trans e4) (ea.trans e4) (xa.trans e2 (Ext.refl _ _)) (.bl _)
/-! ### defs whose code object is known (lambdas) -/
variable {P : Program} {w' : World} {mg : Str → Option Value} {base : Heap}
theorem fn_evL {nm qual : Str} {st : Stmt} {f : Addr} {fd : FuncData} {N ps : List Str} {k n : Nat} {m : SM} {p : He.Defn} (F : FunD K nm qual (defArgs st) (defBody st) (defScope st) [] [] f fd) (hf : f = He.fAd K p) (S : FnScope N ps (defScope st)) (hn : ps.length = n)
    (body : ∀ (cdv : Value), cdv = .ref (He.codeOf K p) → ∀ (A : Around) (outer : List Env) (s : Shared) (Hs : Hp) (E : XK), Room k (A.deeper (envOfC qual (defScope st) s.heap.objs.size f cdv)) →
      ∃ t, PSs (cxOf (CXL P w') P w' K mg base N qual (defScope st) f cdv A outer s Hs E) (defBody st) t ∧ SimS K FL T (fun c d _ H => E c d H) t m) :
    FnOk P w' K mg base (CXL P w') (k + 1) f fd ps (spF K FL T n (funOf N.length n m)) := by
  obtain ⟨oc, od, dV, kV, doc, pm, an, cdv, ct, osl, rfl, lk, hcd, _, _⟩ := F.ex
  have hc : ∃ c, cdv = .ref c := by
    cases cdv with
    | ref c => exact ⟨c, rfl⟩
    | _ => cases hcd
  obtain ⟨c, rfl⟩ := hc
  subst hf
  have e : He.codeOf K p = c := He.codeOf_eq lk rfl
  subst e
  refine fn_of lk hcd S (fun vs H Q E h => by rw [hn]; exact spF_len h) fun A outer s H1 vs Q E hr h => ?_
  obtain ⟨H, α, sto, as, r, st', R, hsl, pa, hl, hf, q⟩ := h
  obtain ⟨t, ht, hk⟩ := body _ rfl A outer s H1 E hr
  obtain ⟨xs, h1, h2⟩ := bind_some hf
  have h2 : (if as.length = n ∧ n ≤ N.length then (m ⟨argsOf N.length n xs, sto⟩).bind endOf else none) = some (r, st') := h2
  split at h2
  · rename_i hc
    obtain ⟨⟨fl, g'⟩, h3, h4⟩ := bind_some h2
    obtain ⟨rfl, hN⟩ := hc
    exact ⟨t, ht, hk _ α H H1 _ _ fl g' (rel_start R pa h1 hN) h3 _ (end_core h4 q)⟩
  · cases h2
end
end EV

/-! ### EV: a law's promise, a def called by its name (own work) -/
namespace EV
open PySem PySem.Spec PyProof.Rows L2 Evl L2H LamX LR
section
variable {K : PySem.W.Frag} {FL : Fl} {T : TbS}
theorem law_spF {f : Fun} {ns : List Int} {st' : List Ob} {H1 : Hp} {a : Addr} (h : f [.dat (scrD ns)] [] = some (.ok (.dat (.bool true)), st')) (hS : SqL K H1 a (ns.map V.int)) (hT : Tabs T.l H1) : spF K FL T 1 f [.ref a] H1 (fun v _ => v = .bl true) fun _ _ _ => False := by
  obtain ⟨H, e, nt, hS0⟩ := script_only hS
  refine ⟨H, fun _ => none, [], [.dat (scrD ns)], _, st', ⟨e, fun _ => nt, hT, (fun _ _ _ z => nomatch z), (fun _ _ z => nomatch z), (fun _ _ z => nomatch z), (fun i o z => by simp at z), fun _ _ => rfl⟩, fun _ => rfl, .cons (.scr ns hS0) .nil, rfl, h, fun u H2 H' α' _ _ r => ?_⟩
  exact (show Dt K H' u (.bool true) from r).bl_eq
end
end EV

/-! ### set comprehensions of whole numbers and texts (own work over the kit's blocks) -/
namespace LR
open PySem PySem.Spec PyProof.Rows L2 Evl PpSet
section
variable {X : Cx}
/-- one key more -/
abbrev addK (S : Key → Bool) (k : Key) : Key → Bool := fun j => S j || decide (j = k)
theorem kset_addc {P : Program} {w : World} {A : Around} {E : Value → Shared → Prop} {s : Shared} {a : Addr} {S : Key → Bool} {n : Nat} {k : Key} {u : Value} {Q : Value → Shared → Prop} (hu : RelV (kV k) u) (R : KSet P w s.heap a S n) (room : n + 1 < scanBound)
    (hQ : ∀ h', Heap.SameBut a s.heap h' → KSet P w h' a (addK S k) (if S k = true then n else n + 1) → Q .none { s with heap := h', toks := s.toks + 1 }) :
    wpAny (model P w) A (call (.builtin "set.add") [.ref a, u]) Q E s := by
  have ty : s.TypeIs (.ref a) "set" := by
    obtain ⟨ob, rows, ep, tb, ho, hex, _⟩ := R
    exact ⟨ob, ho, hex.1⟩
  refine wpAny_call_entry F.slot_set_add ty F.entry_set_add ?_ (F.args_set_add_2 _ _)
  unfold Builtin.«set.add» Builtin.Frozenset.oneOther
  simp only [List.isEmpty_nil, bind_assoc]
  unfold Builtin.Frozenset.addrOf setAdd
  refine wpAny_bind (wpAny_pure ?_)
  try dsimp only
  refine wpAny_bind (wpAny_pure ?_)
  try dsimp only
  refine wpAny_bind (wpAny_holding (wpAny_bind ((mixKind P w).pyHash (k := k) (kV_is hu) ?_)))
  refine kset_add (s := { s with toks := s.toks + 1 }) hu R room fun h' sb r => ?_
  show wpAny _ _ (ret Value.none) _ _ _
  exact wpAny_pure ⟨_, rfl, hQ h' sb r⟩
theorem addK_ok {pins : List (Addr × Obj)} {σ : L2.St} {H : Hp} {s : Shared} {E : Value → Shared → Prop} {D : Addr} {S : Key → Bool} {n : Nat} {k : Key} {u : Value} {Q : Value → Shared → Prop} (I : Inv X pins σ H s) (hD : H D = some (KSO X.prog X.w D S n)) (hu : RelV (kV k) u) (room : n + 1 < scanBound)
    (h : ∀ s', Inv X pins σ (upd H D (KSO X.prog X.w D (addK S k) (if S k = true then n else n + 1))) s' → Q .none s') : wpAny (model X.prog X.w) X.A (call (.builtin "set.add") [.ref D, u]) Q E s := by
  refine kset_addc hu (kso_get I hD) room fun h' sb r => ?_
  have he : ∃ o, h'.get? D = some o := by
    obtain ⟨ob, _, _, _, ho, _⟩ := r
    exact ⟨ob, ho⟩
  exact h _ (I.write (e := D) (t' := s.toks + 1) (by rw [hD]; trivial) (.inl rfl) (fun b o hb ho => (sb.2 b hb).trans ho) he (kso_new r))
/-- {elt for target in iter if ..}, elt a whole number or a text -/
def tSk (P : Program) (w : World) (wi : TI) (g : TG) (tt : TT) (te : TE) (vs : List Nat) : TE := fun σ H Q => wi σ H fun J H1 => ∀ D, H1 D = none → ∃ W : Nat → Nat → Hp → Prop, (∃ m, W 0 m (upd H1 D (KSO P w D (fun _ => false) 0))) ∧ ∀ i m H, W i m H →
  (J.stop i H ∧ Q (.ref D) H) ∨ (J.go i H ∧ ∃ Nx : Hp → Prop, (∀ H', Nx H' → ∃ m', m' < m ∧ W (i + 1) m' H') ∧ ∀ x H', J.yld i H x H' → g x (wipe σ vs) H' fun σ2 H2 => wipe σ2 vs = wipe σ vs ∧ tt σ2 H2 fun b H3 =>
    if b = true then te σ2 H3 fun y H4 => ∃ (k : Key) (S : Key → Bool) (n : Nat), y = kV k ∧ H4 D = some (KSO P w D S n) ∧ n + 1 < scanBound ∧ Nx (upd H4 D (KSO P w D (addK S k) (if S k = true then n else n + 1))) else Nx H3)
theorem pe_sk {elt tg iter : Expr} {ifs : List Expr} {scope : Scope} {own : List (PySem.Str × Nat)} {pos : Pos} {wi : TI} {g : TG} {tt : TT} {te : TE} (hc : X.calm = true) (hN : X.N.Nodup) (hi : PI X tg iter wi) (ok : BlkOk X.N X.env.scope scope own)
    (hg : ∀ (s : Shared) (H : Hp) (C : Addr) (cl : List (PySem.Str × Addr)) (fp : List Addr), PG (X.blk s H scope (compEnvC scope cl C X.env) fp) tg g) (ht : ∀ (s : Shared) (H : Hp) (C : Addr) (cl : List (PySem.Str × Addr)) (fp : List Addr), PTs (X.blk s H scope (compEnvC scope cl C X.env) fp) ifs tt)
    (he : ∀ (s : Shared) (H : Hp) (C : Addr) (cl : List (PySem.Str × Addr)) (fp : List Addr), PE (X.blk s H scope (compEnvC scope cl C X.env) fp) elt te) (hs : ∀ x, foldedSetIterable iter X.env x = pure x := by intro _; rfl) :
    PE X (.SetComp elt [⟨tg, iter, ifs, 0⟩] scope pos) (tSk X.prog X.w wi g tt te (own.map (·.2))) := by
  refine ⟨fun pins s σ H Q I h => ?_⟩
  rw [eval_SetComp]
  have hfree : ∀ y ∈ scope.names, y.2 = .free → ∃ c, X.env.cells.lookup y.1 = some c := fun y hy e => by
    rcases ok.free y hy e with k | k
    · exact I.ok.has _ (.inl k)
    · exact I.ok.has _ (.inr k)
  refine wpAny_comprehension_free rfl hs (closure_ok hfree) ok.kind (fun y hy e => by rw [ok.uniq y hy, e])
    (thn (hi.run pins s σ H _ I h) fun xv s1 hx => thn hx fun itv s2 h2 => ?_)
  obtain ⟨it, fp, tn, J, H2, e, I2, T, st2, f2, q⟩ := h2
  subst e
  refine newSet_ok (newEnv_comp ?_)
  generalize hD : s2.heap.objs.size = D
  have hDn : H2 D = none := I2.hok.fresh (Nat.le_of_eq hD)
  obtain ⟨W, ⟨m0, w0⟩, turn⟩ := q D hDn
  generalize hH3 : upd H2 D (KSO X.prog X.w D (fun _ => false) 0) = H3 at w0
  generalize hs3 : ({ s2 with heap := s2.heap.push { cls := .type "set", dict := none, data := .set #[] 0 (.fresh 0 0 (!X.w.params.followText "set-order")) } } : Shared) = s3
  have h3 : s3.heap = s2.heap.push { cls := .type "set", dict := none, data := .set #[] 0 (.fresh 0 0 (!X.w.params.followText "set-order")) } := by rw [← hs3]
  have I3 : Inv X pins σ H3 s3 := by
    rw [← hs3, ← hH3]
    refine I2.laid (t' := s2.toks) (fun b o e => Heap.get?_push_of_some _ e) (Nat.le_of_eq hD) (kso_new (kset_fresh ?_))
    rw [← hD]
    exact Heap.get?_push_size _ rfl
  have f3 : ∀ b ∈ fp, FpOk X pins H3 b ∧ b < s3.heap.objs.size := fun b hb => by
    obtain ⟨o, e, _⟩ := T.obj _ _ st2 b hb
    have hlt := Heap.lt_size e
    refine ⟨⟨?_, (f2 b hb).2⟩, by rw [h3, Heap.size_push]; exact Nat.lt_succ_of_lt hlt⟩
    rw [← hH3, upd_ne (by rw [← hD]; exact Nat.ne_of_lt hlt)]
    exact (f2 b hb).1
  have st3 : tn 0 s3.heap := T.keep _ _ _ st2 fun b _ o e => by rw [h3]; exact Heap.get?_push_of_some _ e
  have I4 := block_start I3 ok hN f3
  have pg := hg s3 H3 s3.heap.objs.size (cellsFrom (s3.heap.objs.size + 1) scope.names (cloFrom X.env.cells scope.names [])) fp
  have pt := ht s3 H3 s3.heap.objs.size (cellsFrom (s3.heap.objs.size + 1) scope.names (cloFrom X.env.cells scope.names [])) fp
  have pe := he s3 H3 s3.heap.objs.size (cellsFrom (s3.heap.objs.size + 1) scope.names (cloFrom X.env.cells scope.names [])) fp
  generalize hce : compEnvC scope (cellsFrom (s3.heap.objs.size + 1) scope.names (cloFrom X.env.cells scope.names [])) s3.heap.objs.size X.env = ce at I4 pg pt pe
  have cL : ce.locals = s3.heap.objs.size := by subst hce; rfl
  generalize hs4 : ({ s3 with heap := pushCells (s3.heap.push { cls := .type "dict", data := .dict #[] }) scope.names } : Shared) = s4 at I4
  have st4 : tn 0 s4.heap := T.keep _ _ _ st3 fun b _ o e => by rw [← hs4]; exact pushCells_keeps _ _ _ _ (Heap.get?_push_of_some _ e)
  have stat : ∀ {σ' : L2.St} {H' : Hp} {s' : Shared}, Inv (X.blk s3 H3 scope ce fp) [] σ' H' s' → (∀ b ∈ fp, H' b = none) → ∀ b ∈ fp, FpOk (X.blk s3 H3 scope ce fp) [] H' b := fun {σ' H' s'} I' hn b hb =>
    ⟨hn b hb, (I'.ok.exf b hb).1, I'.ok.exfs b hb, .inl hb, fun x c e => (I'.ok.exf b hb).2 x c e, fun p hp => absurd (show p ∈ ([] : List (Addr × Obj)) ++ [] from hp) (by simp)⟩
  have main : ∀ R : Result → Shared → Prop, R = compPost (model X.prog X.w) X.A X.xe none (EP X pins σ Q) (.ref D) s3.heap.objs.size → codeAny (model X.prog X.w) X.A (.compStart (.SetComp elt [⟨tg, iter, ifs, 0⟩] scope pos) 0 (.ref it) (.ref D) ce) R s4 := fun R hR => by
    have back : ∀ s' m H', Inv X pins σ H' s' → Q (.ref D) H' → s'.heap.Ns s3.heap.objs.size m → FpOk X pins H' s3.heap.objs.size → R (.ok .next) s' := fun s' m H' I' q hn f => by
      rw [hR]
      refine ⟨m, hn, fun h'' sb => ?_⟩
      obtain ⟨f0, f1, f2, f3, f4, f5⟩ := f
      exact ⟨.ref D, H', I'.turned (t' := s'.toks) (fun b o hb e => (sb.2 b hb).trans e) f0 f1 f3 f4 f5, rfl, q⟩
    have loop : codeAny (model X.prog X.w) X.A (.compLoop (.SetComp elt [⟨tg, iter, ifs, 0⟩] scope pos) 0 (.ref it) (.ref D) ce) R s4 := by
      refine compLoopS_any (fun n s' => ∃ i H', Inv (X.blk s3 H3 scope ce fp) [] (wipe σ (own.map (·.2))) H' s' ∧ tn i s'.heap ∧ (∀ b ∈ fp, H' b = none) ∧ W i n H') ?_ m0 ⟨0, H3, I4, st4, fun b hb => (f3 b hb).1.1, w0⟩
      rintro n s5 ⟨i, H5, I5, st5, n5, w5⟩
      rcases turn i n H5 w5 with ⟨stop, qq⟩ | ⟨go, Nx, hNx, step⟩
      · refine thnF (T.done (X.blk s3 H3 scope ce fp) rfl rfl rfl hc i [] s5 _ H5 (fun _ _ => False) I5 (stat I5 n5) st5 stop) fun r s6 ⟨hr, I6⟩ => ?_
        subst hr
        have I7 : Inv X pins σ H5 s6 := I3.call' (ch := fp) I6.os I6.base I6.hok I6.bare fun b hb => ⟨(f3 b hb).1.2.2.2.1, (f3 b hb).1.2.1, (f3 b hb).1.2.2.2.2.1, (f3 b hb).1.2.2.2.2.2⟩
        have nC : H5 s3.heap.objs.size = none := by
          have z : H5 ce.locals = none := I6.free
          rwa [cL] at z
        obtain ⟨m, hn, _⟩ := I6.loc
        have hn : s6.heap.Ns ce.locals m := hn
        rw [cL] at hn
        exact back s6 m H5 I7 qq hn (I3.fpOk (Nat.le_refl _) nC)
      · refine thnF (T.item (X.blk s3 H3 scope ce fp) rfl rfl rfl hc i [] s5 _ H5 (fun _ _ => False) I5 (stat I5 n5) st5 go) fun r s6 ⟨u, hr, h6⟩ => ?_
        subst hr
        refine thnF h6 fun _ s7 ⟨x, H7, I7, r7, y7, st7, n7⟩ => ?_
        refine thnF (pg.run _ s7 _ H7 x u _ (I7.pinned (stat I7 n7) (T.obj _ _ st7)) r7 (step x H7 y7)) fun _ s8 ⟨σ8, H8, I8, hw8, q8⟩ => ?_
        refine thnF (pt.run _ s8 σ8 H8 _ I8 q8) fun b s9 ⟨H9, I9, q9⟩ => ?_
        have fin : ∀ {s' : Shared} {H' : Hp}, Inv (X.blk s3 H3 scope ce fp) ([] ++ pinsAt fp s7.heap) σ8 H' s' → Nx H' → ∃ m, m < n ∧ ∃ i H', Inv (X.blk s3 H3 scope ce fp) [] (wipe σ (own.map (·.2))) H' s' ∧ tn i s'.heap ∧ (∀ b ∈ fp, H' b = none) ∧ W i m H' := fun {s' H'} I' nx => by
          obtain ⟨m', hm, w'⟩ := hNx H' nx
          have pin' : ∀ b ∈ fp, ∀ o, s7.heap.get? b = some o → s'.heap.get? b = some o ∧ H' b = none := fun b hb o e =>
            let z := I'.pin (b, o) (List.mem_append_right _ (List.mem_append_right _ (mem_pinsAt hb e)))
            ⟨z.1, z.2.1⟩
          refine ⟨m', hm, i + 1, H', (I'.unpinned (pins := [])).weak (by rw [← hw8, wipe_length]) (fun j v e => ?_), T.keep _ _ _ st7 fun b hb o e => (pin' b hb o e).1, fun b hb => ?_, w'⟩
          · rw [← hw8] at e
            exact (wipe_some e).1
          · obtain ⟨o, e, _⟩ := T.obj _ _ st7 b hb
            exact (pin' b hb o e).2
        cases b with
        | false =>
          simp only [Bool.false_eq_true, if_false] at q9 ⊢
          exact fin I9 q9
        | true =>
          simp only [if_true] at q9 ⊢
          refine thnF (pe.run _ s9 σ8 H9 _ I9 q9) fun z s10 ⟨yv, H10, I10, r10, k, S0, n0, ey, hD10, hz10, nx⟩ => ?_
          subst ey
          exact addK_ok (X := X.blk s3 H3 scope ce fp) I10 hD10 r10 hz10 fun s11 I11 => fin I11 nx
    exact codeAny_compStart_set loop (T.self X.A 0 _ _ _ st4 loop)
  have z := main _ rfl
  rw [← hce] at z
  exact z
end
end LR

/-! ### set tables laid anew, of 8, 16 or 32 slots (own work over the kit's runs) -/
namespace LR
open PySem PySem.Spec PyProof.Rows L2 Evl
def MOk (m : Nat) : Prop := m = 7 ∨ m = 15 ∨ m = 31
theorem lcg15 : ((List.range 16).all fun i => (List.range 16).all fun j => (List.range 16).any fun k => lcgI 15 i k == j) = true := by decide +kernel
theorem mok_all {m : Nat} (hm : MOk m) {i j : Nat} (hi : i ≤ m) (hj : j ≤ m) : ∃ k, k ≤ m ∧ lcgI m i k = j := by
  rcases hm with rfl | rfl | rfl
  · exact lcgI_all (.inl rfl) hi hj
  · have h := List.all_eq_true.mp (List.all_eq_true.mp lcg15 i (List.mem_range.mpr (by omega))) j (List.mem_range.mpr (by omega))
    obtain ⟨k, hk, e⟩ := List.any_eq_true.mp h
    exact ⟨k, by have := List.mem_range.mp hk; omega, beq_iff_eq.mp e⟩
  · exact lcgI_all (.inr (.inl rfl)) hi hj
/-- a free slot is found -/
theorem free_any {m : Nat} (hm : MOk m) (owner : Array (Option Nat)) (h : Int) {j : Nat} (hj : j ≤ m) (hf : oAt owner j = none) :
    ∃ q, SetTable.layClean.free m owner (SetTable.turns m) (SetTable.bits h % (m + 1)) (SetTable.bits h) = some q ∧ q ≤ m ∧ oAt owner q = none := by
  obtain ⟨c, hc, ec⟩ := mok_all hm (runI_le m (SetTable.bits h) 12) hj
  have e : runI m (SetTable.bits h) (12 + c) = j := by
    rw [runI_tail (bits_lt h)]
    exact ec
  have hw : way m h (off m (SetTable.bits h % (m + 1)) (SetTable.bits h) (12 + c)) = j := by
    show (nth m (runAt m (SetTable.bits h % (m + 1)) (SetTable.bits h)) (off m (SetTable.bits h % (m + 1)) (SetTable.bits h) (12 + c))).j = j
    rw [nth_off, itL_run]
    exact e
  obtain ⟨q, k1, k2, k3⟩ := st_least (p := fun k => oAt owner (way m h k) = none) _ (show oAt owner (way m h (off m (SetTable.bits h % (m + 1)) (SetTable.bits h) (12 + c))) = none by rw [hw]; exact hf)
  refine ⟨way m h q, free_spec m owner (SetTable.turns m) (12 + c) _ _ q (by unfold SetTable.turns; omega) k1 (fun k hk => ?_) ?_, ?_, k2⟩
  · have y := k3 k hk
    cases z : oAt owner (nth m (runAt m (SetTable.bits h % (m + 1)) (SetTable.bits h)) k).j with
    | none => exact absurd z y
    | some _ => rfl
  · have y : oAt owner (nth m (runAt m (SetTable.bits h % (m + 1)) (SetTable.bits h)) q).j = none := k2
    rw [y] <;> rfl
  · have hi : SetTable.bits h % (m + 1) ≤ m := Nat.le_of_lt_succ (Nat.mod_lt _ (Nat.succ_pos _))
    have r := runEnd_bd hi
    have y := nth_in (m := m) q (runAt m (SetTable.bits h % (m + 1)) (SetTable.bits h)) (by
      show SetTable.bits h % (m + 1) + (SetTable.runEnd m (SetTable.bits h % (m + 1)) - SetTable.bits h % (m + 1)) ≤ m
      omega)
    show (nth m (runAt m (SetTable.bits h % (m + 1)) (SetTable.bits h)) q).j ≤ m
    omega
/-- n have been laid -/
structure Lay (m n : Nat) (owner : Array (Option Nat)) : Prop where
  sz : owner.size = m + 1
  all : ∀ k, k < n → ∃ j, j ≤ m ∧ oAt owner j = some k
  ps : ∃ ps : List Nat, ps.length = n ∧ ∀ j, j ≤ m → oAt owner j ≠ none → j ∈ ps
theorem Lay.init (m : Nat) : Lay m 0 (Array.replicate (m + 1) none) := ⟨by simp, fun k hk => absurd hk (Nat.not_lt_zero _), [], rfl, fun j hj e => absurd (oAt_init hj) e⟩
theorem Lay.step {m n : Nat} (hm : MOk m) {owner : Array (Option Nat)} (W : Lay m n owner) (hl : n ≤ m) (h : Int) :
    ∃ j, SetTable.layClean.free m owner (SetTable.turns m) (SetTable.bits h % (m + 1)) (SetTable.bits h) = some j ∧ Lay m (n + 1) (owner.setIfInBounds j (some n)) := by
  obtain ⟨ps, hps, hin⟩ := W.ps
  obtain ⟨j0, h0, hn0⟩ := st_missing ps (m + 1) (by omega)
  have hj0 : oAt owner j0 = none := by
    cases z : oAt owner j0 with
    | none => rfl
    | some k => exact absurd (hin j0 (Nat.le_of_lt_succ h0) (by rw [z]; exact fun e => nomatch e)) hn0
  obtain ⟨q, e1, e2, e3⟩ := free_any hm owner h (Nat.le_of_lt_succ h0) hj0
  have hq : q < owner.size := by rw [W.sz]; omega
  refine ⟨q, e1, by rw [Array.size_setIfInBounds]; exact W.sz, fun k hk => ?_, q :: ps, by rw [List.length_cons, hps], fun j hj e => ?_⟩
  · by_cases c : k < n
    · obtain ⟨j, hj, e⟩ := W.all k c
      refine ⟨j, hj, ?_⟩
      rw [oAt_set_ne _ (fun z => by rw [z, e3] at e; cases e)]
      exact e
    · obtain rfl : k = n := by omega
      exact ⟨q, e2, oAt_set_self _ hq⟩
  · by_cases c : j = q
    · rw [c]
      exact List.mem_cons_self
    · rw [oAt_set_ne _ c] at e
      exact List.mem_cons_of_mem _ (hin j hj e)
theorem lay_fold {m : Nat} (hm : MOk m) : ∀ (rest : List Int) (n : Nat) (owner : Array (Option Nat)), Lay m n owner → n + rest.length ≤ m → ∃ owner' n', rest.foldl (stepF m) (some (owner, n)) = some (owner', n') ∧ Lay m (n + rest.length) owner'
  | [], n, owner, W, _ => ⟨owner, n, rfl, W⟩
  | h :: rest, n, owner, W, hl => by
    rw [List.length_cons] at hl
    obtain ⟨j, e, W'⟩ := W.step hm (by omega) h
    obtain ⟨owner', n', f, W2⟩ := lay_fold hm rest (n + 1) _ W' (by omega)
    refine ⟨owner', n', ?_, by rw [List.length_cons, show n + (rest.length + 1) = n + 1 + rest.length by omega]; exact W2⟩
    rw [List.foldl_cons, stepF_some e]
    exact f
theorem lay_clean {m : Nat} (hm : MOk m) {hs : Array Int} (hn : hs.size ≤ m) : ∃ owner, SetTable.layClean m hs = some owner ∧ Lay m hs.size owner := by
  obtain ⟨owner, n', f, W⟩ := lay_fold hm hs.toList 0 _ (Lay.init m) (by rw [Array.length_toList]; omega)
  refine ⟨owner, ?_, by rw [Array.length_toList, Nat.zero_add] at W; exact W⟩
  rw [layClean_eq, f] <;> rfl
/-- a table laid anew -/
theorem laid_any {m finger moves : Nat} {led plain : Bool} {hs : Array Int} (hm : MOk m) (hn : hs.size ≤ m) :
    ∃ t order, SetTable.laid m finger moves led plain hs = some (t, order) ∧ order.toList.Perm (List.range hs.size) ∧ Ris t.place.toList ∧ t.place.size = hs.size ∧ t.mask = m ∧ t.led = led ∧ t.dummies = #[] := by
  obtain ⟨owner, e, W⟩ := lay_clean hm hn
  have ris := ris_live (fun j => owner.getD j none) (List.range (m + 1)) (by
    unfold Ris
    first | exact List.pairwise_lt_range | exact List.pairwise_lt_range _)
  have r1 : Ris ((liveOf m owner).map (·.1)) := ris.1
  have nd : ((liveOf m owner).map (·.1)).Nodup := List.Pairwise.imp (fun h => Nat.ne_of_lt h) r1
  have hlen : (liveOf m owner).length = hs.size := by
    obtain ⟨ps, p1, p2⟩ := W.ps
    have a := nat_nodup_len ((liveOf m owner).map (·.1)) ps nd fun x hx => by
      obtain ⟨⟨y, k⟩, hq, rfl⟩ := List.mem_map.mp hx
      obtain ⟨b1, b2⟩ := (mem_live W.sz).1 hq
      exact p2 y b1 (by rw [b2]; exact fun z => nomatch z)
    have b := nat_nodup_len (List.range hs.size) ((liveOf m owner).map (·.2)) List.nodup_range fun k hk => by
      obtain ⟨j, b1, b2⟩ := W.all k (List.mem_range.mp hk)
      exact List.mem_map.mpr ⟨(j, k), (mem_live W.sz).2 ⟨b1, b2⟩, rfl⟩
    rw [List.length_map, p1] at a
    rw [List.length_map, List.length_range] at b
    omega
  refine ⟨_, ((liveOf m owner).map (·.2)).toArray, by unfold SetTable.laid; rw [e]; rfl, ?_, r1, by rw [List.size_toArray, List.length_map]; exact hlen, rfl, rfl, rfl⟩
  refine perm_range hs.size _ (by rw [List.length_map]; exact hlen) fun k hk => ?_
  obtain ⟨j, b1, b2⟩ := W.all k hk
  exact List.mem_map.mpr ⟨(j, k), (mem_live W.sz).2 ⟨b1, b2⟩, rfl⟩
/-- the rows in a table's order -/
theorem rows_any {α : Type} (es : Array α) (order : Array Nat) (hp : order.toList.Perm (List.range es.size)) : (order.filterMap (es[·]?)).toList.Perm es.toList := by
  have e1 : (order.filterMap (es[·]?)).toList = order.toList.filterMap fun i => es[i]? := by
    first | rw [Array.toList_filterMap] | simp
  rw [e1]
  refine (hp.filterMap _).trans (List.Perm.of_eq ?_)
  have key : ∀ n, n ≤ es.toList.length → (List.range n).filterMap (fun i => es[i]?) = es.toList.take n := by
    intro n
    induction n with
    | zero => intro _; rfl
    | succ n ih =>
      intro hn
      have g : es[n]? = some es.toList[n] := by rw [← Array.getElem?_toList]; exact List.getElem?_eq_getElem hn
      rw [List.range_succ, List.filterMap_append, ih (Nat.le_of_lt hn), List.take_succ, List.getElem?_eq_getElem hn, List.filterMap_cons_some g] <;> rfl
  have z := key es.toList.length (Nat.le_refl _)
  rw [List.take_length] at z
  exact z
theorem size_tab : ((List.range 32).all fun n => (SetTable.sizeAbove n == 8 || (SetTable.sizeAbove n == 16 || SetTable.sizeAbove n == 32)) && decide (n < SetTable.sizeAbove n)) = true := by decide +kernel
theorem size_mok {n : Nat} (h : n < 32) : MOk (SetTable.sizeAbove n - 1) ∧ n ≤ SetTable.sizeAbove n - 1 ∧ SetTable.sizeAbove n ≤ 32 := by
  obtain ⟨a, b⟩ := He.ba (List.all_eq_true.mp size_tab n (List.mem_range.mpr h))
  have b := of_decide_eq_true b
  rw [Bool.or_eq_true, Bool.or_eq_true, beq_iff_eq, beq_iff_eq, beq_iff_eq] at a
  refine ⟨?_, by omega, by omega⟩
  rcases a with a | a | a <;> rw [a]
  · exact .inl rfl
  · exact .inr (.inl rfl)
  · exact .inr (.inr rfl)
end LR

/-! ### a set put into another (own work) -/
namespace LR
open PySem PySem.Spec PyProof.Rows L2 Evl
/-- the set at a, its table as well -/
def KTab (P : Program) (w : World) (h : Heap) (a : Addr) (S : Key → Bool) (n m : Nat) : Prop :=
  ∃ ob rows ep tb, h.get? a = some ob ∧ ob.ExactSet ∧ ob.data = .set rows ep tb ∧ (∀ r ∈ rows.toList, RowOk P w r) ∧ (rows.toList.map keyE).Nodup ∧ (∀ k, S k = true ↔ k ∈ rows.toList.map keyE) ∧
    rows.size < scanBound ∧ tb.fits rows.size = true ∧ rows.size = n ∧ Ris tb.place.toList ∧ (w.params.followText "set-order" = true ∨ tb.led = true) ∧ tb.mask = m ∧ tb.dummies = #[]
section
variable {P : Program} {w : World} {A : Around} {E : Value → Shared → Prop} {s : Shared} {a o : Addr} {S S2 : Key → Bool} {n n2 m : Nat}
theorem KTab.set {h : Heap} (R : KTab P w h a S n m) : KSet P w h a S n := by
  obtain ⟨ob, rows, ep, tb, h1, h2, h3, h4, h5, h6, h7, h8, h9, h10, h11, _⟩ := R
  exact ⟨ob, rows, ep, tb, h1, h2, h3, h4, h5, h6, h7, h8, h9, h10, h11⟩
theorem KTab.at {h h' : Heap} (R : KTab P w h a S n m) (k : ∀ ob, h.get? a = some ob → h'.get? a = some ob) : KTab P w h' a S n m := by
  obtain ⟨ob, rows, ep, tb, ho, r⟩ := R
  exact ⟨ob, rows, ep, tb, k ob ho, r⟩
theorem ktab_fresh {h : Heap} (ho : h.get? a = some { cls := .type "set", dict := none, data := .set #[] 0 (.fresh 0 0 (!w.params.followText "set-order")) }) : KTab P w h a (fun _ => false) 0 7 :=
  ⟨_, #[], 0, _, ho, ⟨rfl, rfl, rfl⟩, rfl, (fun r hr => by simp at hr), by simp, (fun k => by simp), by decide, by rfl, rfl, List.Pairwise.nil, (by
    cases w.params.followText "set-order" with
    | true => exact .inl rfl
    | false => exact .inr rfl), rfl, rfl⟩
theorem fits_tab {t : SetTable} {k : Nat} (h1 : t.place.size = k) (h2 : t.dummies = #[]) (h3 : k ≤ t.mask) : t.fits k = true := by
  unfold SetTable.fits SetTable.fill
  rw [h2, Bool.and_eq_true, beq_iff_eq, decide_eq_true_eq]
  show t.place.size = k ∧ t.place.size + 0 ≤ t.mask
  omega
theorem kt_relay {wanted : Nat} {Q : Unit → Shared → Prop} (R : KTab P w s.heap a S n m) (hw : wanted < 32) (hn : n ≤ wanted)
    (hQ : ∀ h', Heap.SameBut a s.heap h' → KTab P w h' a S n (SetTable.sizeAbove wanted - 1) → Q () { s with heap := h' }) : wpAny (model P w) A (setRelay a wanted) Q E s := by
  obtain ⟨ob, rows, ep, tb, ho, hex, hd, g, nd, hm, hb, hf, rfl, hr, hl, hmk, hdm⟩ := R
  obtain ⟨mk, z1, z2⟩ := size_mok hw
  obtain ⟨t', order, e, hp, t1, t2, t3, t4, t5⟩ := laid_any (finger := tb.finger) (moves := tb.movedTo (SetTable.sizeAbove wanted - 1)) (led := tb.led) (plain := tb.plain) (hs := rows.map (·.1)) mk (by rw [Array.size_map]; omega)
  rw [Array.size_map] at hp t2
  have pm := rows_any rows order hp
  have hs2 : (order.filterMap (rows[·]?)).size = rows.size := by
    have y := pm.length_eq
    rwa [Array.length_toList, Array.length_toList] at y
  rw [setRelay_eq]
  refine wpAny_bind (wpAny_setState_of ho hd hf ?_)
  dsimp only
  refine wp_if_neg (by rw [sizeLine_eq]; omega) ?_
  try refine wpAny_bind (wpAny_pure ?_)
  rw [show tb.relaid (rows.map (·.1)) wanted = some (t', order) from e]
  dsimp only
  refine wpAny_bind ?_
  refine wp_if_neg (by rw [hs2]; simp) ?_
  try refine wpAny_bind (wpAny_pure ?_)
  refine wpAny_pure ?_
  dsimp only
  refine wpAny_storeSet_of ho hd ?_ (by rw [hs2]; exact fits_of_scanBound hb)
  refine hQ _ (Heap.SameBut.update ..) ⟨_, _, _, t', store_at ho hd, hex, rfl, fun r hr => g r (pm.mem_iff.mp hr), (pm.map keyE).nodup_iff.mpr nd, fun k => (hm k).trans (pm.map keyE).mem_iff.symm, by rw [hs2]; exact hb, fits_tab (by rw [t2, hs2]) t5 (by rw [hs2, t3]; omega), hs2, t1, ?_, t3, t5⟩
  rw [t4]
  exact hl
theorem kt_room {more : Nat} {Q : Unit → Shared → Prop} (R : KTab P w s.heap a S n m) (hm : MOk m) (hw : (n + more) * 2 < 32)
    (hQ : ∀ h' m', Heap.SameBut a s.heap h' → MOk m' → n + more ≤ m' → KTab P w h' a S n m' → Q () { s with heap := h' }) : wpAny (model P w) A (setRoomFor a more) Q E s := by
  have R' := R
  obtain ⟨ob, rows, ep, tb, ho, hex, hd, g, nd, hk, hb, hf, rfl, hr, hl, hmk, hdm⟩ := R
  have pl : tb.place.size = rows.size := by
    unfold SetTable.fits at hf
    exact beq_iff_eq.mp (He.ba hf).1
  unfold setRoomFor
  refine wpAny_bind (wpAny_setState_of ho hd hf ?_)
  dsimp only
  unfold SetTable.roomFor SetTable.fill
  rw [pl, hdm, hmk]
  by_cases c : (rows.size + (#[] : Array Nat).size + more) * 5 ≥ m * 3
  · rw [if_pos c]
    dsimp only
    obtain ⟨z0, z1, z2⟩ := size_mok hw
    exact kt_relay R' hw (by omega) fun h' sb r => hQ h' _ sb z0 (by omega) r
  · rw [if_neg c]
    dsimp only
    have c : ¬ (rows.size + 0 + more) * 5 ≥ m * 3 := c
    exact wpAny_pure (hQ s.heap m (Heap.SameBut.refl a s.heap) hm (by omega) R')
theorem setMerge_eq (s o : Addr) (each : Sem Unit) : setMerge s o each = (do
    if s == o then return
    let (eo, epoch, to) ← setState o
    if eo.isEmpty then return
    setRoomFor s eo.size
    let (_, _, ts) ← setState s
    match ts.road to with
    | .slotForSlot => storeSet s eo { to with finger := ts.finger, led := ts.led && to.led, moves := ts.moves, plain := ts.plain && to.plain }
    | .clean =>
      let (es, t) ← (do
        let some (t, order) := SetTable.laid ts.mask ts.finger ts.moves (led := ts.led && to.led) (plain := ts.plain && to.plain) (eo.map (·.1)) | unsupported "internal:set-table-without-room"
        let es' := order.filterMap (eo[·]?)
        if es'.size != eo.size then unsupported "internal:set-table-lost-an-element"
        pure (es', t) : Sem (Array (Int × Value) × SetTable))
      storeSet s es t
    | .oneByOne =>
      for (h, x) in ← setWalkUnseen o [s] (some s) do
        let _ ← holding [x] (setAddHashed s x h)
        each
        if (← setState o).2.1 != epoch then unsupported "set.changed-during-merge") := by rfl
end
end LR

/-! ### a set walked where nobody sees it; a set put into another (own work) -/
namespace LR
open PySem PySem.Spec PyProof.Rows L2 Evl
/-- the set at a with its rows -/
structure KAt (P : Program) (w : World) (h : Heap) (a : Addr) (rows : Array (Int × Value)) (ep : Nat) (tb : SetTable) : Prop where
  at_ : ∃ ob, h.get? a = some ob ∧ ob.ExactSet ∧ ob.data = .set rows ep tb
  g : ∀ r ∈ rows.toList, RowOk P w r
  fits : tb.fits rows.size = true
  led : w.params.followText "set-order" = true ∨ tb.led = true
section
variable {P : Program} {w : World} {A : Around} {E : Value → Shared → Prop} {s : Shared} {a o r : Addr} {S S2 : Key → Bool} {n n2 m : Nat} {rows ro rr : Array (Int × Value)} {ep er : Nat} {tb tr : SetTable}
theorem KAt.keep {h h' : Heap} (O : KAt P w h a rows ep tb) (k : ∀ ob, h.get? a = some ob → h'.get? a = some ob) : KAt P w h' a rows ep tb := by
  obtain ⟨ob, h1, h2⟩ := O.at_
  exact ⟨⟨ob, k _ h1, h2⟩, O.g, O.fits, O.led⟩
theorem row_noref {x : Int × Value} (g : RowOk P w x) : ∀ b, x.2 ≠ .ref b := fun b e => by
  obtain ⟨k, h1, _⟩ := g
  rw [e] at h1
  cases k with
  | inl i =>
    obtain ⟨t, h⟩ := (show ∃ t, Value.ref b = Value.int i t from h1)
    cases h
  | inr i =>
    obtain ⟨t, h⟩ := (show ∃ t, Value.ref b = Value.str i t from h1)
    cases h
theorem quiet_sets {Q : Bool → Shared → Prop} (hQ : Q true s) : ∀ l : List Addr, (∀ a ∈ l, ∃ rows ep tb, KAt P w s.heap a rows ep tb) → wpAny (model P w) A (setsQuiet l) Q E s := fun l hl => by
  unfold setsQuiet
  refine wpAny_bind (wpAny_forIn_list _ (fun rest b s' => b.1 = none ∧ s' = s ∧ ∀ a ∈ rest, a ∈ l) _ ?_ ?_ l _ ⟨rfl, rfl, fun _ h => h⟩)
  · rintro x rest ⟨b1, b2⟩ s' ⟨hb, rfl, hin⟩
    obtain ⟨rows, ep, tb, O⟩ := hl x (hin x List.mem_cons_self)
    obtain ⟨ob, ho, hex, hd⟩ := O.at_
    refine wpAny_bind (wpAny_setEntries_of ho hd O.fits ?_)
    refine wpAny_bind (MeetsSeq2.wpAny_forIn_array _ (fun rest b s'' => b.1 = none ∧ s'' = s' ∧ ∀ y ∈ rest, y ∈ rows.toList) _ ?_ ?_ rows _ ⟨rfl, rfl, fun _ h => h⟩)
    · rintro ⟨hh, y⟩ rest2 ⟨c1, c2⟩ s2 ⟨hc, rfl, hin2⟩
      have nr := row_noref (O.g _ (hin2 _ List.mem_cons_self))
      dsimp only
      cases y <;> first
        | exact wpAny_pure ⟨rfl, rfl, fun y hy => hin2 y (List.mem_cons_of_mem _ hy)⟩
        | exact absurd rfl (nr _)
    · rintro ⟨c1, c2⟩ s2 ⟨hc, rfl, _⟩
      cases hc
      exact wpAny_pure ⟨rfl, rfl, fun a ha => hin a (List.mem_cons_of_mem _ ha)⟩
  · rintro ⟨b1, b2⟩ s' ⟨hb, rfl, _⟩
    cases hb
    exact wpAny_pure hQ
theorem setWalk_eq (a : Addr) : setWalk a = (do
    let (es, epoch, t) ← setState a
    if ← setsByText then return pickOrder ((← ask).params.setOrder a epoch) es
    if !t.plain && es.size > 1 then return (← drawOrder es.size es.toList).toArray
    (do if !t.led && es.size > 1 then unsupported "set:maker-not-led" : Sem Unit)
    return es) := by rfl
theorem walk_set {Q : Array (Int × Value) → Shared → Prop} (O : KAt P w s.heap a rows ep tb) (hQ : ∀ ys d, ys.toList.Perm rows.toList → Q ys { s with drawn := d }) : wpAny (model P w) A (setWalk a) Q E s := by
  obtain ⟨ob, ho, hex, hd⟩ := O.at_
  rw [setWalk_eq]
  refine wpAny_bind (wpAny_setState_of ho hd O.fits ?_)
  dsimp only
  refine wpAny_bind (wpAny_byText ?_)
  by_cases c : w.params.followText "set-order" = true
  · refine wp_if_pos c ?_
    exact wpAny_bind (wpAny_askSetting (wpAny_pure (hQ _ s.drawn (pick_perm _ _))))
  · refine wp_if_neg c ?_
    have hl : tb.led = true := O.led.resolve_left c
    by_cases c2 : (!tb.plain && decide (rows.size > 1)) = true
    · refine wp_if_pos c2 ?_
      exact wpAny_bind (drawOrder_at _ _ _ _ (by rw [Array.length_toList]; exact Nat.le_refl _) fun ys d q => wpAny_pure (hQ _ d q))
    · refine wp_if_neg c2 ?_
      refine wpAny_bind (wp_if_neg (by rw [hl]; simp) (wpAny_pure ?_))
      exact wpAny_pure (hQ _ s.drawn (List.Perm.refl _))
theorem walkUnseen_eq (a : Addr) (others : List Addr) (f : Addr) : setWalkUnseen a others (some f) = (do
    let (es, _, t) ← setState a
    let byText ← setsByText
    if byText || (t.led && t.plain) || es.size ≤ 1 then return ← setWalk a
    if !(← setsQuiet (a :: others)) then return ← setWalk a
    rule "set.walk.of-a-marked-set-that-nobody-sees"
    let (ef, _, tf) ← setState f
    if (tf.led && !t.led) || (tf.plain && !t.plain) then storeSet f ef { tf with led := tf.led && t.led, plain := tf.plain && t.plain }
    return es) := by rfl
theorem walk_unseen {Q : Array (Int × Value) → Shared → Prop} (O : KAt P w s.heap o rows ep tb) (R : KSet P w s.heap r S n)
    (hQ : ∀ ys h' d, ys.toList.Perm rows.toList → Heap.SameBut r s.heap h' → KSet P w h' r S n → Q ys { s with heap := h', drawn := d }) : wpAny (model P w) A (setWalkUnseen o [r] (some r)) Q E s := by
  obtain ⟨ob, ho, hex, hd⟩ := O.at_
  have R' := R
  obtain ⟨ob2, rows2, ep2, tb2, ho2, hex2, hd2, g2, nd2, hm2, hb2, hf2, hn2, hr2, hl2⟩ := R
  rw [walkUnseen_eq]
  refine wpAny_bind (wpAny_setState_of ho hd O.fits ?_)
  dsimp only
  refine wpAny_bind (wpAny_byText ?_)
  by_cases c : (w.params.followText "set-order" || (tb.led && tb.plain) || decide (rows.size ≤ 1)) = true
  · refine wp_if_pos c ?_
    exact walk_set O fun ys d p => hQ ys s.heap d p (Heap.SameBut.refl _ _) R'
  · refine wp_if_neg c ?_
    refine wpAny_bind (quiet_sets ?_ _ ?_)
    · refine wp_if_neg (by simp) ?_
      refine wpAny_bind (wpAny_rule ?_)
      refine wpAny_bind (wpAny_setState_of ho2 hd2 hf2 ?_)
      dsimp only
      by_cases c2 : ((tb2.led && !tb.led) || (tb2.plain && !tb.plain)) = true
      · refine wp_if_pos c2 ?_
        refine wpAny_bind (wpAny_storeSet_of ho2 hd2 ?_ (fits_of_scanBound hb2))
        refine wpAny_pure (hQ _ _ s.drawn (List.Perm.refl _) (Heap.SameBut.update ..) ⟨_, _, _, _, store_at ho2 hd2, hex2, rfl, g2, nd2, hm2, hb2, hf2, hn2, hr2, ?_⟩)
        rcases hl2 with z | z
        · exact .inl z
        · rcases O.led with y | y
          · exact .inl y
          · exact .inr (by show (tb2.led && tb.led) = true; rw [z, y]; rfl)
      · refine wp_if_neg c2 ?_
        exact wpAny_pure (hQ _ s.heap s.drawn (List.Perm.refl _) (Heap.SameBut.refl _ _) R')
    · intro b hb
      rcases List.mem_cons.mp hb with rfl | hb
      · exact ⟨rows, ep, tb, O⟩
      · obtain rfl := List.mem_singleton.mp hb
        exact ⟨rows2, ep2, tb2, ⟨ob2, ho2, hex2, hd2⟩, g2, hf2, hl2⟩
end
end LR

/-! ### a set put into another (own work) -/
namespace LR
open PySem PySem.Spec PyProof.Rows L2 Evl
section
variable {P : Program} {w : World} {A : Around} {E : Value → Shared → Prop} {s : Shared} {o r : Addr} {S S2 : Key → Bool} {n m : Nat} {rows : Array (Int × Value)} {ep : Nat} {tb : SetTable}
/-- both sets' keys -/
abbrev orK (S S2 : Key → Bool) : Key → Bool := fun k => S k || S2 k
theorem kset_merge {each : Sem Unit} {Q : Unit → Shared → Prop} (R : KTab P w s.heap r S n m) (hm : MOk m) (O : KAt P w s.heap o rows ep tb) (nd : (rows.toList.map keyE).Nodup) (hS : ∀ k, S2 k = true ↔ k ∈ rows.toList.map keyE) (hr : Ris tb.place.toList) (hne : r ≠ o) (hn : (n + rows.size) * 2 < 32)
    (he : ∀ (z : Shared) (Q' : Unit → Shared → Prop), KAt P w z.heap o rows ep tb → Q' () z → wpAny (model P w) A each Q' E z)
    (hQ : ∀ h' d n', Heap.SameBut r s.heap h' → n' ≤ n + rows.size → KSet P w h' r (orK S S2) n' → (n = 0 → ∃ m', MOk m' ∧ KTab P w h' r (orK S S2) n' m') → Q () { s with heap := h', drawn := d }) : wpAny (model P w) A (setMerge r o each) Q E s := by
  obtain ⟨ob, ho, hex, hd⟩ := O.at_
  rw [setMerge_eq]
  refine wp_if_neg (by simpa using hne) ?_
  refine wpAny_bind (wpAny_setState_of ho hd O.fits ?_)
  dsimp only
  by_cases c : rows.isEmpty = true
  · refine wp_if_pos c ?_
    have e : rows.toList = [] := by
      rw [Array.isEmpty_iff.mp c]
    have f : ∀ k, orK S S2 k = S k := fun k => by
      have : S2 k = false := by
        cases q : S2 k with
        | false => rfl
        | true =>
          have z := (hS k).mp q
          rw [e] at z
          cases z
      show (S k || S2 k) = S k
      rw [this, Bool.or_false]
    have R2 : KTab P w s.heap r (orK S S2) n m := by rw [show orK S S2 = S from funext f]; exact R
    exact wpAny_pure (hQ s.heap s.drawn n (Heap.SameBut.refl _ _) (by omega) R2.set fun _ => ⟨m, hm, R2⟩)
  · refine wp_if_neg c ?_
    refine wpAny_bind (kt_room R hm hn fun h1 m1 sb1 hm1 hle R1 => ?_)
    have O1 : KAt P w h1 o rows ep tb := O.keep fun ob h => by rw [sb1.2 o (Ne.symm hne)]; exact h
    have R1' := R1
    obtain ⟨ob1, rows1, ep1, tb1, ho1, hex1, hd1, g1, nd1, hk1, hb1, hf1, hn1, hr1, hl1, hmk1, hdm1⟩ := R1
    refine wpAny_bind (wpAny_setState_of (s := { s with heap := h1 }) ho1 hd1 hf1 ?_)
    dsimp only
    have pl1 : tb1.place.size = n := by
      unfold SetTable.fits at hf1
      rw [← hn1]
      exact beq_iff_eq.mp (He.ba hf1).1
    have pl : tb.place.size = rows.size := by
      have := O.fits
      unfold SetTable.fits at this
      exact beq_iff_eq.mp (He.ba this).1
    have led : w.params.followText "set-order" = true ∨ (tb1.led && tb.led) = true := by
      rcases hl1 with z | z
      · exact .inl z
      · rcases O.led with y | y
        · exact .inl y
        · exact .inr (by rw [z, y]; rfl)
    have sz : rows.size < scanBound := by
      have : (32 : Nat) ≤ scanBound := by decide
      omega
    have done : ∀ (rw2 : Array (Int × Value)) (t2 : SetTable), n = 0 → rw2.toList.Perm rows.toList → Ris t2.place.toList → t2.place.size = rows.size → t2.mask = m1 → (w.params.followText "set-order" = true ∨ t2.led = true) → t2.dummies = #[] → wpAny (model P w) A (storeSet r rw2 t2) Q E { s with heap := h1 } := fun rw2 t2 h0 pm a1 a2 a3 a4 a5 => by
      have hs2 : rw2.size = rows.size := by
        have y := pm.length_eq
        rwa [Array.length_toList, Array.length_toList] at y
      have T : KTab P w (h1.update r (Obj.putSet rw2 t2)) r (orK S S2) rows.size m1 := by
        refine ⟨_, _, _, t2, store_at ho1 hd1, hex1, rfl, fun x hx => O.g x (pm.mem_iff.mp hx), (pm.map keyE).nodup_iff.mpr nd, fun k => ?_, by rw [hs2]; exact sz, fits_tab (by rw [a2, hs2]) a5 (by rw [hs2, a3]; omega), hs2, a1, a4, a3, a5⟩
        have e0 : S k = false := by
          cases q : S k with
          | false => rfl
          | true =>
            have z := (hk1 k).mp q
            have : rows1.toList = [] := List.eq_nil_of_length_eq_zero (by rw [Array.length_toList]; omega)
            rw [this] at z
            cases z
        show (S k || S2 k) = true ↔ _
        rw [e0, Bool.false_or, hS k]
        exact (pm.map keyE).mem_iff.symm
      refine wpAny_storeSet_of (s := { s with heap := h1 }) ho1 hd1 ?_ (by rw [hs2]; exact fits_of_scanBound sz)
      exact hQ _ s.drawn _ (sb1.trans (Heap.SameBut.update ..)) (by omega) T.set fun _ => ⟨m1, hm1, T⟩
    unfold SetTable.road SetTable.fill
    rw [pl1, hdm1]
    by_cases c0 : n = 0
    · rw [if_neg (by rw [c0]; decide)]
      by_cases c1 : (tb1.mask == tb.mask && tb.dummies.isEmpty) = true
      · rw [if_pos c1]
        dsimp only
        obtain ⟨q1, q2⟩ := He.ba c1
        refine done rows _ c0 (List.Perm.refl _) hr pl ?_ led (Array.isEmpty_iff.mp q2)
        show tb.mask = m1
        rw [← beq_iff_eq.mp q1]
        exact hmk1
      · rw [if_neg c1]
        dsimp only
        obtain ⟨t', order, e, hp, t1, t2, t3, t4, t5⟩ := laid_any (finger := tb1.finger) (moves := tb1.moves) (led := tb1.led && tb.led) (plain := tb1.plain && tb.plain) (hs := rows.map (·.1)) (m := tb1.mask) (by rw [hmk1]; exact hm1) (by rw [Array.size_map, hmk1]; omega)
        rw [Array.size_map] at hp t2
        have pm := rows_any rows order hp
        have hs2 : (order.filterMap (rows[·]?)).size = rows.size := by
          have y := pm.length_eq
          rwa [Array.length_toList, Array.length_toList] at y
        rw [e]
        dsimp only
        refine wpAny_bind ?_
        refine wp_if_neg (by rw [hs2]; simp) ?_
        try refine wpAny_bind (wpAny_pure ?_)
        refine wpAny_pure ?_
        dsimp only
        exact done _ t' c0 pm t1 t2 (t3.trans hmk1) (by rw [t4]; exact led) t5
    · rw [if_pos (by
        show (n + 0 != 0) = true
        simp [c0])]
      dsimp only
      refine wpAny_bind (walk_unseen (s := { s with heap := h1 }) O1 R1'.set fun ys h2 d pm sb2 R2 => ?_)
      refine wpAny_bind (MeetsSeq2.wpAny_forIn_array _ (fun rest _ z => ∃ h3 dn n3, z = { s with heap := h3, drawn := d } ∧ dn ++ rest = ys.toList ∧ Heap.SameBut r s.heap h3 ∧ n3 ≤ n + dn.length ∧ KSet P w h3 r (orK S (inK (dn.map keyE))) n3) _ ?_ ?_ ys _ ⟨h2, [], n, rfl, rfl, sb1.trans sb2, Nat.le_refl _, R2.congr fun k => by show (S k || false) = S k; rw [Bool.or_false]⟩)
      · rintro ⟨hh, x⟩ rest b z ⟨h3, dn, n3, rfl, e3, sb3, l3, R3⟩
        have mem : (hh, x) ∈ rows.toList := pm.mem_iff.mp (by rw [← e3]; exact List.mem_append_right _ List.mem_cons_self)
        have len : dn.length + rest.length + 1 = rows.size := by
          have y := pm.length_eq
          rw [← e3, List.length_append, List.length_cons, Array.length_toList] at y
          omega
        obtain ⟨k, hk, eh⟩ := O.g _ mem
        have eh : hh = (mixKind P w).hash k := eh
        subst eh
        have hk : RelV (kV k) x := hk
        have room : n3 + 1 < scanBound := by
          have : (32 : Nat) ≤ scanBound := by decide
          omega
        dsimp only
        refine wpAny_bind (wpAny_holding (kset_add (s := { s with heap := h3, drawn := d }) hk R3 room fun h4 sb4 R4 => ?_))
        have sb5 := sb3.trans sb4
        have O4 : KAt P w h4 o rows ep tb := O.keep fun ob h => by rw [sb5.2 o (Ne.symm hne)]; exact h
        refine wpAny_bind (he { s with heap := h4, drawn := d } _ O4 ?_)
        obtain ⟨ob4, ho4, hex4, hd4⟩ := O4.at_
        refine wpAny_bind (wpAny_setState_of (s := { s with heap := h4, drawn := d }) ho4 hd4 O4.fits ?_)
        dsimp only
        refine wp_if_neg (by simp) ?_
        refine wpAny_pure ⟨h4, dn ++ [(_, x)], _, rfl, by rw [List.append_assoc]; exact e3, sb5, ?_, R4.congr fun j => ?_⟩
        · rw [List.length_append, List.length_singleton]
          split <;> omega
        · show (S j || inK ((dn ++ [(_, x)]).map keyE) j) = ((S j || inK (dn.map keyE) j) || decide (j = k))
          unfold inK
          rw [List.map_append, List.any_append, List.map_singleton, keyE_of (r := (_, x)) hk, Bool.or_assoc]
          simp
      · rintro b z ⟨h3, dn, n3, rfl, e3, sb3, l3, R3⟩
        rw [List.append_nil] at e3
        have len : dn.length = rows.size := by
          have y := pm.length_eq
          rw [← e3, Array.length_toList] at y
          exact y
        refine wpAny_pure (hQ h3 d n3 sb3 (by omega) (R3.congr fun k => ?_) fun h => absurd h c0)
        show (S k || S2 k) = (S k || inK (dn.map keyE) k)
        congr 1
        rw [Bool.eq_iff_iff, hS k, inK_iff, e3]
        exact (pm.map keyE).mem_iff.symm
end
end LR

/-! ### a | b of two sets (own work) -/
namespace LR
open PySem PySem.Spec PyProof.Rows L2 Evl PpSet Builtin
theorem entry_set_or : entryFor table "set.__or__" = some Builtin.«frozenset.__or__» :=
  entryFor_alias (id' := "frozenset.__or__") (by kernel_rfl) rfl (by decide +kernel) (by kernel_rfl)
theorem or_eq (a b : Addr) : Builtin.«frozenset.__or__» ⟨[.ref a, .ref b], []⟩ = (do
    let (self, other) ← Frozenset.slot1 "__or__" ⟨[.ref a, .ref b], []⟩
    if !(← Frozenset.isAnySet self <&&> Frozenset.isAnySet other) then
      rule s!"frozenset.__or__.declined"
      return ← ret .notImplemented
    ret (← (do
      let result ← Frozenset.copyOf (← Frozenset.addrOf self)
      if other != .ref (← Frozenset.addrOf self) then holding [result] (Frozenset.updateFrom s!"frozenset.__or__" (← Frozenset.addrOf result) other)
      return result : Sem Value))) := by
  unfold Builtin.«frozenset.__or__»
  rfl
section
variable {P : Program} {w : World} {A : Around} {E : Value → Shared → Prop} {s : Shared} {a b : Addr} {S S2 : Key → Bool} {n n2 : Nat}
theorem KSet.ty {z : Shared} (R : KSet P w z.heap a S n) : z.TypeIs (.ref a) "set" := by
  obtain ⟨ob, rows, ep, tb, ho, hex, _⟩ := R
  exact ⟨ob, ho, hex.1⟩
theorem KSet.parts {h : Heap} (R : KSet P w h a S n) : ∃ rows ep tb, KAt P w h a rows ep tb ∧ (rows.toList.map keyE).Nodup ∧ (∀ k, S k = true ↔ k ∈ rows.toList.map keyE) ∧ Ris tb.place.toList ∧ rows.size = n := by
  obtain ⟨ob, rows, ep, tb, ho, hex, hd, g, nd, hm, hb, hf, hn, hr, hl⟩ := R
  exact ⟨rows, ep, tb, ⟨⟨ob, ho, hex, hd⟩, g, hf, hl⟩, nd, hm, hr, hn⟩
theorem any_set {z : Shared} {Q : Bool → Shared → Prop} (h : z.TypeIs (.ref a) "set") (q : Q true z) : wpAny (model P w) A (Frozenset.isAnySet (.ref a)) Q E z := by
  unfold Frozenset.isAnySet
  exact wpAny_bind (wpAny_isInstance h sub_set_self (wpAny_pure q))
theorem kset_or {Q : Value → Shared → Prop} (R1 : KSet P w s.heap a S n) (R2 : KSet P w s.heap b S2 n2) (hab : a ≠ b) (hn : (n + n2) * 2 < 32)
    (hQ : ∀ h' d n', (∀ c ob, s.heap.get? c = some ob → h'.get? c = some ob) → KSet P w h' s.heap.objs.size (orK S S2) n' → Q (.ref s.heap.objs.size) { s with heap := h', drawn := d }) :
    wpAny (model P w) A (binaryOp .BitOr (.ref a) (.ref b)) Q E s := by
  refine wpAny_binaryOp_same (T := "set") (id := "set.__or__") R1.ty R2.ty F.fills_set_or F.slot_set_or (wpAny_call_entry F.slot_set_or R1.ty entry_set_or ?_ (F.args_set_or_2 _ _))
  rw [or_eq]
  unfold Frozenset.slot1
  refine wpAny_bind (wpAny_pure ?_)
  dsimp only
  refine wpAny_bind (wpAny_bind (any_set R1.ty ?_))
  refine any_set R2.ty ?_
  refine wp_if_neg (by simp) ?_
  refine wpAny_bind ?_
  unfold Frozenset.addrOf Frozenset.copyOf Frozenset.baseOf
  refine wpAny_bind (wpAny_pure ?_)
  refine wpAny_bind (wpAny_bind (wpAny_bind (wpAny_isInstance R1.ty sub_set_self ?_)))
  refine wpAny_pure ?_
  rw [if_pos rfl]
  refine wpAny_bind (newSet_ok ?_)
  generalize hr : s.heap.objs.size = r
  generalize hh0 : (s.heap.push { cls := .type "set", data := .set #[] 0 (.fresh 0 0 (!w.params.followText "set-order")) } : Heap) = h0
  have new : KTab P w h0 r (fun _ => false) 0 7 := ktab_fresh (by rw [← hh0, ← hr]; exact Heap.get?_push_size _ rfl)
  have kp0 : ∀ c ob, s.heap.get? c = some ob → h0.get? c = some ob := fun c ob e => by rw [← hh0]; exact Heap.get?_push_of_some _ e
  have ne : ∀ c ob, s.heap.get? c = some ob → c ≠ r := fun c ob e => by rw [← hr]; exact Nat.ne_of_lt (Heap.lt_size e)
  have na : r ≠ a := by
    obtain ⟨ob, _, _, _, ho, _⟩ := R1
    exact Ne.symm (ne a ob ho)
  have nb : r ≠ b := by
    obtain ⟨ob, _, _, _, ho, _⟩ := R2
    exact Ne.symm (ne b ob ho)
  obtain ⟨rows, ep, tb, O, nd, hm, hri, hsz⟩ := (R1.at (h' := h0) fun ob e => kp0 _ _ e).parts
  refine wpAny_bind (wpAny_pure ?_)
  refine wpAny_bind (kset_merge (s := { s with heap := h0 }) new (.inl rfl) O nd hm hri na (by omega) (fun z Q' _ q => wpAny_pure q) fun h1 d1 n1 sb1 l1 _ tab => ?_)
  obtain ⟨m1, mk1, T1⟩ := tab rfl
  have kp1 : ∀ c ob, s.heap.get? c = some ob → h1.get? c = some ob := fun c ob e => by rw [sb1.2 c (ne c ob e)]; exact kp0 c ob e
  refine wpAny_pure ?_
  refine wpAny_bind (wpAny_pure ?_)
  refine wp_if_pos (by simpa using Ne.symm hab) ?_
  refine wpAny_bind (wpAny_pure ?_)
  have R2' := R2.at (h' := h1) fun ob e => kp1 _ _ e
  obtain ⟨rows2, ep2, tb2, O2, nd2, hm2, hri2, hsz2⟩ := R2'.parts
  refine wpAny_bind (wpAny_holding ?_)
  unfold Frozenset.updateFrom Frozenset.merge
  refine wpAny_bind (any_set (z := { s with heap := h1, drawn := d1 }) R2'.ty ?_)
  refine wp_if_pos rfl ?_
  refine wpAny_bind (wpAny_pure ?_)
  obtain ⟨ob2, ho2, hex2, hd2⟩ := O2.at_
  refine wpAny_bind (wpAny_setEpoch_of (s := { s with heap := h1, drawn := d1 }) ho2 hd2 O2.fits ?_)
  refine kset_merge (s := { s with heap := h1, drawn := d1 }) T1 mk1 O2 nd2 hm2 hri2 nb (by omega) (fun z Q' Oz q => ?_) fun h2 d2 n2' sb2 l2 K2 _ => ?_
  · obtain ⟨obz, hoz, hexz, hdz⟩ := Oz.at_
    unfold Frozenset.unchanged
    refine wpAny_bind (wpAny_setEpoch_of hoz hdz Oz.fits ?_)
    exact wp_if_neg (by simp) (wpAny_pure q)
  · refine wpAny_pure (wpAny_pure ⟨_, rfl, (fun z => nomatch z), ?_⟩)
    have z := hQ h2 d2 n2' (fun c ob e => by rw [sb2.2 c (ne c ob e)]; exact kp1 c ob e)
    rw [hr] at z
    exact z (K2.congr fun k => by show (S k || S2 k) = ((false || S k) || S2 k); rw [Bool.false_or])
end
end LR

/-! ### set(d), d a dict (own work) -/
namespace LR
open PySem PySem.Spec PyProof.Rows L2 Evl PpSet Builtin
section
variable {P : Program} {w : World} {A : Around} {E : Value → Shared → Prop} {s : Shared} {a r : Addr}
theorem mix_rel {k : Key} {v : Value} (h : (mixKind P w).is k v = true) : RelV (kV k) v := keyIs_rel h
theorem pairs_at {knd : PySem.KeyKind P w Key} : ∀ {es : List DictEntry} {kvs : List (Key × Value)}, Pairs knd es kvs → ∀ {i : Nat} {kv : Key × Value}, kvs[i]? = some kv → ∃ e, es[i]? = some e ∧ knd.is kv.1 e.key = true
  | _, _, .nil, i, kv, h => by simp at h
  | _, _, .cons h1 h2 r, 0, kv, h => by
    cases h
    exact ⟨_, rfl, h1⟩
  | _, _, .cons h1 h2 r, i + 1, kv, h => pairs_at r (i := i) (by simpa using h)
theorem upd_dict {id : String} {vs : List (Key × Value)} {Q : Unit → Shared → Prop} (R : KTab P w s.heap r (fun _ => false) 0 7) (dat : s.heap.DictOf (mixKind P w) a vs) (hsys : (a == sysModules) = false) (hne : r ≠ a) (hn : vs.length * 2 < 32)
    (hQ : ∀ h' c, Heap.SameBut r s.heap h' → c ≤ vs.length → KSet P w h' r (inK (vs.map (·.1))) c → Q () { s with heap := h' }) : wpAny (model P w) A (Frozenset.updateFrom id r (.ref a)) Q E s := by
  obtain ⟨ob, es, ep, ho, hex, hd, hko, hpr, hnd⟩ := dat
  have ty : s.TypeIs (.ref a) "dict" := ⟨ob, ho, hex.1⟩
  have sz : es.size = vs.length := by
    have e := hpr.length
    rwa [Array.length_toList] at e
  unfold Frozenset.updateFrom
  refine wpAny_bind ?_
  unfold Frozenset.isAnySet
  refine wpAny_bind (wpAny_isInstance ty F.sub_dict_set ?_)
  refine wpAny_isInstance ty F.sub_dict_frozenset ?_
  refine wp_if_neg (by decide) ?_
  refine wpAny_bind (wpAny_typeOf ty ?_)
  refine wp_if_pos (by decide) ?_
  refine wpAny_bind (wpAny_rule ?_)
  refine wpAny_bind (wpAny_pure ?_)
  refine wp_if_neg (by rw [hsys]; simp) ?_
  refine wpAny_bind (wpAny_dictEpoch ho hd ?_)
  refine wpAny_bind (wpAny_dictEntries ho hd ?_)
  refine wpAny_bind (kt_room R (.inl rfl) (by rw [sz]; omega) fun h1 m1 sb1 hm1 hle R1 => ?_)
  have at1 : ∀ {h : Heap}, Heap.SameBut r s.heap h → h.get? a = some ob := fun {h} sb => by rw [sb.2 a (Ne.symm hne)]; exact ho
  refine wpAny_bind (wpAny_dictEntries (s := { s with heap := h1 }) (at1 sb1) hd ?_)
  refine wpAny_bind (SeqAt.wpAny_forIn_span 0 es.size _ (fun i _ z => ∃ h2 c, z = { s with heap := h2 } ∧ Heap.SameBut r s.heap h2 ∧ c ≤ i ∧ KSet P w h2 r (inK ((vs.map (·.1)).take i)) c) _ ?_ ?_ _ ⟨h1, 0, rfl, sb1, Nat.le_refl _, R1.set.congr fun _ => rfl⟩)
  · rintro i u z _ hi ⟨h2, c, rfl, sb2, hc, T⟩
    refine wpAny_bind (wpAny_dictEntries (s := { s with heap := h2 }) (at1 sb2) hd ?_)
    have hi2 : i < vs.length := by omega
    obtain ⟨e, he, hk⟩ := pairs_at hpr (List.getElem?_eq_getElem hi2)
    have he2 : es[i]? = some e := by rw [← Array.getElem?_toList]; exact he
    obtain ⟨k', hk', hh⟩ := hko e (Array.mem_of_getElem? he2)
    have ek : k' = (vs[i]).1 := (mixKind P w).inj _ _ _ hk' hk
    subst ek
    rw [he2]
    dsimp only
    rw [hh]
    have room : c + 1 < scanBound := by
      have : (32 : Nat) ≤ scanBound := by decide
      omega
    refine wpAny_bind (wpAny_holding (kset_add (s := { s with heap := h2 }) (mix_rel hk') T room fun h3 sb3 T3 => ?_))
    refine wpAny_bind (wpAny_dictEpoch (s := { s with heap := h3 }) (at1 (sb2.trans sb3)) hd ?_)
    refine wp_if_neg (by simp) ?_
    refine wpAny_pure ⟨h3, _, rfl, sb2.trans sb3, ?_, T3.congr fun j => ?_⟩
    · split <;> omega
    · have : (vs.map (·.1))[i]? = some (vs[i]).1 := by rw [List.getElem?_map, List.getElem?_eq_getElem hi2]; rfl
      unfold inK
      rw [List.take_add_one, this, List.any_append]
      simp
  · rintro u z ⟨h2, c, rfl, sb2, hc, T⟩
    have em : max 0 es.size = vs.length := by omega
    rw [em] at hc T
    rw [List.take_of_length_le (by rw [List.length_map]; exact Nat.le_refl _)] at T
    exact wpAny_pure (hQ h2 c sb2 hc T)
set_option maxHeartbeats 3200000 in
theorem kset_dict {vs : List (Key × Value)} {Q : Value → Shared → Prop} (dat : s.heap.DictOf (mixKind P w) a vs) (hsys : (a == sysModules) = false) (hn : vs.length * 2 < 32)
    (hQ : ∀ h' c, (∀ b o, s.heap.get? b = some o → h'.get? b = some o) → c ≤ vs.length → KSet P w h' s.heap.objs.size (inK (vs.map (·.1))) c → Q (.ref s.heap.objs.size) { s with heap := h' }) :
    wpAny (model P w) A (call (.type "set") [.ref a]) Q E s := by
  obtain ⟨ob, es, ep, ho, hex, hd, hko, hpr, hnd⟩ := dat
  obtain ⟨_, _, mro⟩ := F.called_set.mro
  have made := F.called_set.made
  have subT := F.called_set.sub
  have c1 := F.called_set.notType
  have c2 := F.called_set.canCreate
  have c3 := F.typeCall_set_1 (.ref a)
  refine wpAny_call (codeAny_of_tree (show wpAny _ _ (callAny (.type "set") _) _ _ _ from wpAny_pure ⟨Code.quiet_builtin _ (by decide +kernel), codeAny_builtin F.entry_type_call ?_⟩))
  rw [Around.under_plain (weight_type_call_type "set" [.ref a] []) rfl]
  repeat (any_goals (first | assumption | wp_step))
  let ob0 : Obj := { cls := .type "set", dict := none, data := .set #[] 0 (.fresh 0 0 (!w.params.followText "set-order")) }
  refine codeAny_mono (code_set_led1 (.ref a) (E := E) (Q₁ := fun ob z => ob = .ref s.heap.objs.size ∧ z = { s with heap := s.heap.push ob0 }) ⟨rfl, rfl⟩) fun r z hr => ?_
  match r, hr with
  | .error _, hr => exact hr
  | .ok (.ret ob), hr =>
    obtain ⟨rfl, rfl⟩ := hr
    have atT : (s.heap.push ob0).get? s.heap.objs.size = some ob0 := Heap.get?_push_size _ rfl
    have tyT : Shared.TypeIs { s with heap := s.heap.push ob0 } (.ref s.heap.objs.size) "set" := ⟨_, atT, rfl⟩
    have i1 := F.called_set.init.lookup
    have i2 := F.called_set.init.bind (.ref s.heap.objs.size)
    repeat (any_goals (first | assumption | wp_step))
    refine codeAny_mono (codeAny_call_builtin (R := wants (fun r z => r = .none ∧ ∃ h' c, z = { s with heap := h' } ∧ KSet P w h' s.heap.objs.size (inK (vs.map (·.1))) c ∧ c ≤ vs.length ∧ ∀ b o, s.heap.get? b = some o → h'.get? b = some o) E) F.called_set.init.plain F.entry_set_init (check_set_init_1 tyT ?_)) fun r2 z2 hr2 => ?_
    · unfold Builtin.«set.__init__» noKeywords
      have kp : ∀ b o, s.heap.get? b = some o → (s.heap.push ob0).get? b = some o := fun b o e => Heap.get?_push_of_some _ e
      have ne : ∀ b o, s.heap.get? b = some o → b ≠ s.heap.objs.size := fun b o e => Nat.ne_of_lt (Heap.lt_size e)
      generalize hUF : Builtin.Frozenset.updateFrom = UF
      wp_walk
      subst hUF
      refine upd_dict (s := { s with heap := s.heap.push ob0 }) (ktab_fresh atT) ⟨_, es, ep, kp _ _ ho, hex, hd, hko, hpr, hnd⟩ hsys (Ne.symm (ne _ _ ho)) hn fun h' c sb hc T => ?_
      exact (show wpAny _ _ (ret Value.none) _ _ _ from wpAny_pure ⟨rfl, h', c, rfl, T, hc, fun b o e => by rw [sb.2 b (ne b o e)]; exact kp b o e⟩)
    · match r2, hr2 with
      | .error _, hr2 => exact hr2
      | .ok (.ret _), hr2 =>
        obtain ⟨rfl, h', c, rfl, hT, hc, kp⟩ := hr2
        repeat (any_goals (first | assumption | wp_step))
        exact hQ _ _ kp hc hT
end
end LR

/-! ### EV: len({.. for ..} | set(d)); len(obj) (own work) -/
namespace LR
open PySem PySem.Spec PyProof.Rows L2 Evl
section
variable {X : Cx}
/-- set(a dict) -/
def rSetD (P : Program) (w : World) : List V → Hp → VK → Prop := fun xs H Q => ∃ (p : Addr) (kvs : List (Key × V)), xs = [.ref p] ∧ H p = some (.dK kvs) ∧ kvs.length < 16 ∧ ∀ q c, H q = none → c ≤ kvs.length → Q (.ref q) (upd H q (KSO P w q (inK (kvs.map (·.1))) c))
theorem cr_setD : CallR X (.type "set") (rSetD X.prog X.w) := by
  intro pins s σ H vs us Q I r h
  obtain ⟨p, kvs, rfl, hp, hl, q⟩ := h
  rw [Vals.ref1 r]
  obtain ⟨_, hsys, ws, rel, dof⟩ := dk_of I.hok hp
  have hk : ws.map (·.1) = kvs.map (·.1) := (KV.keys rel).symm
  have hln : ws.length = kvs.length := by
    have e := congrArg List.length hk
    rwa [List.length_map, List.length_map] at e
  refine kset_dict dof hsys (by omega) fun h' c kp hc T => ?_
  rw [hk] at T
  exact ⟨.ref _, upd H s.heap.objs.size (KSO X.prog X.w s.heap.objs.size (inK (kvs.map (·.1))) c), I.laid (t' := s.toks) kp (Nat.le_refl _) (kso_new T), rfl, q _ c (I.hok.fresh (Nat.le_refl _)) (by omega)⟩
/-- a | b of sets -/
def rOrK (P : Program) (w : World) : R2 := fun x y H Q => ∃ (a b : Addr) (S S2 : Key → Bool) (n n2 : Nat), x = .ref a ∧ y = .ref b ∧ a ≠ b ∧ H a = some (KSO P w a S n) ∧ H b = some (KSO P w b S2 n2) ∧ n + n2 < 16 ∧ ∀ p c, H p = none → Q (.ref p) (upd H p (KSO P w p (orK S S2) c))
theorem op_orK : OpR X (binaryOp .BitOr) (rOrK X.prog X.w) := by
  intro pins s σ H x y v u Q I rx ry h
  obtain ⟨a, b, S, S2, n, n2, rfl, rfl, hab, ha, hb, hn, q⟩ := h
  obtain rfl : v = Value.ref a := rx
  obtain rfl : u = Value.ref b := ry
  refine kset_or (kso_get I ha) (kso_get I hb) hab (by omega) fun h' d c kp T => ?_
  have I2 : Inv X pins σ H { s with drawn := d } := I.call' (ch := []) rfl (Un.kept fun _ _ e => e) (I.hok.kept fun _ _ e => e) I.bare (fun _ z => nomatch z)
  exact ⟨.ref _, upd H s.heap.objs.size (KSO X.prog X.w s.heap.objs.size (orK S S2) c), I2.laid (t' := s.toks) kp (Nat.le_refl _) (kso_new T), rfl, q _ c (I.hok.fresh (Nat.le_refl _))⟩
end
/-- each once, in their order -/
def dist (l : List Key) : List Key := l.foldl (fun acc k => if inK acc k = true then acc else acc ++ [k]) []
theorem dist_snoc (l : List Key) (k : Key) : dist (l ++ [k]) = if inK (dist l) k = true then dist l else dist l ++ [k] := by
  unfold dist
  rw [List.foldl_append]
  rfl
theorem dist_fold : ∀ (l acc : List Key), acc.Nodup → (l.foldl (fun acc k => if inK acc k = true then acc else acc ++ [k]) acc).Nodup ∧ (∀ j, j ∈ l.foldl (fun acc k => if inK acc k = true then acc else acc ++ [k]) acc ↔ j ∈ acc ∨ j ∈ l) ∧ acc.length ≤ (l.foldl (fun acc k => if inK acc k = true then acc else acc ++ [k]) acc).length
  | [], acc, h => ⟨h, fun j => by simp, Nat.le_refl _⟩
  | k :: l, acc, h => by
    rw [List.foldl_cons]
    by_cases c : k ∈ acc
    · rw [if_pos (inK_iff.mpr c)]
      obtain ⟨h1, h2, h3⟩ := dist_fold l acc h
      refine ⟨h1, fun j => (h2 j).trans ?_, h3⟩
      rw [List.mem_cons]
      constructor
      · rintro (z | z)
        · exact .inl z
        · exact .inr (.inr z)
      · rintro (z | rfl | z)
        · exact .inl z
        · exact .inl c
        · exact .inr z
    · rw [if_neg fun z => c (inK_iff.mp z)]
      obtain ⟨h1, h2, h3⟩ := dist_fold l (acc ++ [k]) (List.nodup_append.mpr ⟨h, by simp, fun a ha b hb e => by
        rw [List.mem_singleton.mp hb] at e
        exact c (e ▸ ha)⟩)
      refine ⟨h1, fun j => (h2 j).trans ?_, Nat.le_trans (by rw [List.length_append]; omega) h3⟩
      rw [List.mem_append, List.mem_singleton, List.mem_cons]
      exact ⟨fun z => z.elim (fun z => z.elim .inl fun z => .inr (.inl z)) fun z => .inr (.inr z), fun z => z.elim (fun z => .inl (.inl z)) fun z => z.elim (fun z => .inl (.inr z)) .inr⟩
theorem dist_nodup (l : List Key) : (dist l).Nodup := (dist_fold l [] List.nodup_nil).1
theorem mem_dist {l : List Key} {j : Key} : j ∈ dist l ↔ j ∈ l := by
  have h := (dist_fold l [] List.nodup_nil).2.1 j
  simp only [List.not_mem_nil, false_or] at h
  exact h
theorem dist_le (l r : List Key) : (dist l).length ≤ (dist (l ++ r)).length := by
  have := (dist_fold r (dist l) (dist_nodup l)).2.2
  unfold dist at this ⊢
  rw [List.foldl_append]
  exact this
/-- any list of the same keys, each once -/
theorem dist_len {l ks : List Key} (h : ks.Nodup) (e : ∀ k, k ∈ ks ↔ k ∈ l) : (dist l).length = ks.length := by
  have : (dist l).Perm ks := (List.perm_ext_iff_of_nodup (dist_nodup l) h).mpr fun k => mem_dist.trans (e k).symm
  exact this.length_eq
theorem inK_snoc (l : List Key) (k : Key) : addK (inK l) k = inK (l ++ [k]) := by
  funext j
  unfold inK
  rw [List.any_append]
  simp
end LR
namespace EV
open PySem PySem.Spec PyProof.Rows L2 Evl L2H LamX LR
section
variable {K : PySem.W.Frag} {FL : Fl} {T : TbS} {P : Program} {w' : World} {te : TE} {pa : PM}
theorem sk_it {J : It} {n : Nat} {G : Hp → Prop} {Y : Nat → Hp → V → Hp → Prop} (w : Walk J n G Y) {g : TG} {tt : TT} {te : TE} {vs : List Nat} {σ : L2.St} {H1 : Hp} {D : Addr} {Qd : Hp → Prop} (Pv : Nat → Hp → Prop) (h0 : Pv 0 (upd H1 D (KSO P w' D (fun _ => false) 0))) (hG : ∀ i H, i ≤ n → Pv i H → G H)
    (hs : ∀ i x H H', i < n → Pv i H → Y i H x H' → g x (L2.wipe σ vs) H' fun σ2 H2 => L2.wipe σ2 vs = L2.wipe σ vs ∧ tt σ2 H2 fun b H3 =>
      if b = true then te σ2 H3 fun y H4 => ∃ (k : Key) (S : Key → Bool) (c : Nat), y = kV k ∧ H4 D = some (KSO P w' D S c) ∧ c + 1 < scanBound ∧ Pv (i + 1) (upd H4 D (KSO P w' D (addK S k) (if S k = true then c else c + 1))) else Pv (i + 1) H3) (hd : ∀ H, Pv n H → Qd H) :
    ∃ W : Nat → Nat → Hp → Prop, (∃ m, W 0 m (upd H1 D (KSO P w' D (fun _ => false) 0))) ∧ ∀ i m H, W i m H →
      (J.stop i H ∧ Qd H) ∨ (J.go i H ∧ ∃ Nx : Hp → Prop, (∀ H', Nx H' → ∃ m', m' < m ∧ W (i + 1) m' H') ∧ ∀ x H', J.yld i H x H' → g x (L2.wipe σ vs) H' fun σ2 H2 => L2.wipe σ2 vs = L2.wipe σ vs ∧ tt σ2 H2 fun b H3 =>
        if b = true then te σ2 H3 fun y H4 => ∃ (k : Key) (S : Key → Bool) (c : Nat), y = kV k ∧ H4 D = some (KSO P w' D S c) ∧ c + 1 < scanBound ∧ Nx (upd H4 D (KSO P w' D (addK S k) (if S k = true then c else c + 1))) else Nx H3) := by
  refine ⟨fun i m H => m = n - i ∧ i ≤ n ∧ Pv i H, ⟨n, by simp, Nat.zero_le _, h0⟩, ?_⟩
  rintro i m H ⟨rfl, hi, p⟩
  have q := hG i H hi p
  by_cases hlt : i < n
  · exact .inr ⟨w.goes i H hlt q, Pv (i + 1), fun H' p' => ⟨n - (i + 1), by omega, rfl, hlt, p'⟩, fun x H' y => hs i x H H' hlt p (w.yields i H x H' hlt q y)⟩
  · obtain rfl : i = n := by omega
    exact .inl ⟨w.stops H q, hd H p⟩
def keysD : List PyData → Option (List Key)
  | [] => some []
  | d :: r => (keyD d).bind fun k => (keysD r).bind fun ks => some (k :: ks)
theorem keysD_get : ∀ {ds : List PyData} {ks : List Key}, keysD ds = some ks → ks.length = ds.length ∧ ∀ (i : Nat) (d : PyData), ds[i]? = some d → ∃ k, keyD d = some k ∧ ks[i]? = some k
  | [], _, h => by
    cases h
    exact ⟨rfl, fun i d h => by simp at h⟩
  | d :: r, _, h => by
    obtain ⟨k, h1, h⟩ := bind_some h
    obtain ⟨ks, h2, h3⟩ := bind_some h
    cases h3
    obtain ⟨l, a⟩ := keysD_get h2
    refine ⟨by rw [List.length_cons, List.length_cons, l], fun i d' hd => ?_⟩
    cases i with
    | zero =>
      simp at hd
      subst hd
      exact ⟨k, h1, rfl⟩
    | succ i => exact a i d' (by simpa using hd)
theorem lcAll_true {gm : GM} {el : PM} {g : Sg} : ∀ {ds out : List PyData}, lcAll gm pTrue el g ds = some out → out.length = ds.length ∧ ∀ (i : Nat) d, ds[i]? = some d → ∃ g1 z, gm d g = some g1 ∧ el g1 = some z ∧ out[i]? = some z
  | [], _, h => by
    cases h
    exact ⟨rfl, fun i d h => by simp at h⟩
  | d :: ds, out, h => by
    obtain ⟨o, h1, h⟩ := bind_some h
    obtain ⟨r, h2, h3⟩ := bind_some h
    obtain ⟨g1, k1, k2⟩ := bind_some h1
    obtain ⟨z, k3, k4⟩ := Option.map_eq_some_iff.mp (show (el g1).map some = some o from k2)
    subst k4
    cases h3
    obtain ⟨l, a⟩ := lcAll_true h2
    refine ⟨by rw [List.length_cons, List.length_cons, l], fun i d' hd => ?_⟩
    cases i with
    | zero =>
      simp at hd
      subst hd
      exact ⟨g1, z, k1, k3, rfl⟩
    | succ i => exact a i d' (by simpa using hd)
/-- {el for .. in ..}, the set new -/
theorem sk_new {wi : TI} {tg : TG} {gm : GM} {it : IM} {vs : List Nat} (hi : SimIo K FL T wi it) (hg : SimG K FL T tg gm vs) (he : SimP K FL T te pa)
    {F : Fr} {α : Al} {H H1 : Hp} {σ : L2.St} {g : Sg} {out ds : List PyData} {ks : List Key} (R : Rel K FL T F α H H1 σ g) (h1 : it g = some ds) (h3 : lcAll gm pTrue pa (g.wipe vs) ds = some out) (h4 : keysD out = some ks) (hb : (dist ks).length < 4000) (Q : VK)
    (q : ∀ p H2 H', Ex H1 H2 → Ex H' H2 → Ext H H1 H' → H1 p = none → H' p = none → H2 p = some (KSO P w' p (inK ks) (dist ks).length) → Q (.ref p) H2) : tSk P w' wi tg tYes te vs σ H1 Q := by
  obtain ⟨l1, all⟩ := lcAll_true h3
  obtain ⟨l2, key⟩ := keysD_get h4
  refine hi F α H H1 σ g ds R h1 _ fun J G H2 Hb e2 eb xb hG w Dl hD => ?_
  have hDb : Hb Dl = none := fresh_back eb hD
  have hD1 : H1 Dl = none := fresh_back e2 hD
  refine sk_it (w.mono (G' := fun H3 => Ex H2 H3) (fun H3 e3 => hG H3 e3) fun _ _ _ _ _ _ y => y)
    (fun i Hr => ∃ Hl, Ex Hb Hl ∧ Ex Hl Hr ∧ Ex H2 Hr ∧ Ext H H1 Hl ∧ Hl Dl = none ∧ Hr Dl = some (KSO P w' Dl (inK (ks.take i)) (dist (ks.take i)).length)) ?_ ?_ ?_ ?_
  · exact ⟨Hb, Ex.refl _, eb.trans (Ex.new hD), Ex.new hD, xb, hDb, upd_same⟩
  · rintro i Hr hi ⟨Hl, a1, a2, a3, _⟩
    exact a3
  · rintro i x Hr H3 hi ⟨Hl, a1, a2, a3, a4, a5, a6⟩ ⟨y1, d, y2, y3⟩
    obtain ⟨Hc, c1, c2, c3⟩ := y3 Hl a1 a2
    obtain ⟨g1, z, k1, k5, k6⟩ := all i d y2
    obtain ⟨k, k7, k8⟩ := key i z k6
    have e13 : Ex H1 H3 := (e2.trans a3).trans y1
    have xc : Ext H H1 Hc := a4.trans (e2.trans a3) c1
    have Rc : Rel K FL T F α Hc H3 σ g := R.grow e13 c2 xc
    obtain ⟨σ2, R2, w2, q2⟩ := hg F α Hc H3 (L2.wipe σ vs) (g.wipe vs) g1 x d (Rc.wipe vs) c3 k1
    refine q2 _ ⟨?_, ?_⟩
    · rw [w2 vs fun _ h => h]
      have idem : ∀ (ws : List Nat) (τ : L2.St), (∀ v ∈ ws, v ∈ vs) → L2.wipe (L2.wipe τ ws) vs = L2.wipe τ vs := by
        intro ws
        induction ws with
        | nil => intro τ _; rfl
        | cons v r ih => intro τ hv; show L2.wipe ((L2.wipe τ r).set v none) vs = _; rw [wipe_set (hv v List.mem_cons_self), ih τ fun x hx => hv x (List.mem_cons_of_mem _ hx)]
      exact idem vs σ fun _ h => h
    · refine sb_yes (K := K) (FL := FL) (T := T) F α Hc H3 σ2 g1 true R2 rfl _ fun H4 e4 => ?_
      rw [if_pos rfl]
      have n1 : Hc Dl = none := c1.off a5 a6
      refine he F α Hc H4 σ2 g1 z (R2.same e4) k5 _ fun v H5 Hd e5 ed xd dv => ?_
      have n2 : Hd Dl = none := xd.off n1 ((y1.trans e4) Dl _ a6)
      have at5 := ((y1.trans e4).trans e5) Dl _ a6
      have tk : ks.take (i + 1) = ks.take i ++ [k] := by rw [List.take_add_one, k8]; rfl
      have ln : (dist (ks.take i)).length ≤ (dist ks).length := by
        have := dist_le (ks.take i) (ks.drop i)
        rwa [List.take_append_drop] at this
      refine ⟨k, _, _, keyD_eq k7 dv, at5, by show _ + 1 < 4096; omega, Hd, (a1.trans c1.ex).trans xd.ex, ex_off ed n2, ex_off (((a3.trans y1).trans e4).trans e5) hD, xc.trans (e13.trans e4) xd, n2, ?_⟩
      have ec : (if inK (ks.take i) k = true then (dist (ks.take i)).length else (dist (ks.take i)).length + 1) = (dist (ks.take (i + 1))).length := by
        rw [tk, dist_snoc]
        by_cases c : k ∈ ks.take i
        · rw [if_pos (inK_iff.mpr c), if_pos (inK_iff.mpr (mem_dist.mpr c))]
        · rw [if_neg fun z => c (inK_iff.mp z), if_neg fun z => c (mem_dist.mp (inK_iff.mp z)), List.length_append]
          rfl
      rw [upd_same, inK_snoc, ← tk, ec]
  · rintro Hr ⟨Hl, a1, a2, a3, a4, a5, a6⟩
    rw [List.take_of_length_le (by omega)] at a6
    exact q Dl Hr Hl (e2.trans a3) a2 a4 hD1 a5 a6
/-- len({el for .. in ..} | set(d)) -/
def pLenOr (it : IM) (gm : GM) (el : PM) (vs : List Nat) (w : WM) : PM := fun g => (it g).bind fun ds => (lcAll gm pTrue el (g.wipe vs) ds).bind fun out => (keysD out).bind fun ks => (w g).bind fun o => (dicAt g o).bind fun kv =>
  if (dist ks).length + kv.length < 16 then some (.int (dist (ks ++ kv.map (·.1))).length) else none
theorem sp_lenOr {wi : TI} {tg : TG} {gm : GM} {it : IM} {vs ws : List Nat} {tw : TE} {w : WM} (hi : SimIo K FL T wi it) (hg : SimG K FL T tg gm vs) (he : SimP K FL T te pa) (hw : SimW K FL T tw w) (hv : ws = vs := by rfl) :
    SimP K FL T (tCB (rLenK P w') (tCons (tOp (rOrK P w') (tSk P w' wi tg tYes te ws) (tCB (rSetD P w') (tCons tw tNil))) tNil)) (pLenOr it gm pa vs w) := fun F α H H1 σ g z R h Q q => by
  subst hv
  obtain ⟨ds, h1, h⟩ := bind_some h
  obtain ⟨out, h2, h⟩ := bind_some h
  obtain ⟨ks, h3, h⟩ := bind_some h
  obtain ⟨o, h4, h⟩ := bind_some h
  obtain ⟨kv, h5, h⟩ := bind_some h
  obtain ⟨h6, rfl⟩ := ite_some h
  have key : ∀ Q' : VK, (∀ p H2 H', Ex H1 H2 → Ex H' H2 → Ext H H1 H' → H1 p = none → H' p = none → H2 p = some (KSO P w' p (inK ks) (dist ks).length) → Q' (.ref p) H2) → tSk P w' wi tg tYes te ws σ H1 Q' := fun Q' q' => sk_new hi hg he R h1 h2 h3 (by omega) Q' q'
  generalize tSk P w' wi tg tYes te ws = tS at key ⊢
  refine key _ fun p H2 H' e2 e x n1 n2 hp => ?_
  have R2 : Rel K FL T F α H' H2 σ g := R.grow e2 e x
  obtain ⟨a, m1, m2⟩ := hw F α H' H2 σ g o R2 h4
  obtain ⟨ws', d1, d2⟩ := R2.dic h5 m1
  have hk : ws'.map (·.1) = kv.map (·.1) := d2.1
  have hln : ws'.length = kv.length := by
    have e := congrArg List.length hk
    rwa [List.length_map, List.length_map] at e
  refine m2 _ ⟨a, ws', rfl, d1, by omega, fun q2 c hq hc => ?_⟩
  have hne : p ≠ q2 := fun e => by rw [← e, hp] at hq; cases hq
  refine ⟨p, q2, _, _, _, _, rfl, rfl, hne, ((upd_ne hne).trans hp), upd_same, by omega, fun r c2 hr => ?_⟩
  refine ⟨r, _, _, rfl, upd_same, fun ls nd hm => ?_⟩
  have hl : (dist (ks ++ kv.map (·.1))).length = ls.length := dist_len nd fun k => by
    rw [hm k]
    show (inK ks k || inK (ws'.map (·.1)) k) = true ↔ _
    rw [Bool.or_eq_true, inK_iff, inK_iff, hk, List.mem_append]
  rw [← hl]
  exact q _ _ H' ((e2.trans (Ex.new hq)).trans (Ex.new hr)) ((e.trans (Ex.new hq)).trans (Ex.new hr)) x (.int _)
end
end EV

/-! ### EV: len(obj), its class has a __len__ of its own (own work) -/
namespace EV
open PySem PySem.Spec PyProof.Rows L2 Evl L2H LamX LR
/-- len(o): the answer of o.__len__(), a whole number of a fit size -/
def tLenO (C : Addr) (sp : Sp) (E : L2.St → XK) (te : TE) : TE := fun σ H Q => tMethW C "__len__" sp E te tNil σ H (fun u H2 => ∃ n : Int, u = .int n ∧ 0 ≤ n ∧ n < 2 ^ 63 ∧ Q u H2)
section
variable {X : Cx} {k j : Nat} {ps : List Str} {sp : Sp} {W : WX} {p pos : Pos} {o : Expr} {ta : TE}
theorem pe_lenO {C : Addr} (hx : ∀ σ, PassesAt (CXL X.prog X.w) X σ (WE W σ)) (c : Mx X.prog X.w X.K C X.mg X.base k "__len__" ps sp) (hr : Room j X.A) (hk : k + 1 ≤ j) (hg : Gl X "len") (hm : X.mg "len" = none) (ho : PE X o ta)
    (he : starEach [o] X.env = (false, eval o X.env) :: starEach [] X.env := by rfl) (hpl : (backTo pos (starEach [] X.env)).any (·.1) = false := by rfl) :
    PE X (.Call (.Name "len" p) [o] [] pos) (tLenO C sp (WE W) ta) := by
  obtain ⟨f, fd, F, hM, b⟩ := c.ex
  refine ⟨fun pins s σ H Q I h => ?_⟩
  refine wpAny_Call_Name_kw (ld_blt I hg hm (by decide +kernel : bootBuiltins "len" = some (.builtin "len")) ?_ (by decide) (by decide))
  let Q1 : List V → Hp → Prop := fun vs H1 => match vs with
    | [x] => ∃ a dx fs, x = .ref a ∧ H1 a = some (.ins C dx fs) ∧ fs.lookup ("__len__" : Str) = none ∧ sp [x] H1 (fun u H2 => ∃ n : Int, u = .int n ∧ 0 ≤ n ∧ n < 2 ^ 63 ∧ Q u H2) (WE W σ)
    | _ => False
  have h1 : tCons ta tNil σ H Q1 := h
  refine PyProof.Rows.callWith_builtin1 (thn ((pa_cons ho pa_nil he).run pos pins s σ H Q1 I h1) fun us s1 ⟨vs, H1, I1, r1, q1⟩ => ?_) he hpl
  have q2 : ∃ a dx fs, vs = [.ref a] ∧ H1 a = some (.ins C dx fs) ∧ sp [.ref a] H1 (fun u H2 => ∃ n : Int, u = .int n ∧ 0 ≤ n ∧ n < 2 ^ 63 ∧ Q u H2) (WE W σ) := by
    cases vs with
    | nil => exact False.elim q1
    | cons x r =>
      cases r with
      | nil =>
        obtain ⟨a, dx, fs, e1, e2, _, e3⟩ := q1
        rw [e1] at e3
        exact ⟨a, dx, fs, by rw [e1], e2, e3⟩
      | cons y r => exact False.elim q1
  obtain ⟨a, dx, fs, rfl, e2, e3⟩ := q2
  rw [Vals.ref1 r1]
  obtain ⟨mA, O, _, _, _, _⟩ := ins_get I1.hok e2
  obtain ⟨od, _, _, hod, _⟩ := O.ns
  refine Calls.call_function_entry kind_len plain_len entry_len (args_len1 _) ?_
  unfold Builtin.«len»
  refine wpAny_bind (m := oneArg "len" _) (wpAny_pure ?_)
  have ia : PySem.W.InstAt s1.heap a (PySem.W.instObj C dx) C (some od) := ⟨O.obj, rfl, rfl, hod⟩
  refine wpAny_bind (m := callSpecial? (.ref a) (Str.ofString "__len__")) (PySem.W.special_fn I1.kIn ia hM.at_ (beq_iff_eq.mp hM.fn) ?_)
  have hl : ([.ref a] : List Value).length = ps.length := F.len _ _ _ _ e3
  have b1 := b s1 [.ref a] I1.kIn (by rw [List.append_nil]; exact hl)
  rw [List.append_nil] at b1
  refine wpAny_call (codeAny_mono (F.run X.A.in1 X.stack s1 H1 ⟨[.ref a], []⟩ [.ref a] [.ref a] _ (WE W σ) (hr.mono hk).in1 I1.env0.in1 b1 (.cons rfl .nil) e3) fun r s' hq => ?_)
  cases r with
  | error e => exact hx σ pins H1 s1 e s' I1 hq
  | ok fl =>
    cases fl with
    | ret u =>
      obtain ⟨v, H2, I2, rv, n, rfl, n0, n1, q⟩ := I1.after hq
      obtain ⟨t, rfl⟩ := (show ∃ t, u = Value.int n t from rv)
      refine wpAny_bind (wpAny_holding (wpAny_pure ?_))
      refine wpAny_bind (wpAny_letGo ?_)
      show wpAny _ _ (if n < 0 then _ else _) _ _ _
      rw [if_neg (by omega)]
      show wpAny _ _ (if n ≥ 2 ^ 63 then _ else _) _ _ _
      rw [if_neg (by omega)]
      exact wpAny_bind (wpAny_mkInt (wpAny_pure ⟨_, rfl, .int n, H2, I2.tok _, ⟨_, rfl⟩, q⟩))
    | next => exact False.elim hq
    | brk => exact False.elim hq
    | cont => exact False.elim hq
end
section
variable {K : PySem.W.Frag} {FL : Fl} {T : TbS} {W : WX} {te : TE} {ma : EM}
def mLenO (C : Str) (f : Fun) (o : EM) : EM := eBind (mMeth C "__len__" f 1 o aNil) fun v => fun g => match v with
  | .dat (.int n) => if 0 ≤ n ∧ n < 2 ^ 63 then some (.ok (.dat (.int n)), g) else none
  | _ => none
theorem se_lenO {C : Str} {f : Fun} (hT : T.fl = true) (ho : SimE K FL T W te ma) : SimE K FL T W (tLenO (gaE K C) (spF K FL T 1 f) (WE W) te) (mLenO C f ma) := fun F α H H1 σ g r g' R hm Q q => by
  rcases eBind_some hm with ⟨v, g1, h1, h2⟩ | ⟨x, h1, rfl⟩
  · refine se_meth hT ho sa_nil F α H H1 σ g _ g1 R h1 _ fun α' H' H2 u R' s' ru => ?_
    cases v with
    | at_ o => cases h2
    | dat d =>
      cases d with
      | int n =>
        obtain ⟨h3, h4⟩ := ite_some (show (if 0 ≤ n ∧ n < 2 ^ 63 then some (Except.ok (Rv.dat (PyData.int n)), g1) else none) = some (r, g') from h2)
        cases h4
        have e := (show Dt K H' u (.int n) from ru).int_eq
        exact ⟨n, e, h3.1, h3.2, q α' H' H2 u R' s' ru⟩
      | none => cases h2
      | bool b => cases h2
      | str i => cases h2
      | list i => cases h2
      | tuple i => cases h2
      | dict kv => cases h2
  · exact se_meth hT ho sa_nil F α H H1 σ g _ g' R h1 _ q
end
end EV

/-! ### EV: sorted(d), dict(d), l[i] = v (own work) -/
namespace EV
open PySem PySem.Spec PyProof.Rows L2 Evl L2H LamX LR
section
variable {K : PySem.W.Frag} {FL : Fl} {T : TbS} {W : WX} {tw ti te : TE} {w : WM} {pa pb : PM}
def intKs : List (Key × PyData) → Option (List Int)
  | [] => some []
  | p :: r => match p.1 with
    | .inl i => (intKs r).map fun is => i :: is
    | .inr _ => none
theorem intKs_eq : ∀ {d : List (Key × PyData)} {is : List Int}, intKs d = some is → d.map (·.1) = is.map Sum.inl
  | [], _, h => by cases h; rfl
  | (k, v) :: r, is, h => by
    cases k with
    | inl i =>
      obtain ⟨js, h1, h2⟩ := Option.map_eq_some_iff.mp (show (intKs r).map (fun is => i :: is) = some is from h)
      subst h2
      rw [List.map_cons, List.map_cons, intKs_eq h1]
    | inr x => cases h
/-- sorted(d), d of one's own, its keys whole numbers -/
def pSortD (w : WM) : PM := fun g => (w g).bind fun o => (dicAt g o).bind fun kv => (intKs kv).bind fun is => if is.Nodup ∧ is.length < 64 then some (.list ((usort ltI is).map .int)) else none
def rSortDI : List V → Hp → VK → Prop := fun xs H Q => ∃ (a : Addr) (kvs : List (Key × V)) (ks : List Int), xs = [.ref a] ∧ Rd H a (.dK kvs) ∧ kvs.map (·.1) = ks.map Sum.inl ∧ ks.length < 64 ∧
    ∀ (ys : List Int) (p : Addr), ys.Perm ks → ys.Pairwise (· ≤ ·) → H p = none → Q (.ref p) (upd H p (.lst (ys.map V.int)))
theorem cr_sortDI {X : Cx} (hc : X.calm = true) : CallR X (.builtin "sorted") rSortDI := call_sortedDI hc
theorem sp_sortD (hw : SimW K FL T tw w) : SimP K FL T (tCB rSortDI (tCons tw tNil)) (pSortD w) := fun F α H H1 σ g z R h Q q => by
  obtain ⟨o, h1, h⟩ := bind_some h
  obtain ⟨kv, h2, h⟩ := bind_some h
  obtain ⟨is, h3, h⟩ := bind_some h
  obtain ⟨⟨h4, h5⟩, rfl⟩ := ite_some h
  obtain ⟨a, m1, m2⟩ := hw F α H H1 σ g o R h1
  obtain ⟨ws, d1, d2⟩ := R.dic h2 m1
  have hk : ws.map (·.1) = is.map Sum.inl := d2.1.trans (intKs_eq h3)
  refine m2 _ ⟨a, ws, is, rfl, .inl d1, hk, h5, fun ys p hp hs hn => ?_⟩
  have same : ys = usort ltI is := by
    refine ris_eq tot_ltI (risI_of hs (hp.nodup_iff.mpr h4)) (ris_usort tot_ltI _) fun z => ?_
    rw [hp.mem_iff, mem_usort tot_ltI]
  rw [same]
  have n0 : H p = none := fresh_back R.ex hn
  refine q _ _ (upd H p (.lst ((usort ltI is).map V.int))) (Ex.new hn) (ex_upd R.ex) (Ext.new R.ex hn) (.lst upd_same (dp_ints _))
/-- dict(d) -/
def nDcp (w : WM) : NM := fun g => (w g).bind fun o => (dicAt g o).bind fun kv => some (.ok (.ownD kv), g)
def rDcp : List V → Hp → VK → Prop := fun xs H Q => ∃ (a : Addr) (kvs : List (Key × V)), xs = [.ref a] ∧ Rd H a (.dK kvs) ∧ ∀ p, H p = none → Q (.ref p) (upd H p (.dK kvs))
theorem cr_dcp {X : Cx} : CallR X (.type "dict") rDcp := call_dictD
theorem sn_dcp (hw : SimW K FL T tw w) : SimN K FL T W (tCB rDcp (tCons tw tNil)) (nDcp w) := fun F α H H1 σ g r g' R h Q q => by
  obtain ⟨o, h1, h⟩ := bind_some h
  obtain ⟨kv, h2, h⟩ := bind_some h
  cases h
  obtain ⟨a, m1, m2⟩ := hw F α H H1 σ g o R h1
  obtain ⟨ws, d1, d2⟩ := R.dic h2 m1
  refine m2 _ ⟨a, ws, rfl, .inl d1, fun p hp => ?_⟩
  obtain ⟨f1, f2, f3⟩ := R.fresh hp
  exact q α H (upd H1 p (.dK ws)) p _ (R.same (Ex.new hp)) (Stp.refl _ _) upd_same f1 f2 f3 ⟨ws, rfl, d2⟩
/-- l[i] = v -/
def sLPutP (w : WM) (pi pv : PM) : SM := fun g => (pv g).bind fun v => (w g).bind fun o => (pi g).bind fun y => (asI y).bind fun k => (lstAt g o).bind fun ds => (ixN ds.length k).bind fun j => some (.nx, g.put o (.ownL (ds.set j v)))
theorem dtAll_set {H : Hp} : ∀ {xs : List V} {ds : List PyData}, DtAll K H xs ds → ∀ {v : V} {d : PyData}, Dt K H v d → ∀ j, DtAll K H (xs.set j v) (ds.set j d)
  | _, _, .nil, _, _, _, _ => .nil
  | _, _, .cons a r, _, _, h, 0 => .cons h r
  | _, _, .cons a r, _, _, h, j + 1 => .cons a (dtAll_set r h j)
theorem ss_lput (hw : SimW K FL T tw w) (hi : SimP K FL T ti pa) (hv : SimP K FL T te pb) : SimS K FL T W (tAsg te (gSub tw ti rSetL)) (sLPutP w pa pb) := fun F α H H1 σ g fl g' R h D kk => by
  obtain ⟨v, h1, h⟩ := bind_some h
  obtain ⟨o, h2, h⟩ := bind_some h
  obtain ⟨y, h3, h⟩ := bind_some h
  obtain ⟨k, h4, h⟩ := bind_some h
  obtain ⟨ds, h5, h⟩ := bind_some h
  obtain ⟨j, h6, h⟩ := bind_some h
  cases h
  refine hv F α H H1 σ g v R h1 _ fun u H2 Ha e2 ea xa da => ?_
  have R2 := R.grow e2 ea xa
  obtain ⟨a, k1, k2⟩ := hw F α Ha H2 σ g o R2 h2
  refine k2 _ (hi F α Ha H2 σ g y R2 h3 _ fun yv H3 Hb e3 eb xb db => ?_)
  have R3 := R2.grow e3 eb xb
  obtain ⟨xs, k3, k4⟩ := R3.lst h5 k1
  have hy : yv = .int k := by
    rw [asI_some h4] at db
    exact db.int_eq
  refine ⟨a, xs, k, j, rfl, hy, k3, by rw [k4.length]; exact h6, ?_⟩
  exact kk α Hb _ σ (R3.put k1 (lstAt_cont h5) (.inl ⟨_, rfl⟩) ⟨_, rfl, dtAll_set k4 (Dt.ex xb.ex da) j⟩)
end
end EV

/-! ### zip of a tuple and a list (own work) -/
namespace LR
open PySem PySem.Spec PyProof.Rows L2 Evl
/-- the tuple at a and the list at b as they stand at each turn, the items in new pairs -/
def ItzN (K : PySem.W.Frag) (a b : Addr) : It :=
  ⟨fun i H => ∃ (xs ys : List V) (x y : V), SqT K H a xs ∧ SqL K H b ys ∧ xs[i]? = some x ∧ ys[i]? = some y,
    fun i H v H' => ∃ T x y, v = .ref T ∧ H T = none ∧ H' = upd H T (.tup [x, y]) ∧ (∀ xs, SqT K H a xs → xs[i]? = some x) ∧ ∀ ys, SqL K H b ys → ys[i]? = some y,
    fun i H => ∃ xs ys : List V, SqT K H a xs ∧ SqL K H b ys ∧ i ≤ xs.length ∧ i ≤ ys.length ∧ (i = xs.length ∨ i = ys.length)⟩
theorem turn_zipN {P : Program} {w : World} {K : PySem.W.Frag} {elts : List Expr} {kk : Nat} {tpos : Pos} {a b z TI TO i1 i2 : Addr} (D : MApart z TI TO i1 i2 a b) :
    Turn P w K (.Tuple elts kk tpos) (ItzN K a b) [z, TI, TO, i1, i2] z (fun i h => IsZip h z TI TO .none ∧ IsTupOf2 h TI (.ref i1) (.ref i2) ∧ (∃ x y, IsTupOf2 h TO x y) ∧ h.IsTupleIter i1 a i ∧ h.IsListIter i2 b i) where
  mem := by simp
  obj := fun i h st c hc => by
    obtain ⟨hz, hTI, ⟨x, y, hTO⟩, ⟨o1, e1, _, d1⟩, ⟨o2, e2, _, d2⟩⟩ := st
    have e' : c = z ∨ c = TI ∨ c = TO ∨ c = i1 ∨ c = i2 := by simpa using hc
    rcases e' with q | q | q | q | q
    · rw [q]; exact ⟨_, hz, fun v q => nomatch q⟩
    · rw [q]; exact ⟨_, hTI, fun v q => nomatch q⟩
    · rw [q]; exact ⟨_, hTO, fun v q => nomatch q⟩
    · rw [q]; exact ⟨o1, e1, fun v q => by rw [d1] at q; cases q⟩
    · rw [q]; exact ⟨o2, e2, fun v q => by rw [d2] at q; cases q⟩
  keep := fun i h h' st k => by
    obtain ⟨hz, hTI, ⟨x, y, hTO⟩, h1, h2⟩ := st
    exact ⟨k z (by simp) _ hz, k TI (by simp) _ hTI, ⟨x, y, k TO (by simp) _ hTO⟩, h1.at fun o q => k i1 (by simp) o q, h2.at fun o q => k i2 (by simp) o q⟩
  item := by
    intro X hP hw hK hc i pins s σ H E I hf st hg
    subst hP hw hK
    obtain ⟨hz, hTI, ⟨x0, y0, hTO⟩, h1, h2⟩ := st
    obtain ⟨xs, ys, x, y, hqx, hqy, hx, hy⟩ := hg
    obtain ⟨its, rv, p, _⟩ := I.tuple hqx
    obtain ⟨its2, rv2, p2, _⟩ := I.list hqy
    obtain ⟨u, hu, ru⟩ := rv.get hx
    obtain ⟨u2, hu2, ru2⟩ := rv2.get hy
    have hzl : z < s.heap.objs.size := Heap.lt_size hz
    have hh : X.A.in1.in1.handled = none := by simpa using I.ok.hd hc
    have D1 := Draws.tuple (prog := X.prog) (w := X.w) (A := X.A.in1) (by simpa using I.ok.hd hc) i1 a D.ai1 its.toArray
    have D2 := Draws.list (prog := X.prog) (w := X.w) (A := X.A.in1) (by simpa using I.ok.hd hc) i2 b D.bi2 its2.toArray
    have lt1 : i < its.toArray.size := by simpa using (List.getElem?_eq_some_iff.mp hu).1
    have lt2 : i < its2.toArray.size := by simpa using (List.getElem?_eq_some_iff.mp hu2).1
    refine wpAny_pyNext_zipD2_item D.sep D1 D2 hz hTI hTO ⟨h1, p⟩ ⟨h2, p2.isList⟩ lt1 lt2 fun v1 v2 h' tk y1 y2 z' TO' st1 st2 hT hsz hk => ?_
    have e1 : v1 = u := by
      have : its[i]? = some v1 := by simpa using y1
      rw [hu] at this
      exact (Option.some.inj this).symm
    have e2 : v2 = u2 := by
      have : its2[i]? = some v2 := by simpa using y2
      rw [hu2] at this
      exact (Option.some.inj this).symm
    subst e1 e2
    refine ⟨_, rfl, wpAny_letOwnedTupleGo_zip (s := { s with heap := h', toks := tk }) z' fun h'' z'' sb => ?_⟩
    have hT2 : h''.get? s.heap.objs.size = some { cls := .type "tuple", data := .seq #[v1, v2] } := (sb.2 _ (Nat.ne_of_gt hzl)).trans hT
    have new : ObjOk X.prog X.w (upd H s.heap.objs.size (.tup [x, y])) h'' s.heap.objs.size (.tup [x, y]) :=
      ⟨by show 2 ≤ sizeLine; decide, [v1, v2], .cons ru (.cons ru2 .nil), ⟨_, hT2, rfl, _, rfl⟩⟩
    have I1 : Inv X pins σ (upd H s.heap.objs.size (.tup [x, y])) { s with heap := h'', toks := tk } :=
      I.turnedNew (t' := tk) (ch := [z, TI, TO, i1, i2]) (fun c o hb q => (sb.2 c (fun q' => hb (by simp [q']))).trans (hk c o (fun q' => hb (by simp [q'])) (fun q' => hb (by simp [q'])) (fun q' => hb (by simp [q'])) (fun q' => hb (by simp [q'])) q)) hf (Nat.le_refl _) new
    refine ⟨.ref s.heap.objs.size, _, I1, rfl, ⟨_, x, y, rfl, I.hok.fresh (Nat.le_refl _), rfl, fun l hl => by rw [I.tuple_inj hl hqx]; exact hx, fun l hl => by rw [I.list_inj hl hqy]; exact hy⟩, ⟨z'', ?_, ⟨v1, v2, ?_⟩, ?_, ?_⟩, fun c hcm => ?_⟩
    · exact (sb.2 _ D.TIz).trans (hk _ _ D.TIz D.TITO D.TIi1 D.TIi2 hTI)
    · exact (sb.2 _ D.TOz).trans TO'
    · exact st1.1.at fun o q => (sb.2 _ D.i1z).trans q
    · exact st2.1.at fun o q => (sb.2 _ D.i2z).trans q
    · have hlt : c < s.heap.objs.size := by
        have e' : c = z ∨ c = TI ∨ c = TO ∨ c = i1 ∨ c = i2 := by simpa using hcm
        rcases e' with q | q | q | q | q
        · rw [q]; exact hzl
        · rw [q]; exact Heap.lt_size hTI
        · rw [q]; exact Heap.lt_size hTO
        · rw [q]; obtain ⟨_, e1, _⟩ := h1; exact Heap.lt_size e1
        · rw [q]; obtain ⟨_, e2, _⟩ := h2; exact Heap.lt_size e2
      rw [upd_ne (Nat.ne_of_lt hlt)]
      exact (hf c hcm).1
  done := by
    intro X hP hw hK hc i pins s σ H E I hf st hg
    subst hP hw hK
    obtain ⟨hz, hTI, ⟨x0, y0, hTO⟩, h1, h2⟩ := st
    obtain ⟨xs, ys, hqx, hqy, le1, le2, hend⟩ := hg
    obtain ⟨its, rv, p, _⟩ := I.tuple hqx
    obtain ⟨its2, rv2, p2, _⟩ := I.list hqy
    have l1 := rv.length
    have l2 := rv2.length
    have D1 := Draws.tuple (prog := X.prog) (w := X.w) (A := X.A.in1) (by simpa using I.ok.hd hc) i1 a D.ai1 its.toArray
    have D2 := Draws.list (prog := X.prog) (w := X.w) (A := X.A.in1) (by simpa using I.ok.hd hc) i2 b D.bi2 its2.toArray
    have s1 : its.toArray.size = its.length := by simp
    have s2 : its2.toArray.size = its2.length := by simp
    refine wpAny_pyNext_zipD2_end D.sep D1 D2 hz hTI hTO ⟨h1, p⟩ ⟨h2, p2.isList⟩ (by omega) (by omega) (by omega) fun h' tk hk => ⟨rfl, I.turnedL (t' := tk) (ch := [z, TI, TO, i1, i2]) (fun c o hb q =>
      hk c o (fun q' => hb (by simp [q'])) (fun q' => hb (by simp [q'])) (fun q' => hb (by simp [q'])) (fun q' => hb (by simp [q'])) q) hf⟩
  self := fun A i s Q E st h => wpAny_pyIter_zip st.1 h
def iZipN (K : PySem.W.Frag) (ta : TA) : TI := fun σ H R => ta σ H fun vs H1 => ∃ a b xs ys, vs = [.ref a, .ref b] ∧ SqT K H1 a xs ∧ SqL K H1 b ys ∧ R (ItzN K a b) H1
theorem pi_zipN {X : Cx} {e e2 : Expr} {ta : TA} {p pos tpos : Pos} {elts : List Expr} {kk : Nat} (hg : Gl X "zip") (hm : X.mg "zip" = none) (ha : PA X [e, e2] ta)
    (hs : starEach [e, e2] X.env = (false, eval e X.env) :: starEach [e2] X.env := by rfl) (hpl : (backTo pos (starEach [e2] X.env)).any (·.1) = false := by rfl) :
    PI X (.Tuple elts kk tpos) (.Call (.Name "zip" p) [e, e2] [] pos) (iZipN X.K ta) := by
  refine ⟨fun pins s σ H R I h => ?_⟩
  refine Call_ (ld_blt I hg hm PyProof.Rows.boot_zip (PyProof.Rows.callWith_type1 (thn (ha.run pos pins s σ H _ I h) fun us s1 ⟨vs, H1, I1, r1, q1⟩ => ?_) hs hpl))
  obtain ⟨a, b, xs, ys, ex, hqx, hqy, q⟩ := q1
  subst ex
  cases r1 with
  | cons r rr =>
    cases rr with
    | cons r' rr =>
      cases rr
      cases r
      cases r'
      have fresh5 : ∀ c, c ∈ [s1.heap.objs.size + 4, s1.heap.objs.size + 2, s1.heap.objs.size + 3, s1.heap.objs.size, s1.heap.objs.size + 1] → FpOk X pins H1 c := fun c hcm => by
        have e' : c = s1.heap.objs.size + 4 ∨ c = s1.heap.objs.size + 2 ∨ c = s1.heap.objs.size + 3 ∨ c = s1.heap.objs.size ∨ c = s1.heap.objs.size + 1 := by simpa using hcm
        have hle : s1.heap.objs.size ≤ c := by omega
        exact I1.fpOk hle (I1.hok.fresh hle)
      obtain ⟨its, rv, p1, _⟩ := I1.tuple hqx
      obtain ⟨its2, rv2, p2, _⟩ := I1.list hqy
      obtain ⟨o1, ho1, _⟩ := id p1
      refine zip_begins2 (begins_tuple a its.toArray) (begins_list b its2.toArray) (show s1.heap.IsTuple a its.toArray from p1) p2.isList fun h' hz hTI hTO h1 h2 hsz hk => wpAny_pyIter_zip hz ?_
      have I2 : Inv X pins σ H1 { s1 with heap := h' } := I1.kept (t' := s1.toks) hk
      exact ⟨s1.heap.objs.size + 4, [s1.heap.objs.size + 4, s1.heap.objs.size + 2, s1.heap.objs.size + 3, s1.heap.objs.size, s1.heap.objs.size + 1], _, _, H1, rfl, I2, turn_zipN (mapart (Heap.lt_size ho1) p2.lt), ⟨hz, hTI, ⟨_, _, hTO⟩, ⟨_, h1, rfl, rfl⟩, ⟨_, h2, rfl, rfl⟩⟩, fresh5, q⟩
theorem pi_zipNK {X : Cx} {K : PySem.W.Frag} {e e2 : Expr} {ta : TA} {p pos tpos : Pos} {elts : List Expr} {kk : Nat} (hK : X.K = K) (hg : Gl X "zip") (hm : X.mg "zip" = none) (ha : PA X [e, e2] ta)
    (hs : starEach [e, e2] X.env = (false, eval e X.env) :: starEach [e2] X.env := by rfl) (hpl : (backTo pos (starEach [e2] X.env)).any (·.1) = false := by rfl) :
    PI X (.Tuple elts kk tpos) (.Call (.Name "zip" p) [e, e2] [] pos) (iZipN K ta) := hK ▸ pi_zipN hg hm ha hs hpl
section
variable {K : PySem.W.Frag} {a b : Addr} {xs ys : List V}
theorem walk_zipN {n : Nat} (hn : n = min xs.length ys.length) : Walk (ItzN K a b) n (fun H => SqT K H a xs ∧ SqL K H b ys) (YPair (fun i => xs[i]?) (fun i => ys[i]?)) := by
  refine ⟨fun i H hi h => ?_, fun H h => ?_, fun i H v H' hi h y => ?_⟩
  · have l1 : i < xs.length := by omega
    have l2 : i < ys.length := by omega
    exact ⟨xs, ys, _, _, h.1, h.2, List.getElem?_eq_getElem l1, List.getElem?_eq_getElem l2⟩
  · exact ⟨xs, ys, h.1, h.2, by omega, by omega, by omega⟩
  · obtain ⟨T, x, y, e1, e2, e3, e4, e5⟩ := y
    exact ⟨T, x, y, e1, e2, e3, e4 xs h.1, e5 ys h.2⟩
end
end LR
namespace EV
open PySem PySem.Spec PyProof.Rows L2 Evl L2H LamX LR
section
variable {K : PySem.W.Frag} {FL : Fl} {T : TbS} {ta tb : TE} {pa pb : PM}
def iZipTL (a b : PM) : IM := fun g => (a g).bind fun d => (b g).bind fun e => match d, e with
  | .tuple ds, .list es => some (zipD ds es)
  | _, _ => none
theorem si_zipTL (ha : SimP K FL T ta pa) (hb : SimP K FL T tb pb) : SimI K FL T (iZipN K (tCons ta (tCons tb tNil))) (iZipTL pa pb) := fun F α H H1 σ g out R h Rk k => by
  obtain ⟨d, h1, h⟩ := bind_some h
  obtain ⟨e, h2, h3⟩ := bind_some h
  refine ha F α H H1 σ g d R h1 _ fun u H2 Ha e2 ea xa da => hb F α Ha H2 σ g e (R.grow e2 ea xa) h2 _ fun v H3 Hb e3 eb xb db => ?_
  have da' := Dt.ex xb.ex da
  have fin : ∀ {J G}, (∀ H4, Ex Hb H4 → G H4) → Walk J out.length G (YI K out Hb) → Rk J H3 := fun hG w => k _ _ H3 Hb (e2.trans e3) eb (xa.trans e2 xb) hG w
  split at h3
  · rename_i ds es
    cases h3
    obtain ⟨a, xs, rfl, ha, ra⟩ := da'.tup_eq
    obtain ⟨b, ys, rfl, hb, rb⟩ := db.lst_eq
    refine ⟨a, b, xs, ys, rfl, ex_t eb ha, sq_of (eb b _ hb), fin (G := fun H3 => Ex Hb H3) (fun H3 e3 => e3) ?_⟩
    rw [zip_len]
    refine (walk_zipN (K := K) (a := a) (b := b) (xs := xs) (ys := ys) (by rw [ra.length, rb.length])).mono (fun H3 e3 => ⟨ex_t e3 ha, sq_of (e3 b _ hb)⟩) fun i H3 v H4 hi e3 z => ?_
    obtain ⟨Tt, x, y, h1, h2, h3, h4, h5⟩ := z
    obtain ⟨d, q1, q2⟩ := ra.get' h4
    obtain ⟨d', q3, q4⟩ := rb.get' h5
    exact zip_yi h1 h2 h3 q1 q3 q2 q4
  · cases h3
end
end EV

/-! ### EV: [e == d[x] for x in d], d a dict of one's own (own work) -/
namespace EV
open PySem PySem.Spec PyProof.Rows L2 Evl L2H LamX LR
theorem tabs_swap {T : List (Addr × Str)} {H : Hp} {a : Addr} {o o' : HO} (t : Tabs T H) (ha : H a = some o) (h1 : ∀ ps, o ≠ .tbl ps) (h2 : ∀ φ, o ≠ .ext φ) : Tabs T (upd H a o') := fun p hp => by
  obtain ⟨ps, k1, k2, k3⟩ := t p hp
  refine ⟨ps, upd_keep (fun e => by rw [e, ha] at k1; cases k1; exact h1 ps rfl) k1, k2, fun pos cv hc => ?_⟩
  obtain ⟨c, e1, e2⟩ := k3 pos cv hc
  exact ⟨c, e1, upd_keep (fun e => by rw [e, ha] at e2; exact h2 _ (Option.some.inj e2)) e2⟩
theorem upd_back {H : Hp} {a : Addr} {o : HO} (h : H a = some o) : upd H a o = H := by
  funext b
  by_cases c : b = a
  · subst c; rw [upd_same, h]
  · rw [upd_ne c]
theorem upd_comm {H : Hp} {a b : Addr} {o u : HO} (h : a ≠ b) : upd (upd H a o) b u = upd (upd H b u) a o := by
  funext c
  by_cases c1 : c = a
  · subst c1; rw [upd_ne h, upd_same, upd_same]
  · by_cases c2 : c = b
    · subst c2; rw [upd_same, upd_ne c1, upd_same]
    · rw [upd_ne c2, upd_ne c1, upd_ne c1, upd_ne c2]
section
variable {K : PySem.W.Frag} {FL : Fl} {T : TbS} {W : WX} {te : TE} {ma : EM}
/-- an unowned thing of the frame is another -/
theorem Rel.swap {F F2 : Fr} {α : Al} {H H1 : Hp} {σ : L2.St} {g : Sg} {a : Addr} {o o' : HO} (R : Rel K FL T F α H H1 σ g) (hp : H1 a = some o) (h1 : ∀ ps, o ≠ .tbl ps) (h2 : ∀ φ, o ≠ .ext φ) (hH : H a = none) (hn : ∀ ow, α ow ≠ some a) (e0 : F2.H0 = F.H0) (e1 : F2.a0 = F.a0) (hB : ∀ b, b ≠ a → F2.B b = F.B b) (hBa : F2.B a = some o') (hBo : F.B a = some o) (ho' : ∀ ps, o' ≠ .tbl ps) : Rel K FL T F2 α H (upd H1 a o') σ g := by
  have oth : ∀ {ow b}, α ow = some b → ∀ u, H1 b = some u → upd H1 a o' b = some u := fun {ow b} hb u hu => upd_keep (fun e => hn ow (e ▸ hb)) hu
  refine ⟨⟨ex_off R.ex hH, R.nt, tabs_swap R.tb hp h1 h2, R.inj, R.off, fun ow b hb => ?_, fun i ob hs => ?_, R.dom⟩, ⟨by rw [e0]; exact R.ext.ex, fun b u h => ?_⟩, fun b u h => ?_, fun hT b ps h => ?_, fun ow b hb => ?_, fun i b h => R.old i b (by rw [← e1]; exact h), R.len, fun j v hj => ?_⟩
  · obtain ⟨u, hu, pu⟩ := R.pl ow b hb
    exact ⟨u, oth hb u hu, pu⟩
  · obtain ⟨b, k1, k2⟩ := R.sto i ob hs
    exact ⟨b, k1, k2.ex (Ex.refl _) (fun _ _ z => z) (fun f c z => ⟨z, oth z⟩) (oth k1)⟩
  · rcases R.ext.fresh b u h with z | ⟨z, y⟩
    · exact .inl (by rw [e0]; exact z)
    · refine .inr ⟨?_, y⟩
      rw [hB b (fun e => by rw [e, hBo] at z; cases z)]
      exact z
  · by_cases c : b = a
    · subst c; rw [hBa] at h; cases h; exact upd_same
    · rw [hB b c] at h; rw [upd_ne c]; exact R.gro b u h
  · by_cases c : b = a
    · subst c; rw [hBa] at h; exact ho' ps (Option.some.inj h)
    · rw [hB b c] at h; exact R.ntB hT b ps h
  · rw [hB b (fun e => hn ow (e ▸ hb))]
    exact R.offB ow b hb
  · obtain ⟨u, k1, k2⟩ := R.slt j v hj
    exact ⟨u, k1, k2.ex (Ex.refl _) (fun _ _ z => z) fun b z => ⟨z, oth z⟩⟩
theorem base_upd {α : Al} {H1 : Hp} {a b : Addr} {o : HO} (h : b ≠ a) : baseOf α (upd H1 a o) b = baseOf α H1 b := by
  unfold baseOf
  rw [upd_ne h]
def lcEq1 (x : Nat) (el : EM) (kv : List (Key × PyData)) (g : Sg) (k : Key) : Option (PyData × Sg) := (gmName x (keyV k) (g.inner [x])).bind fun g1 => (el g1).bind fun q => match q.1 with
  | .ok (.dat z) => (valD kv k).bind fun v => (fEq z v).map fun b => (b, ⟨g.sl, q.2.st⟩)
  | _ => none
def lcEqA (x : Nat) (el : EM) (kv : List (Key × PyData)) : List Key → List PyData → Sg → Option (List PyData × Sg)
  | [], acc, g => some (acc, g)
  | k :: r, acc, g => (lcEq1 x el kv g k).bind fun q => lcEqA x el kv r (acc ++ [q.1]) q.2
def mLcEqD (x j : Nat) (el : EM) : EM := fun g => (wVar j g).bind fun o => match o with
  | .slot i => (dicAt g (.slot i)).bind fun kv => if kv.length ≤ 50000 ∧ x ≠ j ∧ i = j ∧ x < g.sl.length then (lcEqA x el kv (kv.map (·.1)) [] g).map fun p => (.ok (.dat (.list p.1)), p.2) else none
  | _ => none
theorem key_dt {H : Hp} (k : Key) : Dt K H (kV k) (keyV k) := by
  cases k with
  | inl i => exact .int i
  | inr z => exact .str z
theorem se_lcEqD {x j : Nat} (hT : T.fl = true) (he : SimE K FL T W0 te ma) : SimE K FL T W (tLockE (tLc (iKeys (tVar j)) (gName x) tYes (tOp (rEqU K) te (tDGet (tVar j) (tVar x))) [x])) (mLcEqD x j ma) := fun F α H H1 σ g r g' R h Q q => by
  obtain ⟨o, h0, h⟩ := bind_some h
  cases o with
  | ob i => cases h
  | fld i f => cases h
  | slot i =>
    obtain ⟨kv, h2, h⟩ := bind_some (show (dicAt g (.slot i)).bind _ = some (r, g') from h)
    have h : (if kv.length ≤ 50000 ∧ x ≠ j ∧ i = j ∧ x < g.sl.length then (lcEqA x ma kv (kv.map (·.1)) [] g).map (fun p => (Except.ok (Rv.dat (.list p.1)), p.2)) else none) = some (r, g') := h
    by_cases hc : kv.length ≤ 50000 ∧ x ≠ j ∧ i = j ∧ x < g.sl.length
    case neg => rw [if_neg hc] at h; cases h
    rw [if_pos hc] at h
    have h3 := h
    obtain ⟨hl, hxj, rfl, hxg⟩ := hc
    obtain ⟨⟨out, g2⟩, h4, h5⟩ := Option.map_eq_some_iff.mp h3
    cases h5
    have hs : g.sl[i]? = some (some (.ownD kv)) := by
      have hc := dicAt_cont h2
      unfold contAt at hc
      cases hk : g.sl[i]? with
      | none => simp only [hk] at hc; cases hc
      | some y =>
        cases y with
        | none => simp only [hk] at hc; cases hc
        | some z => simp only [hk] at hc; cases hc; rfl
    obtain ⟨u0, k1, a, rfl, k2, ws, k3, k4⟩ := R.slt i _ hs
    have hHa := R.off _ a k2
    have ki : KvI K H ws kv := KvR.i k4
    refine ⟨a, .dK ws, k3, trivial, fun od => ?_⟩
    have ntD : ∀ ps, HO.dK ws ≠ .tbl ps := fun ps z => nomatch z
    have ntF : ∀ ps, HO.frz od (.dK ws) ≠ .tbl ps := fun ps z => nomatch z
    have nxD : ∀ φ, HO.dK ws ≠ .ext φ := fun ps z => nomatch z
    have nxF : ∀ φ, HO.frz od (.dK ws) ≠ .ext φ := fun ps z => nomatch z
    refine ⟨.ref a, k1, a, od, rfl, .inl ⟨ws, upd_same, fun Dl hD => ?_⟩⟩
    have hDa : Dl ≠ a := fun e => by rw [e, upd_same] at hD; cases hD
    have hD1 : H1 Dl = none := by rw [upd_ne hDa] at hD; exact hD
    obtain ⟨f1, f2, f3⟩ := R.fresh hD1
    refine lc_it (walk_keys (d := a) (o := od) (kvs := ws))
      (fun n Hr => ∃ α' H' acc dn gi, Rel K FL T F α' H' (upd Hr a (.dK ws)) σ gi ∧ Stp α H α' H' ∧ Hr a = some (.frz od (.dK ws)) ∧ H' Dl = none ∧ Hr Dl = some (.lst acc) ∧ (∀ o, α' o ≠ some Dl) ∧ DtAll K H' acc dn ∧ acc.length ≤ n ∧ lcEqA x ma kv ((kv.map (·.1)).drop n) dn gi = some (out, g2)) ?_ ?_ ?_ ?_
    · refine ⟨α, H, [], [], g, ?_, Stp.refl _ _, by rw [upd_ne (Ne.symm hDa), upd_same], f1, upd_same, f3, .nil, Nat.le_refl _, h4⟩
      rw [upd_comm hDa, upd_upd, upd_back k3]
      exact R.same (Ex.new hD1)
    · rintro n Hr hn ⟨α', H', acc, dn, gi, a1, a2, a3, _⟩
      exact a3
    · rintro n xv Hr H3 hn ⟨α', H', acc, dn, gi, a1, a2, a3, a4, a5, a6, a7, a8, a9⟩ ⟨rfl, k, v, y1, rfl⟩
      have sa : α' (.slot i) = some a := (a2.sl i).trans k2
      have ne : ∀ ow, stoA α' ow ≠ some a := stoA_ne a1.inj sa
      have hH'a : H' a = none := a1.off _ a sa
      have hU : upd H3 a (.dK ws) a = some (.dK ws) := upd_same
      have lock : upd (upd H3 a (.dK ws)) a (.frz od (.dK ws)) = H3 := by rw [upd_upd, upd_back a3]
      have Ri : Rel K FL T ⟨H', baseOf (stoA α') H3, fun i => stoA α' (.ob i)⟩ (stoA α') H' H3 (L2.wipe σ [x]) (gi.inner [x]) := by
        have := (a1.inner [x]).swap (F2 := ⟨H', baseOf (stoA α') H3, fun i => stoA α' (.ob i)⟩) (o' := .frz od (.dK ws)) hU ntD nxD hH'a ne rfl rfl (fun b hb => by
          show baseOf (stoA α') H3 b = baseOf (stoA α') (upd H3 a (.dK ws)) b
          rw [base_upd hb]) (base_at ne ntF a3) (base_at ne ntD hU) ntF
        rw [lock] at this
        exact this
      have hk : (kv.map (·.1)).drop n = k :: (kv.map (·.1)).drop (n + 1) := by
        rw [← ki.keys]
        have hlen : n < (ws.map (·.1)).length := by rw [List.length_map]; exact hn
        rw [List.drop_eq_getElem_cons hlen]
        have e : (ws.map (·.1))[n]? = some k := by rw [List.getElem?_map, y1]; rfl
        rw [List.getElem?_eq_getElem hlen] at e
        rw [Option.some.inj e]
      rw [hk] at a9
      obtain ⟨⟨b, gn⟩, e1, e2⟩ := bind_some a9
      obtain ⟨g1, e3, e4⟩ := bind_some e1
      obtain ⟨⟨rb, g5⟩, e5, e6⟩ := bind_some e4
      obtain ⟨σ2, R2, w2, q2⟩ := sg_name _ _ H' H3 (L2.wipe σ [x]) (gi.inner [x]) g1 (kV k) (keyV k) Ri (key_dt k) e3
      show (fun σ2 H2 => L2.wipe σ2 [x] = L2.wipe σ [x] ∧ _) ((L2.wipe σ [x]).set x (some (kV k))) H3
      have hσ2 : L2.wipe ((L2.wipe σ [x]).set x (some (kV k))) [x] = L2.wipe σ [x] := by
        rw [wipe_set (by simp)]
        show (L2.wipe (σ.set x none) [x]) = _
        rw [wipe_set (by simp)]
      have R2' : Rel K FL T ⟨H', baseOf (stoA α') H3, fun i => stoA α' (.ob i)⟩ (stoA α') H' H3 ((L2.wipe σ [x]).set x (some (kV k))) g1 := by
        cases e3
        exact Ri.set x (key_dt k)
      refine ⟨hσ2, ?_⟩
      unfold tYes
      dsimp only
      rw [if_pos rfl]
      cases rb with
      | error er => cases e6
      | ok vv =>
        cases vv with
        | at_ ow => cases e6
        | dat z =>
          obtain ⟨v', e7, e8⟩ := bind_some (show (valD kv k).bind _ = some (b, gn) from e6)
          obtain ⟨bb, e9, e10⟩ := Option.map_eq_some_iff.mp e8
          cases e10
          refine he _ _ H' H3 _ g1 _ g5 R2' e5 _ fun α5 Hf H5 u R5 s5 ru => ?_
          have frz5 : H5 a = some (.frz od (.dK ws)) := R5.gro a _ (base_at ne ntF a3)
          have sj : ((L2.wipe σ [x]).set x (some (kV k)))[i]? = some (some (.ref a)) := by
            rw [List.getElem?_set_ne hxj]
            show ((σ.set x none))[i]? = _
            rw [List.getElem?_set_ne hxj]
            exact k1
          have hxl : x < σ.length := by
            rw [R.len]
            exact hxg
          have sx : ((L2.wipe σ [x]).set x (some (kV k)))[x]? = some (some (kV k)) := by
            rw [List.getElem?_set_self]
            show x < (σ.set x none).length
            rw [List.length_set]
            exact hxl
          rcases (ki.val k) with ⟨_, z0⟩ | ⟨v2, d2, z1, z2, z3⟩
          · rw [e7] at z0; cases z0
          · rw [e7] at z2
            cases z2
            refine ⟨.ref a, sj, kV k, sx, a, v2, rfl, .inl ⟨ws, k, .inr ⟨od, frz5⟩, rfl, z1.symm⟩, ?_⟩
            refine od_eq z v' b e9 Hf Hf u v2 (Ex.refl _) ru (Dt.ex (a2.ex.trans s5.ex) z3) H5 R5.ex _ fun w H6 Hg e6' eg xg dw => ?_
            have R6 := R5.grow e6' eg xg
            have frz6 : H6 a = some (.frz od (.dK ws)) := e6' a _ frz5
            have hnb : baseOf (stoA α') H3 a = some (.frz od (.dK ws)) := base_at ne ntF a3
            have n5 : ∀ ow, α5 ow ≠ some a := fun ow hw => by
              have z : baseOf (stoA α') H3 a = none := R6.offB ow a hw
              rw [hnb] at z
              cases z
            have hga : Hg a = none := R6.frm.of a _ hH'a a3 ne ntF
            have R7 : Rel K FL T ⟨H', baseOf (stoA α') (upd H3 a (.dK ws)), fun i => stoA α' (.ob i)⟩ α5 Hg (upd H6 a (.dK ws)) _ g5 := R6.swap frz6 ntF nxF hga n5 rfl rfl (fun b hb => base_upd hb) (base_at ne ntD hU) hnb ntD
            have fm := R7.frm
            obtain ⟨z1', z2'⟩ := a1.call hT R7.toRelS.sto_only fm
            have uD : upd H3 a (.dK ws) Dl = some (.lst acc) := by rw [upd_ne hDa]; exact a5
            have neD : ∀ ow, stoA α' ow ≠ some Dl := fun ow h => a6 ow (stoA_sub h)
            have lD : ∀ ps, HO.lst acc ≠ .tbl ps := fun ps z => nomatch z
            have hD6 := fm.fr Dl _ uD neD lD
            have hgD := fm.of Dl _ a4 uD neD lD
            have h6D : H6 Dl = some (.lst acc) := by rw [upd_ne hDa] at hD6; exact hD6
            have z5 : ∀ ow, merge α' (stoA α5) ow ≠ some Dl := fun ow h => by
              cases ow with
              | slot j => exact a6 _ h
              | ob m =>
                rcases fm.nw (.ob m) Dl h with ⟨o', z⟩ | z | ⟨qs, z⟩
                · exact neD o' z
                · rw [uD] at z; cases z
                · rw [uD] at z; cases z
              | fld m f =>
                rcases fm.nw (.fld m f) Dl h with ⟨o', z⟩ | z | ⟨qs, z⟩
                · exact neD o' z
                · rw [uD] at z; cases z
                · rw [uD] at z; cases z
            refine ⟨acc, h6D, sz_lt (by have := ki.len; omega), merge α' (stoA α5), Hg, acc ++ [w], dn ++ [b], _, ?_, a2.trans z2', ?_, hgD, upd_same, z5, (DtAll.ex z2'.ex a7).append (.cons dw .nil), ?_, e2⟩
            · rw [upd_comm hDa]
              exact z1'.upd0 hD6 trivial hgD f2 z5
            · rw [upd_ne (Ne.symm hDa)]; exact frz6
            · rw [List.length_append]
              exact Nat.succ_le_succ a8
    · rintro Hr ⟨α', H', acc, dn, gi, a1, a2, a3, a4, a5, a6, a7, a8, a9⟩
      have hn : (kv.map (·.1)).drop ws.length = [] := by
        rw [ki.len]
        exact List.drop_eq_nil_of_le (by rw [List.length_map]; exact Nat.le_refl _)
      rw [hn] at a9
      cases a9
      refine ⟨a3, ?_⟩
      obtain ⟨R2, hx⟩ := a1.lay f2 a4 (by rw [upd_ne hDa]; exact a5) a6
      exact q α' _ _ _ R2 (a2.trans (Stp.of hx)) (.lst upd_same (DtAll.ex hx a7))
end
end EV

/-! ### EV: o.m() whose parameter has a default (own work) -/
namespace LR
open PySem PySem.Spec PyProof.Rows L2
/-- an empty tuple of the top -/
def tupE (a : PySem.W.Frag → Addr) (K : PySem.W.Frag) : Bool := match K.lookup (a K) with
  | some o => (match o.cls, o.data with
    | .type n, .seq its _ => decide (n = "tuple") && decide (its.toList = [])
    | _, _ => false)
  | none => false
theorem tupE_ok {a : PySem.W.Frag → Addr} {K : PySem.W.Frag} (h : tupE a K = true) (H : Hp) : SqT K H (a K) [] := by
  unfold tupE at h
  cases e : K.lookup (a K) with
  | none => rw [e] at h; cases h
  | some o =>
    rw [e] at h
    have h : (match o.cls, o.data with
      | .type n, .seq its _ => decide (n = "tuple") && decide (its.toList = [])
      | _, _ => false) = true := h
    split at h
    · rename_i n its m h1 h2
      rw [Bool.and_eq_true] at h
      have e1 := of_decide_eq_true h.1
      have e2 := of_decide_eq_true h.2
      subst e1
      exact .inr ⟨o, its, m, e, h1, h2, by have := congrArg List.length e2; simp at this; simp [this], by rw [e2]; exact .nil⟩
    · cases h
end LR
namespace EV
open PySem PySem.Spec PyProof.Rows L2 Evl L2H LamX LR
structure MxD (P : Program) (w : World) (K : PySem.W.Frag) (C : Addr) (mg : Str → Option Value) (base : Heap) (k : Nat) (m : Str) (ps : List Str) (sp : Sp) (dvs : List V) : Prop where
  ex : ∃ (f : Addr) (fd : FuncData) (ds : List Value), FnOk P w K mg base (CXL P w) k f fd ps sp ∧ Meth K C m f ∧ Binds K fd ps ds ∧ Vals dvs ds
section
variable {X : Cx} {k j : Nat} {ps : List Str} {sp : Sp} {W : WX} {apos pos : Pos} {o : Expr} {ta : TE} {dvs : List V}
theorem pe_mxGD {C : Addr} {m : Str} {pl : Sem Bool} (hx : ∀ σ, PassesAt (CXL X.prog X.w) X σ (WE W σ)) (c : MxD X.prog X.w X.K C X.mg X.base k m ps sp dvs) (hC : Cls X.K C) (hr : Room j X.A) (hk : k ≤ j) (ho : PE X o ta)
    (ht : eval (.Call (.Attribute o m apos) [] [] pos) X.env = (do
      let ov ← eval o X.env
      standAt apos.atName
      let (f, first) ← holding [ov] (getMethod ov m pl)
      callWith pos f first (backTo pos (starEach [] X.env)) (backToKw pos (keywordEach [] X.env))) := by rfl) :
    PE X (.Call (.Attribute o m apos) [] [] pos) (tMethW C m sp (WE W) ta (fun _ H Q => Q dvs H)) := by
  obtain ⟨f, fd, ds, F, hm, b, vd⟩ := c.ex
  refine ⟨fun pins s σ H Q I h => ?_⟩
  refine PySem.W.methodCall_KW (pl := pl) (thn (ho.run pins s σ H _ I h) fun u s1 ⟨x, H1, I1, rx, a, dx, fs, ex, ea, l, q⟩ => ?_) ht
  subst ex
  obtain rfl : u = Value.ref a := rx
  refine getmeth_ok I1 ea hC hm l ?_
  exact PySem.W.callWith_K0 (first := [.ref a]) I1.kIn hm.kp (run_fnSD (us := [.ref a]) (vs := [.ref a]) F (hr.mono hk) b vd (hx σ) I1 (.cons rfl .nil) q)
end
section
variable {K : PySem.W.Frag} {FL : Fl} {T : TbS} {W : WX} {dvs : List V}
def aDfl (ds : List PyData) : AM := fun g => some (.ok (ds.map .dat), g)
theorem paired_dat {α : Al} {H : Hp} : ∀ {vs : List V} {ds : List PyData}, DtAll K H vs ds → Paired (RR K α H) vs (ds.map .dat)
  | _, _, .nil => .nil
  | _, _, .cons a r => .cons a (paired_dat r)
theorem sa_dfl {ds : List PyData} (h : ∀ H, DtAll K H dvs ds) : SimA K FL T W (fun _ H Q => Q dvs H) (aDfl ds) := fun F α H H1 σ g r g' R hm Q q => by
  cases hm
  exact q α H H1 dvs R (Stp.refl _ _) (paired_dat (h H))
end
end EV

namespace LR
open PySem PySem.Spec PySem.W PySem.Calls PyProof.Rows L2
def top (i : Nat) : Stmt := PySem.Challenge.pw_leafroom_k10_whole_disks.main.body.getD i (.Pass ⟨0, 0, 0, 0⟩)
abbrev s_wall : Stmt := (top 0)
abbrev s_is_whole : Stmt := (top 8)
abbrev s_look_whole : Stmt := (top 9)
abbrev s_Disk___init__ : Stmt := (inClass (top 15) 0)
abbrev s_Disk___len__ : Stmt := (inClass (top 15) 1)
abbrev s_Disk_burn : Stmt := (inClass (top 15) 2)
abbrev s_Disk_write : Stmt := (inClass (top 15) 3)
abbrev s_Disk_read : Stmt := (inClass (top 15) 4)
abbrev s_Disk_settle : Stmt := (inClass (top 15) 5)
abbrev s_Disk_take_off : Stmt := (inClass (top 15) 6)
abbrev s_Disk_set_fuse : Stmt := (inClass (top 15) 7)
abbrev s_Disk_fall : Stmt := (inClass (top 15) 8)
abbrev s_Disk_loose_ones : Stmt := (inClass (top 15) 9)
abbrev s_Disk_numbers : Stmt := (inClass (top 15) 10)
abbrev s_Disk_counts : Stmt := (inClass (top 15) 11)
abbrev s_law_pick : Stmt := (top 17)
abbrev s_law : Stmt := (top 18)
def d_is_whole : He.DefD := ⟨("is_whole", none), "is_whole", "is_whole", defArgs s_is_whole, defBody s_is_whole, defScope s_is_whole, [], []⟩
def d_look_whole : He.DefD := ⟨("look_whole", none), "look_whole", "look_whole", defArgs s_look_whole, defBody s_look_whole, defScope s_look_whole, [], []⟩
def d_Disk___init__ : He.DefD := ⟨("Disk", some "__init__"), "__init__", "Disk.__init__", defArgs s_Disk___init__, defBody s_Disk___init__, defScope s_Disk___init__, [], [("wide", .int 160)]⟩
def d_Disk___len__ : He.DefD := ⟨("Disk", some "__len__"), "__len__", "Disk.__len__", defArgs s_Disk___len__, defBody s_Disk___len__, defScope s_Disk___len__, [], []⟩
def d_Disk_burn : He.DefD := ⟨("Disk", some "burn"), "burn", "Disk.burn", defArgs s_Disk_burn, defBody s_Disk_burn, defScope s_Disk_burn, [], []⟩
def d_Disk_write : He.DefD := ⟨("Disk", some "write"), "write", "Disk.write", defArgs s_Disk_write, defBody s_Disk_write, defScope s_Disk_write, [], []⟩
def d_Disk_read : He.DefD := ⟨("Disk", some "read"), "read", "Disk.read", defArgs s_Disk_read, defBody s_Disk_read, defScope s_Disk_read, [], []⟩
def d_Disk_settle : He.DefD := ⟨("Disk", some "settle"), "settle", "Disk.settle", defArgs s_Disk_settle, defBody s_Disk_settle, defScope s_Disk_settle, [], []⟩
def d_Disk_fall : He.DefD := ⟨("Disk", some "fall"), "fall", "Disk.fall", defArgs s_Disk_fall, defBody s_Disk_fall, defScope s_Disk_fall, [.adr (He.dflAt ("Disk", some "fall") 0)], []⟩
def d_Disk_loose_ones : He.DefD := ⟨("Disk", some "loose_ones"), "loose_ones", "Disk.loose_ones", defArgs s_Disk_loose_ones, defBody s_Disk_loose_ones, defScope s_Disk_loose_ones, [], []⟩
def d_Disk_numbers : He.DefD := ⟨("Disk", some "numbers"), "numbers", "Disk.numbers", defArgs s_Disk_numbers, defBody s_Disk_numbers, defScope s_Disk_numbers, [], []⟩
def d_Disk_counts : He.DefD := ⟨("Disk", some "counts"), "counts", "Disk.counts", defArgs s_Disk_counts, defBody s_Disk_counts, defScope s_Disk_counts, [], []⟩
def d_law_pick : He.DefD := ⟨("_law_pick", none), "_law_pick", "_law_pick", defArgs s_law_pick, defBody s_law_pick, defScope s_law_pick, [], []⟩
def d_law : He.DefD := ⟨("law", none), "law", "law", defArgs s_law, defBody s_law, defScope s_law, [], []⟩
def fn0 : List He.DefD := [d_is_whole, d_look_whole, d_Disk___init__, d_Disk___len__, d_Disk_burn, d_Disk_write, d_Disk_read, d_Disk_settle, d_Disk_fall, d_Disk_loose_ones, d_Disk_numbers, d_Disk_counts, d_law_pick, d_law]
def fn : List He.DefD := fn0
def fa0 : List He.Fa := [.glo "is_whole", .glo "look_whole", .glo "_law_pick", .glo "law", .free "len", .free "isinstance", .free "str", .free "int", .free "bool", .free "list", .free "tuple", .free "dict", .free "set", .free "all", .free "max", .free "sorted", .free "range", .free "zip", .free "ValueError", .int "LOST" (0), .int "KEPT" (1), .int "TORN" (2), .int "MOST_PIECES" (9999), .glo "LeafError", .glo "NoNumber", .glo "NoPiece", .glo "NoChoices", .glo "Fallen", .glo "Disk", .cls "Disk"]
def fa1 : List He.Fa := [.mkr "Disk", .noat "Disk" "many_writes", .noat "Disk" "many_reads", .noat "Disk" "many_settles", .noat "Disk" "wide", .noat "Disk" "settled_ones", .noat "Disk" "loose", .noat "Disk" "fuse", .noat "Disk" "has_fallen", .meth "Disk" "__len__", .meth "Disk" "burn", .meth "Disk" "write", .meth "Disk" "read", .meth "Disk" "settle", .meth "Disk" "fall", .meth "Disk" "loose_ones", .meth "Disk" "numbers", .meth "Disk" "counts"]
def fa : List He.Fa := fa0 ++ fa1
def tf : List He.Defn := []
def ts : List He.Tab := []
def tabNd (K : PySem.W.Frag) : Bool := decide (tf.map fun p => (He.cT K p).2).Nodup
def ex (K : PySem.W.Frag) : Bool := tabNd K && (exOk ["NoNumber", "NoPiece", "NoChoices", "Fallen"] K && (tupE (He.dflAt ("Disk", some "fall") 0) K))
def as0 : List Addr := [3, 21, 20, 31, 30, 44, 43, 56, 55, 68, 67, 80, 79, 89, 88, 96, 95, 183, 182, 111, 110, 104, 116, 115, 123, 122, 130, 129, 135, 134, 142, 141, 149, 148, 156, 155, 163, 162, 158, 157]
def as1 : List Addr := [168, 167, 173, 172, 180, 179, 194, 193, 199, 198]
def as : List Addr := as0 ++ as1
def nms0 : List PySem.Str := ["_wall", "LeafError", "NoNumber", "NoPiece", "NoChoices", "Fallen", "is_whole", "look_whole", "LOST", "KEPT", "TORN", "MOST_PIECES", "Disk", "_law_pick"]
def nms : List PySem.Str := nms0
abbrev R : PySem.W.OpenRow := PySem.W.OpenLaw.row PySem.Challenge.rw_leafroom_k10_whole_disks
abbrev qv : Program := PySem.W.view R.prog [18]
abbrev hk : PySem.W.Hook := hookA as fa fn tf ex ts
def ob (s : PySem.W.SharedT) : ObA := obsA as fa fn tf ex ts (HandSHeadRun.getT s)
theorem ob_eq (s : PySem.W.SharedT) : ob s = hk.obs s.abs := obsA_eq (HandSHeadRun.getT_eq s)
theorem run_looksF (w : World) (os : OsState) : (HandSHeadRun.endF (HandSHeadRun.stepQ (HandSHeadRun.denQ HandSHeadRun.tabQ) R.prog (w.withFollow "special-get-raises" false)) 20000 R.prog (w.withFollow "special-get-raises" false) os).map (fun s => HandSHeadRun.looksF R.prog (boot_heap (w.withFollow "special-get-raises" false).params) s.abs) = some (true) := by
  kernel_rfl
theorem run_seenF (w : World) (os : OsState) : (HandSHeadRun.endF (HandSHeadRun.stepQ (HandSHeadRun.denQ HandSHeadRun.tabQ) R.prog (w.withFollow "special-get-raises" false)) 20000 R.prog (w.withFollow "special-get-raises" false) os).map (fun s => HandSHeadRun.seenQ qv nms (importedModules R.prog.main.body) (fun s => PySem.W.xlAt qv [] s && PySem.W.recOk R.toRowW.records s) s.abs) = some (PySem.W.openGood qv nms) := by
  kernel_rfl
theorem run_okAF (w : World) (os : OsState) : (HandSHeadRun.endF (HandSHeadRun.stepQ (HandSHeadRun.denQ HandSHeadRun.tabQ) R.prog (w.withFollow "special-get-raises" false)) 20000 R.prog (w.withFollow "special-get-raises" false) os).map (fun s => okA as fa (HandSHeadRun.getT s)) = some (true) := by
  kernel_rfl
theorem run_okDF (w : World) (os : OsState) : (HandSHeadRun.endF (HandSHeadRun.stepQ (HandSHeadRun.denQ HandSHeadRun.tabQ) R.prog (w.withFollow "special-get-raises" false)) 20000 R.prog (w.withFollow "special-get-raises" false) os).map (fun s => okD as fn (HandSHeadRun.getT s)) = some (true) := by
  kernel_rfl
theorem run_fnAF (w : World) (os : OsState) : (HandSHeadRun.endF (HandSHeadRun.stepQ (HandSHeadRun.denQ HandSHeadRun.tabQ) R.prog (w.withFollow "special-get-raises" false)) 20000 R.prog (w.withFollow "special-get-raises" false) os).map (fun s => fnA as fn (HandSHeadRun.getT s)) = some (fn.map He.DefD.val) := by
  kernel_rfl
theorem run_exF (w : World) (os : OsState) : (HandSHeadRun.endF (HandSHeadRun.stepQ (HandSHeadRun.denQ HandSHeadRun.tabQ) R.prog (w.withFollow "special-get-raises" false)) 20000 R.prog (w.withFollow "special-get-raises" false) os).map (fun s => ex (He.frG (HandSHeadRun.getT s) as) && tabA as tf (HandSHeadRun.getT s)) = some (true) := by
  kernel_rfl
theorem run_dicF (w : World) (os : OsState) : (HandSHeadRun.endF (HandSHeadRun.stepQ (HandSHeadRun.denQ HandSHeadRun.tabQ) R.prog (w.withFollow "special-get-raises" false)) 20000 R.prog (w.withFollow "special-get-raises" false) os).map (fun s => dicA as ts (HandSHeadRun.getT s)) = some (ts.map fun t => some (He.keysIn (w.withFollow "special-get-raises" false).params t.2)) := by
  kernel_rfl
theorem runF (w : World) : HandSHeadRun.RunEq R qv hk ob 20000 nms (w.withFollow "special-get-raises" false) := fun os => map_pair (run_looksF w os) (map_pair (run_seenF w os) (map_pair (run_okAF w os) (map_pair (run_okDF w os) (map_pair (run_fnAF w os) (map_pair (run_exF w os) (run_dicF w os))))))
theorem run_looksT (w : World) (os : OsState) : (HandSHeadRun.endF (HandSHeadRun.stepQ (HandSHeadRun.denQ HandSHeadRun.tabQ) R.prog (w.withFollow "special-get-raises" true)) 20000 R.prog (w.withFollow "special-get-raises" true) os).map (fun s => HandSHeadRun.looksF R.prog (boot_heap (w.withFollow "special-get-raises" true).params) s.abs) = some (true) := by
  kernel_rfl
theorem run_seenT (w : World) (os : OsState) : (HandSHeadRun.endF (HandSHeadRun.stepQ (HandSHeadRun.denQ HandSHeadRun.tabQ) R.prog (w.withFollow "special-get-raises" true)) 20000 R.prog (w.withFollow "special-get-raises" true) os).map (fun s => HandSHeadRun.seenQ qv nms (importedModules R.prog.main.body) (fun s => PySem.W.xlAt qv [] s && PySem.W.recOk R.toRowW.records s) s.abs) = some (PySem.W.openGood qv nms) := by
  kernel_rfl
theorem run_okAT (w : World) (os : OsState) : (HandSHeadRun.endF (HandSHeadRun.stepQ (HandSHeadRun.denQ HandSHeadRun.tabQ) R.prog (w.withFollow "special-get-raises" true)) 20000 R.prog (w.withFollow "special-get-raises" true) os).map (fun s => okA as fa (HandSHeadRun.getT s)) = some (true) := by
  kernel_rfl
theorem run_okDT (w : World) (os : OsState) : (HandSHeadRun.endF (HandSHeadRun.stepQ (HandSHeadRun.denQ HandSHeadRun.tabQ) R.prog (w.withFollow "special-get-raises" true)) 20000 R.prog (w.withFollow "special-get-raises" true) os).map (fun s => okD as fn (HandSHeadRun.getT s)) = some (true) := by
  kernel_rfl
theorem run_fnAT (w : World) (os : OsState) : (HandSHeadRun.endF (HandSHeadRun.stepQ (HandSHeadRun.denQ HandSHeadRun.tabQ) R.prog (w.withFollow "special-get-raises" true)) 20000 R.prog (w.withFollow "special-get-raises" true) os).map (fun s => fnA as fn (HandSHeadRun.getT s)) = some (fn.map He.DefD.val) := by
  kernel_rfl
theorem run_exT (w : World) (os : OsState) : (HandSHeadRun.endF (HandSHeadRun.stepQ (HandSHeadRun.denQ HandSHeadRun.tabQ) R.prog (w.withFollow "special-get-raises" true)) 20000 R.prog (w.withFollow "special-get-raises" true) os).map (fun s => ex (He.frG (HandSHeadRun.getT s) as) && tabA as tf (HandSHeadRun.getT s)) = some (true) := by
  kernel_rfl
theorem run_dicT (w : World) (os : OsState) : (HandSHeadRun.endF (HandSHeadRun.stepQ (HandSHeadRun.denQ HandSHeadRun.tabQ) R.prog (w.withFollow "special-get-raises" true)) 20000 R.prog (w.withFollow "special-get-raises" true) os).map (fun s => dicA as ts (HandSHeadRun.getT s)) = some (ts.map fun t => some (He.keysIn (w.withFollow "special-get-raises" true).params t.2)) := by
  kernel_rfl
theorem runT (w : World) : HandSHeadRun.RunEq R qv hk ob 20000 nms (w.withFollow "special-get-raises" true) := fun os => map_pair (run_looksT w os) (map_pair (run_seenT w os) (map_pair (run_okAT w os) (map_pair (run_okDT w os) (map_pair (run_fnAT w os) (map_pair (run_exT w os) (run_dicT w os))))))
theorem run (w : World) : HandSHeadRun.RunEq R qv hk ob 20000 nms w := PySem.W.byRow2 "special-get-raises" runF runT w
end LR
namespace LR
open PySem PySem.Spec PyProof.Rows L2 Evl
/-- what the walk asks of the module's names -/
structure Txt (mg : Str → Option Value) : Prop where
  m_len : mg "len" = none
  m_isinstance : mg "isinstance" = none
  m_str : mg "str" = none
  m_int : mg "int" = none
  m_bool : mg "bool" = none
  m_list : mg "list" = none
  m_tuple : mg "tuple" = none
  m_dict : mg "dict" = none
  m_set : mg "set" = none
  m_all : mg "all" = none
  m_max : mg "max" = none
  m_sorted : mg "sorted" = none
  m_range : mg "range" = none
  m_zip : mg "zip" = none
  m_ValueError : mg "ValueError" = none
  c_LOST : ∃ u, mg "LOST" = some u ∧ RelV (.int 0) u
  c_KEPT : ∃ u, mg "KEPT" = some u ∧ RelV (.int 1) u
  c_TORN : ∃ u, mg "TORN" = some u ∧ RelV (.int 2) u
  c_MOST_PIECES : ∃ u, mg "MOST_PIECES" = some u ∧ RelV (.int 9999) u
abbrev exNs : List Str := ["NoNumber", "NoPiece", "NoChoices", "Fallen"]
end LR
/-! ### the law's draws -/
namespace LR
open PySem PySem.Spec PyProof.Rows L2 Evl
/-- the while of _law_pick -/
def pickLoop : Nat → Int → Int × Int
  | 0, r => (r, 0)
  | t + 1, r => if 0 < r then pickLoop t (r / 840) else (r, (t : Int) + 1)
def pickCell (ns : List Int) (k : Int) : Int := if ns.isEmpty then 0 else ns.getD (k % ns.length).toNat 0
def pickRest (ns : List Int) (k : Int) : Int := (pickLoop (k / (if 1 > (ns.length : Int) then 1 else (ns.length : Int))).toNat (pickCell ns k / 10 ^ 18)).1
def pickDrawn (ns : List Int) (k : Int) : Int := (pickCell ns k * 31 + 6151 * (k + 1)) * 40692 % 2147483399
/-- what _law_pick draws -/
def pick (ns : List Int) (k many : Int) : Int := if 0 < pickRest ns k then pickRest ns k % 840 % many else (pickDrawn ns k * pickDrawn ns k + pickDrawn ns k / 31) % 2147483629 % many
theorem pick_lo (ns : List Int) (k : Int) {many : Int} (h : 0 < many) : 0 ≤ pick ns k many := by
  unfold pick
  split
  · exact Int.emod_nonneg _ (by omega)
  · exact Int.emod_nonneg _ (by omega)
theorem pick_hi (ns : List Int) (k : Int) {many : Int} (h : 0 < many) : pick ns k many < many := by
  unfold pick
  split
  · exact Int.emod_lt_of_pos _ h
  · exact Int.emod_lt_of_pos _ h
theorem pickLoop_snd : ∀ (t : Nat) (r : Int), 0 ≤ (pickLoop t r).2 ∧ (0 < (pickLoop t r).1 → (pickLoop t r).2 = 0)
  | 0, r => ⟨Int.le_refl _, fun _ => rfl⟩
  | t + 1, r => by
    unfold pickLoop
    split
    · exact pickLoop_snd t _
    · exact ⟨by show (0 : Int) ≤ (t : Int) + 1; omega, fun h => absurd h (by assumption)⟩
def Rpick (ds : List PyData) (r : PyData) : Prop := ∃ (ns : List Int) (k many : Int), ds = [scrD ns, .int k, .int many] ∧ ns.length ≤ 63 ∧ 0 ≤ k ∧ k ≤ 1000000 ∧ 0 < many ∧ r = .int (pick ns k many)
theorem max2 (a b : Int) : (if b > a then b else a) = if b > a then b else a := rfl
theorem CMul_r {i j : Int} (h1 : -(2 ^ 64) < j) (h2 : j < 2 ^ 64) : CMul i j := .inr ⟨h1, h2⟩
theorem CMul_l {i j : Int} (h1 : -(2 ^ 64) < i) (h2 : i < 2 ^ 64) : CMul i j := .inl ⟨h1, h2⟩
section
variable {K : PySem.W.Frag} {σ : L2.St} {H H0 H10 H1 : Hp} {ta tb : TE} {ss : List SD} {D : Ends}
/-- a, b = x, y -/
theorem st_par {i j : Nat} {d e : PyData} {tA : TA} (n : Now H0 H10 H H1) (s : Sl K H σ ss) (h : EvDs K tA σ H [d, e]) (k : ∀ σ' H' H2, Ex H H' → Now H0 H10 H' H2 → Sl K H' σ' ((ss.set i (.dat d)).set j (.dat e)) → D.nx σ' H2) : tPar i j tA D σ H1 :=
  h H1 n.ex _ fun vs H2 H' e2 ex x dv => by
    cases dv with
    | cons a b =>
      cases b with
      | cons b c =>
        cases c
        exact ⟨_, _, rfl, k _ H' H2 x.ex (n.on e2 ex x) (((s.ex x.ex).set (s := .dat d) (o := some _) a i).set (s := .dat e) (o := some _) b j)⟩
theorem ed_max2 {a b : Int} {tA : TA} (h : EvDs K tA σ H [.int a, .int b]) : EvD K (tCB (fun xs H Q => ∃ i j, xs = [.int i, .int j] ∧ Q (.int (if j > i then j else i)) H) tA) σ H (.int (if b > a then b else a)) :=
  ed_cb h fun H' vs e dv H1 e1 Q q => by
    cases dv with
    | cons x y =>
      cases y with
      | cons y z =>
        cases z
        rw [x.int_eq, y.int_eq]
        exact ⟨a, b, rfl, q.val e1 fun _ => .int _⟩
end
section
variable {P : Program} {w : World} {K : PySem.W.Frag} {mg : Str → Option Value} {base : Heap} {f : Addr} {fd : FuncData}
theorem sc_law_pick : FnScope ["script", "k", "many", "cell", "drawn", "rest", "turn"] ["script", "k", "many"] (defScope s_law_pick) := ⟨rfl, rfl, rfl, by decide +kernel, rfl, by decide +kernel, by decide +kernel⟩
theorem fx_law_pick (T : Txt mg) (F : FunD K "_law_pick" "_law_pick" (defArgs s_law_pick) (defBody s_law_pick) (defScope s_law_pick) [] [] f fd) (hm : mg "_law_pick" = some (.ref f)) : Fx P w K mg base 1 "_law_pick" ["script", "k", "many"] (spR K 3 Rpick) := by
  refine fx_pure F hm sc_law_pick rfl (fun _ _ _ _ _ _ us hl => match us, hl with | [_, _, _], _ => rfl) fun cdv A outer s Hs E hr ds r hl hR => ?_
  refine ⟨_, (pss_cons (ps_set (i := 3) sc_law_pick.nd rfl (by first | exact Or.inl rfl | exact Or.inr rfl) (pe_ifExp (pt_cmpR (op_neK (K := K) rfl hr.units) (pv 0) (pe_lst pa_nil) (nomark _)) (pe_ix (ix_K (K := K) rfl) (pv 0) (pe_op op_mod (pv 1) (pe_callB (call_lenK (K := K) rfl) (by rfl) T.m_len (by decide +kernel) (pa_cons (pv 0) pa_nil))) (fun _ _ => rfl)) pe_int)) (pss_cons (ps_par (by rfl) sc_law_pick.nd (i := 5) (j := 6) rfl rfl (by decide) rfl rfl (pa_cons (pe_op op_fdivW (pv 3) (pe_op op_pow pe_int pe_int)) (pa_cons (pe_op op_fdivW (pv 1) (pe_callB (call_max2 rfl) (by rfl) T.m_max (by decide +kernel) (pa_cons (pe_callB (call_lenK (K := K) rfl) (by rfl) T.m_len (by decide +kernel) (pa_cons (pv 0) pa_nil)) (pa_cons pe_int pa_nil)))) pa_nil)) (by rfl)) (pss_cons (ps_while PassesOwn.never (PW.pt (pw_and (pt_cmpR op_gt (pv 5) pe_int (nomark _)) (pw_and1 (pt_cmpR op_gt (pv 6) pe_int (nomark _))))) (pss_one (ps_par (by rfl) sc_law_pick.nd (i := 5) (j := 6) rfl rfl (by decide) rfl rfl (pa_cons (pe_op op_fdivW (pv 5) pe_int) (pa_cons (pe_op op_sub (pv 6) pe_int) pa_nil)) (by rfl)))) (pss_cons (ps_if (pt_cmpR op_gt (pv 5) pe_int (nomark _)) (pss_one (ps_ret (pe_op op_mod (pe_op op_mod (pv 5) pe_int) (pv 2)))) pss_nil) (pss_cons (ps_set (i := 4) sc_law_pick.nd rfl (by first | exact Or.inl rfl | exact Or.inr rfl) (pe_op op_mod (pe_op (op_mulK (K := K) rfl) (pe_op (op_addK (K := K) rfl) (pe_op (op_mulK (K := K) rfl) (pv 3) pe_int) (pe_op (op_mulK (K := K) rfl) pe_int (pe_op (op_addK (K := K) rfl) (pv 1) pe_int))) pe_int) pe_int)) (pss_one (ps_ret (pe_op op_mod (pe_op op_mod (pe_op (op_addK (K := K) rfl) (pe_op (op_mulK (K := K) rfl) (pv 4) (pv 4)) (pe_op op_fdivW (pv 4) pe_int)) pe_int) (pv 2))))))))), ?_⟩
  obtain ⟨ns, k, many, rfl, hns, hk0, hk1, hmany, rfl⟩ := hR
  intro σ H0 H10 Q n s q
  have eLen : ∀ {σ' : L2.St} {H' : Hp} {ss : List SD}, Sl K H' σ' ss → ss[0]? = some (.dat (scrD ns)) → EvD K (tCB (lenR K) (tCons (tVar 0) tNil)) σ' H' (.int ns.length) := fun s h => ed_lenScr (ed_sl s h)
  -- cell = ..
  refine st_asg n s (d := .int (pickCell ns k)) (ed_if (eb_test (ed_op (ed_sl s rfl) (ed_lst eds_nil (by decide)) rd_neScr)) (fun h => ?_) (fun h => ?_)) ?_
  · have he : ns.isEmpty = false := by simpa using h
    have hpos : 0 < ns.length := by
      cases ns with
      | nil => cases he
      | cons _ _ => exact Nat.succ_pos _
    refine ed_op (ed_sl s rfl) (ed_op (ed_sl s rfl) (eLen s rfl) (rd_I (C := fun _ j => 0 < j) (g := fun i j => i % j) (by omega))) (rd_ixScr ?_)
    have h1 : 0 ≤ k % (ns.length : Int) := Int.emod_nonneg _ (by omega)
    have h2 : k % (ns.length : Int) < ns.length := Int.emod_lt_of_pos _ (by omega)
    obtain ⟨m, hm⟩ : ∃ m : Nat, k % (ns.length : Int) = m := ⟨(k % (ns.length : Int)).toNat, by omega⟩
    unfold atI pickCell
    rw [if_neg (by rw [he]; decide), hm, ixN_nat (by omega)]
    show ns[m]? = some (ns.getD (m : Int).toNat 0)
    rw [List.getD_eq_getElem?_getD, Int.toNat_natCast, List.getElem?_eq_getElem (by omega)]
    rfl
  · have he : ns.isEmpty = true := by simpa using h
    unfold pickCell
    rw [if_pos he]
    exact ed_c (.int 0)
  · intro σ1 H1 H11 ex1 n1 s1
    -- rest, turn = ..
    refine st_par n1 s1 (eds_cons (d := .int (pickCell ns k / 10 ^ 18)) (ed_op (ed_sl s1 rfl) (ed_op (ed_c (.int 10)) (ed_c (.int 18)) (rd_I (C := CPow) (g := fun i j => i ^ j.toNat) ⟨by decide, by decide, by decide⟩)) (rd_I (C := CDivW) (g := fun i j => i / j) ⟨by decide, by decide +kernel⟩))
      (eds_cons (d := .int (k / (if 1 > (ns.length : Int) then 1 else (ns.length : Int)))) (ed_op (ed_sl s1 rfl) (ed_max2 (eds_cons (eLen s1 rfl) (eds_cons (ed_c (.int 1)) eds_nil))) (rd_I (C := CDivW) (g := fun i j => i / j) ?_)) eds_nil)) ?_
    · have h1 : (0 : Int) < (if 1 > (ns.length : Int) then 1 else (ns.length : Int)) := by split <;> omega
      have h2 : (if 1 > (ns.length : Int) then 1 else (ns.length : Int)) ≤ 63 := by split <;> omega
      exact wide_div (b := 6) h1 (by omega) (by decide) (by decide)
    · intro σ2 H2 H21 ex2 n2 s2
      -- while
      refine st_while (fun m σ' Hr => ∃ (H' : Hp) (rest : Int) (t : Nat), t = m ∧ Now H0 H10 H' Hr ∧ (pickLoop t rest).1 = pickRest ns k ∧ t ≤ 1000000 ∧ Sl K H' σ' [.dat (scrD ns), .dat (.int k), .dat (.int many), .dat (.int (pickCell ns k)), .unk, .dat (.int rest), .dat (.int t)]) (k / (if 1 > (ns.length : Int) then 1 else (ns.length : Int))).toNat ?_ ?_
      · have h0 : 0 ≤ k / (if 1 > (ns.length : Int) then 1 else (ns.length : Int)) := Int.ediv_nonneg hk0 (by split <;> omega)
        have h1 : k / (if 1 > (ns.length : Int) then 1 else (ns.length : Int)) ≤ k := Int.ediv_le_self _ hk0
        refine ⟨H2, pickCell ns k / 10 ^ 18, _, rfl, n2, rfl, by omega, ?_⟩
        rw [Int.toNat_of_nonneg h0]
        exact s2
      · rintro m σ3 Hr ⟨H3, rest, t, rfl, n3, hp, ht, s3⟩
        refine ⟨H3, decide (0 < rest) && decide ((0 : Int) < t), n3.ex, eb_and (eb_test (ed_op (ed_sl s3 rfl) (ed_c (.int 0)) rd_IB)) (fun _ => eb_test (ed_op (ed_sl s3 rfl) (ed_c (.int 0)) rd_IB)), fun hb H4 e4 => ?_, fun hb H4 e4 => ?_⟩
        · simp only [Bool.and_eq_true, decide_eq_true_eq] at hb
          obtain ⟨t', rfl⟩ : ∃ t', t = t' + 1 := ⟨t - 1, by omega⟩
          have n4 : Now H0 H10 H3 H4 := ⟨n3.ex.trans e4, n3.ext, n3.grow.trans e4⟩
          refine st_par n4 s3 (eds_cons (d := .int (rest / 840)) (ed_op (ed_sl s3 rfl) (ed_c (.int 840)) (rd_I (C := CDivW) (g := fun i j => i / j) ⟨by decide, by decide +kernel⟩)) (eds_cons (d := .int (t' : Int)) (ed_is (ed_op (ed_sl s3 rfl) (ed_c (.int 1)) (rd_I0 (g := fun i j => i - j))) (by congr 1; omega)) eds_nil)) ?_
          intro σ5 H5 H51 ex5 n5 s5
          refine ⟨t', Nat.lt_succ_self _, H5, rest / 840, t', rfl, n5, ?_, by omega, s5⟩
          rw [← hp]
          show _ = (if 0 < rest then pickLoop t' (rest / 840) else (rest, (t' : Int) + 1)).1
          rw [if_pos hb.1]
        · have n4 : Now H0 H10 H3 H4 := ⟨n3.ex.trans e4, n3.ext, n3.grow.trans e4⟩
          have hrest : rest = pickRest ns k := by
            rw [← hp]
            cases t with
            | zero => rfl
            | succ t' =>
              have : ¬ 0 < rest := by
                intro h
                have h2 : ((0 : Int) < ((t' + 1 : Nat) : Int)) := by omega
                rw [decide_eq_true h, decide_eq_true h2] at hb
                cases hb
              show rest = (if 0 < rest then pickLoop t' (rest / 840) else (rest, (t' : Int) + 1)).1
              rw [if_neg this]
          subst hrest
          -- if rest > 0
          refine st_if n4 (eb_test (ed_op (ed_sl s3 rfl) (ed_c (.int 0)) rd_IB)) (fun h H5 n5 => ?_) (fun h H5 n5 => ?_)
          · have h0 : 0 < pickRest ns k := by simpa using h
            refine st_ret (K := K) n5 (ed_op (ed_op (ed_sl s3 rfl) (ed_c (.int 840)) (rd_I (C := fun _ j => 0 < j) (g := fun i j => i % j) (by decide))) (ed_sl s3 rfl) (rd_I (C := fun _ j => 0 < j) (g := fun i j => i % j) hmany)) ?_
            unfold pick at q
            rw [if_pos h0] at q
            exact q
          · have h0 : ¬ 0 < pickRest ns k := by simpa using h
            refine st_asg n5 s3 (d := .int (pickDrawn ns k)) (ed_op (ed_op (ed_op (ed_op (ed_sl s3 rfl) (ed_c (.int 31)) (rd_mulI (CMul_r (by decide) (by decide)))) (ed_op (ed_c (.int 6151)) (ed_op (ed_sl s3 rfl) (ed_c (.int 1)) rd_addI) (rd_mulI (CMul_l (by decide) (by decide)))) rd_addI) (ed_c (.int 40692)) (rd_mulI (CMul_r (by decide) (by decide)))) (ed_c (.int 2147483399)) (rd_I (C := fun _ j => 0 < j) (g := fun i j => i % j) (by decide))) ?_
            intro σ6 H6 H61 ex6 n6 s6
            have d0 : 0 ≤ pickDrawn ns k := Int.emod_nonneg _ (by decide)
            have d1 : pickDrawn ns k < 2147483399 := Int.emod_lt_of_pos _ (by decide)
            refine st_ret (K := K) n6 (ed_op (ed_op (ed_op (ed_op (ed_sl s6 rfl) (ed_sl s6 rfl) (rd_mulI (CMul_r (by omega) (by omega)))) (ed_op (ed_sl s6 rfl) (ed_c (.int 31)) (rd_I (C := CDivW) (g := fun i j => i / j) ⟨by decide, by decide +kernel⟩)) rd_addI) (ed_c (.int 2147483629)) (rd_I (C := fun _ j => 0 < j) (g := fun i j => i % j) (by decide))) (ed_sl s6 rfl) (rd_I (C := fun _ j => 0 < j) (g := fun i j => i % j) hmany)) ?_
            unfold pick at q
            rw [if_neg h0] at q
            exact q
end
end LR

/-! ### EV: _law_pick as a function -/
namespace EV
open PySem PySem.Spec PyProof.Rows L2 Evl L2H LamX LR
def unscr : List (PyData × PyData) → Option (List Int)
  | [] => some []
  | (.int i, .none) :: r => (unscr r).map fun ns => i :: ns
  | _ => none
theorem unscr_eq : ∀ {kvs : List (PyData × PyData)} {ns : List Int}, unscr kvs = some ns → kvs = ns.map fun i => (.int i, .none)
  | [], _, h => by cases h; rfl
  | (a, b) :: r, ns, h => by
    cases a <;> cases b <;> try cases h
    obtain ⟨ms, h1, rfl⟩ := Option.map_eq_some_iff.mp (show (unscr r).map _ = some ns from h)
    rw [unscr_eq h1]
    rfl
theorem unscr_scr (ns : List Int) : unscr (ns.map fun i => ((.int i, .none) : PyData × PyData)) = some ns := by
  induction ns with
  | nil => rfl
  | cons i r ih => show (unscr (r.map _)).map _ = _; rw [ih]; rfl
def FO_law_pick : List PyData → Option PyData
  | [.dict kvs, .int k, .int many] => (unscr kvs).bind fun ns => if ns.length ≤ 63 ∧ 0 ≤ k ∧ k ≤ 1000000 ∧ 0 < many then some (.int (pick ns k many)) else none
  | _ => none
theorem hfo_law_pick : ∀ ds z, FO_law_pick ds = some z → Rpick ds z ∧ ds.length = 3 := fun ds z h => by
  unfold FO_law_pick at h
  split at h
  · obtain ⟨ns, h1, h2⟩ := bind_some h
    obtain ⟨⟨a, b, c, d⟩, rfl⟩ := ite_some h2
    rw [unscr_eq h1]
    exact ⟨⟨ns, _, _, rfl, a, b, c, d, rfl⟩, rfl⟩
  · cases h
theorem fo_pick {ns : List Int} {k many : Int} (h1 : ns.length ≤ 63) (h2 : 0 ≤ k) (h3 : k ≤ 1000000) (h4 : 0 < many) : FO_law_pick [scrD ns, .int k, .int many] = some (.int (pick ns k many)) := by
  show (unscr (ns.map fun i => ((.int i, .none) : PyData × PyData))).bind _ = _
  rw [unscr_scr]
  exact if_pos ⟨h1, h2, h3, h4⟩
end EV

namespace EV
open PySem PySem.Spec PyProof.Rows L2 Evl L2H LamX LR
section
variable {P : Program} {w : World} {K : PySem.W.Frag} {mg : Str → Option Value} {base : Heap} {f : Addr} {fd : FuncData} {TT : TbS}
theorem sc_is_whole : FnScope ["thing", "least", "most"] ["thing", "least", "most"] (defScope s_is_whole) := ⟨rfl, rfl, rfl, by decide +kernel, rfl, by decide +kernel, by decide +kernel⟩
def m_is_whole : SM := (sRet (mP (pAnd (pIsi "int" (pVar 0)) (pAnd (pNot (pIsi "bool" (pVar 0))) (pChain (fIB fun i j => decide (i ≤ j)) (fIB fun i j => decide (i ≤ j)) (pVar 1) (pVar 0) (pVar 2))))))
def F_is_whole (ds : List PyData) : Option PyData := pureOf 3 3 m_is_whole ds
theorem fx_is_whole (T : Txt mg) (xt : ExT exNs K mg) (F : FunD K "is_whole" "is_whole" (defArgs s_is_whole) (defBody s_is_whole) (defScope s_is_whole) [] [] f fd) (hm : mg "is_whole" = some (.ref f))  : Fx P w K mg base 1 "is_whole" ["thing", "least", "most"] (spR K 3 fun ds z => F_is_whole ds = some z) := by
  refine fx_evP (N := ["thing", "least", "most"]) F hm sc_is_whole rfl (fun _ _ _ _ _ _ us hl => match us, hl with | [_, _, _], _ => rfl) fun cdv A outer s Hs E hr => ?_
  exact ⟨_, (pss_one (ps_ret (pe_and (pe_callB (call_isK (K := K) rfl) (by rfl) T.m_isinstance (by decide +kernel) (pa_cons (pv 0) (pa_cons (pe_bltn (v := .ty "int") (by rfl) T.m_int (by decide +kernel) rfl) pa_nil))) (pe_and (pe_not (pe_callB (call_isK (K := K) rfl) (by rfl) T.m_isinstance (by decide +kernel) (pa_cons (pv 0) (pa_cons (pe_bltn (v := .ty "bool") (by rfl) T.m_bool (by decide +kernel) rfl) pa_nil)))) (pe_one (pe_chain op_le op_le (pv 1) (pv 0) (pv 2))))))), (ss_ret (se_p (sp_and (sp_isi sp_var) (sp_and (sp_not (sp_isi sp_var)) (sp_chain od_le od_le sp_var sp_var sp_var)))))⟩
theorem sc_look_whole : FnScope ["thing", "least", "most"] ["thing", "least", "most"] (defScope s_look_whole) := ⟨rfl, rfl, rfl, by decide +kernel, rfl, by decide +kernel, by decide +kernel⟩
def m_look_whole : SM := (sIf (mBP (bNot (pTst (pCB F_is_whole (pCons (pVar 0) (pCons (pVar 1) (pCons (pVar 2) pNil))))))) (sRaise "NoNumber") sNext)
def F_look_whole : Fun := funOf 3 3 (m_look_whole)
theorem fx_look_whole (hT : TT.fl = true) (T : Txt mg) (xt : ExT exNs K mg) (F : FunD K "look_whole" "look_whole" (defArgs s_look_whole) (defBody s_look_whole) (defScope s_look_whole) [] [] f fd) (hm : mg "look_whole" = some (.ref f)) (g_is_whole : Fx P w K mg base 1 "is_whole" ["thing", "least", "most"] (spR K 3 fun ds z => F_is_whole ds = some z)) : Fx P w K mg base 2 "look_whole" ["thing", "least", "most"] (spF K FLD TT 3 (F_look_whole)) := by
  refine fx_ev (N := ["thing", "least", "most"]) F hm sc_look_whole rfl (fun _ _ _ _ _ _ us hl => match us, hl with | [_, _, _], _ => rfl) fun cdv A outer s Hs E hr => ?_
  exact ⟨_, (pss_one (ps_if (pt_not (pt_val (pe_fx g_is_whole hr (by decide) (by rfl) passN (pa_cons (pv 0) (pa_cons (pv 1) (pa_cons (pv 2) pa_nil)))))) (pss_one (L2N.ps_raise rfl (L2N.takes_of rfl rfl rfl rfl) (L2N.pmk_own PySem.F.excBase_ValueError (xt.exc "NoNumber" (by decide)) (xt.glo "NoNumber" (by decide)) (xt.keep "NoNumber" (by decide)) (raises_own (xt.sub "NoNumber" (by decide)) (xt.ty "NoNumber" (by decide))) (by rfl)))) pss_nil)), (ss_if (sbe_p (sb_not (sb_B (sp_call (fun ds z h => ⟨h, pure_len h⟩) (sps_cons sp_var (sps_cons sp_var (sps_cons sp_var sps_nil))))))) ss_raise ss_next)⟩
theorem sc_Disk___init__ : FnScope ["self", "wide"] ["self", "wide"] (defScope s_Disk___init__) := ⟨rfl, rfl, rfl, by decide +kernel, rfl, by decide +kernel, by decide +kernel⟩
def m_Disk___init__ (F_look_whole : Fun) : SM := (sSeq (sExpr (mCall F_look_whole 3 (aConsV (mP (pVar 1)) (aConsV (mP (pC (.int 120))) (aConsV (mP (pC (.int 400))) aNil))))) (sSeq (sSetF FLD (wVar 0) "wide" (mP (pVar 1))) (sSeq (sSetFN FLD (wVar 0) "settled_ones" nDic) (sSeq (sSetFN FLD (wVar 0) "loose" (nLst aNil)) (sSeq (sSetF FLD (wVar 0) "fuse" (mP (pC .none))) (sSeq (sSetF FLD (wVar 0) "has_fallen" (mP (pC (.bool false)))) (sSeq (sSetF FLD (wVar 0) "many_reads" (mP (pC (.int 0)))) (sSeq (sSetF FLD (wVar 0) "many_writes" (mP (pC (.int 0)))) (sSetF FLD (wVar 0) "many_settles" (mP (pC (.int 0))))))))))))
def F_Disk___init__ (F_look_whole : Fun) : Fun := funOf 2 2 (m_Disk___init__ F_look_whole)
theorem ok_Disk___init__ (hT : TT.fl = true) (T : Txt mg) (xt : ExT exNs K mg) {dvs : List V} {kws : List (Str × V)} (F : FunD K "__init__" "Disk.__init__" (defArgs s_Disk___init__) (defBody s_Disk___init__) (defScope s_Disk___init__) dvs kws f fd) {F_look_whole : Fun} (g_look_whole : Fx P w K mg base 2 "look_whole" ["thing", "least", "most"] (spF K FLD TT 3 F_look_whole)) : FnOk P w K mg base (CXL P w) 3 f fd ["self", "wide"] (spF K FLD TT 2 (F_Disk___init__ F_look_whole)) := by
  refine fn_ev (N := ["self", "wide"]) F sc_Disk___init__ rfl fun cdv A outer s Hs E hr => ?_
  exact ⟨_, (pss_cons (ps_expr (pe_fxW (L2N.takes_of rfl rfl rfl rfl) g_look_whole hr (by decide) (by rfl) (pa_cons (pv 1) (pa_cons pe_int (pa_cons pe_int pa_nil))))) (pss_cons (ps_fldK (K := K) rfl (pv 0) (pv 1)) (pss_cons (ps_fldK (K := K) rfl (pv 0) pe_dnewK) (pss_cons (ps_fldK (K := K) rfl (pv 0) (pe_lst pa_nil)) (pss_cons (ps_fldK (K := K) rfl (pv 0) pe_non) (pss_cons (ps_fldK (K := K) rfl (pv 0) pe_bl) (pss_cons (ps_fldK (K := K) rfl (pv 0) pe_int) (pss_cons (ps_fldK (K := K) rfl (pv 0) pe_int) (pss_one (ps_fldK (K := K) rfl (pv 0) pe_int)))))))))), (ss_seq (ss_expr (se_call hT (sa_cons (se_p sp_var) (sa_cons (se_p sp_int) (sa_cons (se_p sp_int) sa_nil))))) (ss_seq (ss_setF sw_var (se_p sp_var)) (ss_seq (ss_setFN sw_var sn_dic) (ss_seq (ss_setFN sw_var (sn_lst sa_nil)) (ss_seq (ss_setF sw_var (se_p sp_non)) (ss_seq (ss_setF sw_var (se_p sp_bl)) (ss_seq (ss_setF sw_var (se_p sp_int)) (ss_seq (ss_setF sw_var (se_p sp_int)) (ss_setF sw_var (se_p sp_int))))))))))⟩
theorem sc_Disk___len__ : FnScope ["self", "number", "text"] ["self"] (defScope s_Disk___len__) := ⟨rfl, rfl, rfl, by decide +kernel, rfl, by decide +kernel, by decide +kernel⟩
def m_Disk___len__ : SM := (sRet (mP (pLenOr (iOwn (wFld FLD (wVar 0) "loose")) (gmTup 2 (gmCons (gmName 1) (gmCons (gmName 2) gmNil))) (pVar 1) [1, 2] (wFld FLD (wVar 0) "settled_ones"))))
def F_Disk___len__ : Fun := funOf 3 1 (m_Disk___len__)
theorem mx_Disk___len__ (hT : TT.fl = true) (T : Txt mg) (xt : ExT exNs K mg) (F : FunD K "__len__" "Disk.__len__" (defArgs s_Disk___len__) (defBody s_Disk___len__) (defScope s_Disk___len__) [] [] f fd) (hm : Meth K (gaE K "Disk") "__len__" f)  : Mx P w K (gaE K "Disk") mg base 1 "__len__" ["self"] (spF K FLD TT 1 (F_Disk___len__)) := by
  refine mx_ev (N := ["self", "number", "text"]) F hm sc_Disk___len__ rfl (fun _ _ _ _ _ _ us hl => match us, hl with | [_], _ => rfl) fun cdv A outer s Hs E hr => ?_
  exact ⟨_, (pss_one (ps_ret (pe_callB cr_lenK (by rfl) T.m_len (by decide +kernel) (pa_cons (pe_op op_orK (pe_sk (own := [("number", 1), ("text", 2)]) rfl sc_Disk___len__.nd (pi_K (K := K) rfl (pe_fldK (K := K) rfl (pv 0))) (blkOk_by (N := ["self", "number", "text"]) (sc := defScope s_Disk___len__) (by decide +kernel)) (fun _ _ _ _ _ => (pg_tupK (K := K) (n := 2) rfl (by rfl) (pgs_cons (pg_name (i := 1) sc_Disk___len__.nd rfl (by first | exact Or.inl rfl | exact Or.inr rfl)) (pgs_cons (pg_name (i := 2) sc_Disk___len__.nd rfl (by first | exact Or.inl rfl | exact Or.inr rfl)) pgs_nil)))) (fun _ _ _ _ _ => pts_nil) (fun _ _ _ _ _ => (pv 1))) (pe_callTy cr_setD (by rfl) T.m_set (by decide +kernel) (pa_cons (pe_fldK (K := K) rfl (pv 0)) pa_nil))) pa_nil)))), (ss_ret (se_p (sp_lenOr (si_own (sw_fld sw_var)) (sg_tup (sgs_cons sg_name (sgs_cons sg_name sgs_nil))) sp_var (sw_fld sw_var))))⟩
theorem sc_Disk_burn : FnScope ["self"] ["self"] (defScope s_Disk_burn) := ⟨rfl, rfl, rfl, by decide +kernel, rfl, by decide +kernel, by decide +kernel⟩
def m_Disk_burn : SM := (sSeq (sIf (mBP (pTst (pFld FLD (wVar 0) "has_fallen"))) (sRaise "Fallen") sNext) (sIf (mBP (pTst (pOp fNotN (pFld FLD (wVar 0) "fuse") (pC .none)))) (sSeq (sIf (mBP (pTst (pOp fEq (pFld FLD (wVar 0) "fuse") (pC (.int 0))))) (sSeq (sSetF FLD (wVar 0) "has_fallen" (mP (pC (.bool true)))) (sRaise "Fallen")) sNext) (sAugF FLD (wVar 0) "fuse" fSub (pC (.int 1)))) sNext))
def F_Disk_burn : Fun := funOf 1 1 (m_Disk_burn)
theorem mx_Disk_burn (hT : TT.fl = true) (T : Txt mg) (xt : ExT exNs K mg) (F : FunD K "burn" "Disk.burn" (defArgs s_Disk_burn) (defBody s_Disk_burn) (defScope s_Disk_burn) [] [] f fd) (hm : Meth K (gaE K "Disk") "burn" f)  : Mx P w K (gaE K "Disk") mg base 1 "burn" ["self"] (spF K FLD TT 1 (F_Disk_burn)) := by
  refine mx_ev (N := ["self"]) F hm sc_Disk_burn rfl (fun _ _ _ _ _ _ us hl => match us, hl with | [_], _ => rfl) fun cdv A outer s Hs E hr => ?_
  exact ⟨_, (pss_cons (ps_if (pt_val (pe_fldK (K := K) rfl (pv 0))) (pss_one (L2N.ps_raise rfl (L2N.takes_of rfl rfl rfl rfl) (L2N.pmk_own PySem.F.excBase_ValueError (xt.exc "Fallen" (by decide)) (xt.glo "Fallen" (by decide)) (xt.keep "Fallen" (by decide)) (raises_own (xt.sub "Fallen" (by decide)) (xt.ty "Fallen" (by decide))) (by rfl)))) pss_nil) (pss_one (ps_if (pt_cmpR op_notN0 (pe_fldK (K := K) rfl (pv 0)) pe_non (nomark _)) (pss_cons (ps_if (pt_cmpR (op_eqK (K := K) rfl hr.units) (pe_fldK (K := K) rfl (pv 0)) pe_int (nomark _)) (pss_cons (ps_fldK (K := K) rfl (pv 0) pe_bl) (pss_one (L2N.ps_raise rfl (L2N.takes_of rfl rfl rfl rfl) (L2N.pmk_own PySem.F.excBase_ValueError (xt.exc "Fallen" (by decide)) (xt.glo "Fallen" (by decide)) (xt.keep "Fallen" (by decide)) (raises_own (xt.sub "Fallen" (by decide)) (xt.ty "Fallen" (by decide))) (by rfl))))) pss_nil) (pss_one (ps_fldaugK (K := K) rfl (pv 0) pe_int in_sub))) pss_nil))), (ss_seq (ss_if (sbe_p (sb_B (sp_fld sw_var))) ss_raise ss_next) (ss_if (sbe_p (sb_test (sp_op od_notN (sp_fld sw_var) sp_non))) (ss_seq (ss_if (sbe_p (sb_test (sp_op od_eq (sp_fld sw_var) sp_int))) (ss_seq (ss_setF sw_var (se_p sp_bl)) ss_raise) ss_next) (ss_augF sw_var od_subA sp_int)) ss_next))⟩
theorem sc_Disk_write : FnScope ["self", "number", "text"] ["self", "number", "text"] (defScope s_Disk_write) := ⟨rfl, rfl, rfl, by decide +kernel, rfl, by decide +kernel, by decide +kernel⟩
def m_Disk_write (F_look_whole F_Disk_burn : Fun) : SM := (sSeq (sExpr (mCall F_look_whole 3 (aConsV (mP (pVar 1)) (aConsV (mP (pC (.int 0))) (aConsV (mP (pC (.int 9999))) aNil))))) (sSeq (sIf (mBP (bOr (bNot (pTst (pIsi "str" (pVar 2)))) (pTst (pOp (fIB fun i j => decide (j < i)) (pCB fLen (pCons (pVar 2) pNil)) (pFld FLD (wVar 0) "wide"))))) (sRaise "NoPiece") sNext) (sSeq (sExpr (mMeth "Disk" "burn" F_Disk_burn 1 (mW (wVar 0)) aNil)) (sSeq (sAugF FLD (wVar 0) "many_writes" (fI fun i j => i + j) (pC (.int 1))) (sExpr (mAppP (wFld FLD (wVar 0) "loose") (pTup (pCons (pVar 1) (pCons (pVar 2) pNil)))))))))
def F_Disk_write (F_look_whole F_Disk_burn : Fun) : Fun := funOf 3 3 (m_Disk_write F_look_whole F_Disk_burn)
theorem mx_Disk_write (hT : TT.fl = true) (T : Txt mg) (xt : ExT exNs K mg) (ck_Disk : ClsOk K FLD "Disk") (F : FunD K "write" "Disk.write" (defArgs s_Disk_write) (defBody s_Disk_write) (defScope s_Disk_write) [] [] f fd) (hm : Meth K (gaE K "Disk") "write" f) {F_look_whole F_Disk_burn : Fun} (g_look_whole : Fx P w K mg base 2 "look_whole" ["thing", "least", "most"] (spF K FLD TT 3 F_look_whole)) (g_Disk_burn : Mx P w K (gaE K "Disk") mg base 1 "burn" ["self"] (spF K FLD TT 1 F_Disk_burn)) : Mx P w K (gaE K "Disk") mg base 3 "write" ["self", "number", "text"] (spF K FLD TT 3 (F_Disk_write F_look_whole F_Disk_burn)) := by
  refine mx_ev (N := ["self", "number", "text"]) F hm sc_Disk_write rfl (fun _ _ _ _ _ _ us hl => match us, hl with | [_, _, _], _ => rfl) fun cdv A outer s Hs E hr => ?_
  have cls_Disk := ck_Disk.cls
  exact ⟨_, (pss_cons (ps_expr (pe_fxW (L2N.takes_of rfl rfl rfl rfl) g_look_whole hr (by decide) (by rfl) (pa_cons (pv 1) (pa_cons pe_int (pa_cons (C8.pe_gc (by rfl) T.c_MOST_PIECES) pa_nil))))) (pss_cons (ps_if (PW.pt (pw_or (pt_not (pt_val (pe_callB (call_isK (K := K) rfl) (by rfl) T.m_isinstance (by decide +kernel) (pa_cons (pv 2) (pa_cons (pe_bltn (v := .ty "str") (by rfl) T.m_str (by decide +kernel) rfl) pa_nil))))) (pw_or1 (pt_cmpR op_gt (pe_callB (call_lenK (K := K) rfl) (by rfl) T.m_len (by decide +kernel) (pa_cons (pv 2) pa_nil)) (pe_fldK (K := K) rfl (pv 0)) (nomark _))))) (pss_one (L2N.ps_raise rfl (L2N.takes_of rfl rfl rfl rfl) (L2N.pmk_own PySem.F.excBase_ValueError (xt.exc "NoPiece" (by decide)) (xt.glo "NoPiece" (by decide)) (xt.keep "NoPiece" (by decide)) (raises_own (xt.sub "NoPiece" (by decide)) (xt.ty "NoPiece" (by decide))) (by rfl)))) pss_nil) (pss_cons (ps_expr (pe_mxG0 (fun σ => L2N.passAt (L2N.takes_of rfl rfl rfl rfl) σ) g_Disk_burn cls_Disk hr (by decide) (pv 0))) (pss_cons (ps_fldaugK (K := K) rfl (pv 0) pe_int in_add) (pss_one (ps_expr (pe_bmK (K := K) rfl PySem.F.plainAttrs_list PySem.F.slot_list_append PySem.F.type_list_append mt_append (pe_fldK (K := K) rfl (pv 0)) (pa_cons (pe_tup (pa_cons (pv 1) (pa_cons (pv 2) pa_nil))) pa_nil)))))))), (ss_seq (ss_expr (se_call hT (sa_cons (se_p sp_var) (sa_cons (se_p sp_int) (sa_cons (se_p sp_int) sa_nil))))) (ss_seq (ss_if (sbe_p (sb_or (sb_not (sb_B (sp_isi sp_var))) (sb_test (sp_op od_gt (sp_cb cd_len (sps_cons sp_var sps_nil)) (sp_fld sw_var))))) ss_raise ss_next) (ss_seq (ss_expr (se_meth hT (se_w sw_var) sa_nil)) (ss_seq (ss_augF sw_var od_addA sp_int) (ss_expr (se_appP (sw_fld sw_var) (sp_tup (sps_cons sp_var (sps_cons sp_var sps_nil)))))))))⟩
theorem sc_Disk_read : FnScope ["self", "number", "some", "one", "text"] ["self", "number"] (defScope s_Disk_read) := ⟨rfl, rfl, rfl, by decide +kernel, rfl, by decide +kernel, by decide +kernel⟩
def m_Disk_read (F_look_whole : Fun) : SM := (sSeq (sExpr (mCall F_look_whole 3 (aConsV (mP (pVar 1)) (aConsV (mP (pC (.int 0))) (aConsV (mP (pC (.int 9999))) aNil))))) (sSeq (sIf (mBP (pTst (pFld FLD (wVar 0) "has_fallen"))) (sRaise "Fallen") sNext) (sSeq (sAugF FLD (wVar 0) "many_reads" (fI fun i j => i + j) (pC (.int 1))) (sSeq (sAsg 2 (mP (pLc (iOwn (wFld FLD (wVar 0) "loose")) (gmTup 2 (gmCons (gmName 3) (gmCons (gmName 4) gmNil))) (pTst (pOp fEq (pVar 3) (pVar 1))) (pVar 4) [3, 4]))) (sRet (mP (pIf (pTst (pOp fNe (pVar 2) (pLst pNil))) (pOp fIx (pVar 2) (pUn fNeg (pC (.int 1)))) (pDGet2 (wFld FLD (wVar 0) "settled_ones") (pVar 1) (pC .none)))))))))
def F_Disk_read (F_look_whole : Fun) : Fun := funOf 5 2 (m_Disk_read F_look_whole)
theorem mx_Disk_read (hT : TT.fl = true) (T : Txt mg) (xt : ExT exNs K mg) (F : FunD K "read" "Disk.read" (defArgs s_Disk_read) (defBody s_Disk_read) (defScope s_Disk_read) [] [] f fd) (hm : Meth K (gaE K "Disk") "read" f) {F_look_whole : Fun} (g_look_whole : Fx P w K mg base 2 "look_whole" ["thing", "least", "most"] (spF K FLD TT 3 F_look_whole)) : Mx P w K (gaE K "Disk") mg base 3 "read" ["self", "number"] (spF K FLD TT 2 (F_Disk_read F_look_whole)) := by
  refine mx_ev (N := ["self", "number", "some", "one", "text"]) F hm sc_Disk_read rfl (fun _ _ _ _ _ _ us hl => match us, hl with | [_, _], _ => rfl) fun cdv A outer s Hs E hr => ?_
  exact ⟨_, (pss_cons (ps_expr (pe_fxW (L2N.takes_of rfl rfl rfl rfl) g_look_whole hr (by decide) (by rfl) (pa_cons (pv 1) (pa_cons pe_int (pa_cons (C8.pe_gc (by rfl) T.c_MOST_PIECES) pa_nil))))) (pss_cons (ps_if (pt_val (pe_fldK (K := K) rfl (pv 0))) (pss_one (L2N.ps_raise rfl (L2N.takes_of rfl rfl rfl rfl) (L2N.pmk_own PySem.F.excBase_ValueError (xt.exc "Fallen" (by decide)) (xt.glo "Fallen" (by decide)) (xt.keep "Fallen" (by decide)) (raises_own (xt.sub "Fallen" (by decide)) (xt.ty "Fallen" (by decide))) (by rfl)))) pss_nil) (pss_cons (ps_fldaugK (K := K) rfl (pv 0) pe_int in_add) (pss_cons (ps_setLc (i := 2) (own := [("one", 3), ("text", 4)]) rfl sc_Disk_read.nd rfl rfl (sw_true rfl rfl rfl (by decide +kernel)) (pi_K (K := K) rfl (pe_fldK (K := K) rfl (pv 0))) (blkOk_by (N := ["self", "number", "some", "one", "text"]) (sc := defScope s_Disk_read) (by decide +kernel)) (fun _ _ _ _ _ => (pg_tupK (K := K) (n := 2) rfl (by rfl) (pgs_cons (pg_name (i := 3) sc_Disk_read.nd rfl (by first | exact Or.inl rfl | exact Or.inr rfl)) (pgs_cons (pg_name (i := 4) sc_Disk_read.nd rfl (by first | exact Or.inl rfl | exact Or.inr rfl)) pgs_nil)))) (fun _ _ _ _ _ => (pts_one (pt_cmpR (op_eqK (K := K) rfl hr.units) (pv 3) (pv 1) (nomark _)))) (fun _ _ _ _ _ => (pv 4))) (pss_one (ps_ret (pe_ifExp (pt_cmpR (op_neK (K := K) rfl hr.units) (pv 2) (pe_lst pa_nil) (nomark _)) (pe_ix (ix_K (K := K) rfl) (pv 2) (pe_un un_neg pe_int) (fun _ _ => rfl)) (pe_dget2 (units1 hr.units) (pe_fldK (K := K) rfl (pv 0)) (pv 1) pe_non ⟨rfl, rfl, rfl, rfl⟩)))))))), (ss_seq (ss_expr (se_call hT (sa_cons (se_p sp_var) (sa_cons (se_p sp_int) (sa_cons (se_p sp_int) sa_nil))))) (ss_seq (ss_if (sbe_p (sb_B (sp_fld sw_var))) ss_raise ss_next) (ss_seq (ss_augF sw_var od_addA sp_int) (ss_seq (ss_asg (se_p (sp_lc (si_own (sw_fld sw_var)) (sg_tup (sgs_cons sg_name (sgs_cons sg_name sgs_nil))) (sb_test (sp_op od_eq sp_var sp_var)) sp_var))) (ss_ret (se_p (sp_if (sb_test (sp_op od_ne sp_var (sp_lst sps_nil))) (sp_op od_ix sp_var (sp_un ud_neg sp_int)) (sp_dget2 (sw_fld sw_var) sp_var sp_non))))))))⟩
theorem sc_Disk_settle : FnScope ["self", "many", "number", "text"] ["self"] (defScope s_Disk_settle) := ⟨rfl, rfl, rfl, by decide +kernel, rfl, by decide +kernel, by decide +kernel⟩
def b1_Disk_settle (F_Disk_burn : Fun) : SM := (sDPutP (wFld FLD (wVar 0) "settled_ones") (pVar 2) (pVar 3))
def m_Disk_settle (F_Disk_burn : Fun) : SM := (sSeq (sExpr (mMeth "Disk" "burn" F_Disk_burn 1 (mW (wVar 0)) aNil)) (sSeq (sAugF FLD (wVar 0) "many_settles" (fI fun i j => i + j) (pC (.int 1))) (sSeq (sAsg 1 (mP (pLenL (wFld FLD (wVar 0) "loose")))) (sSeq (sFrz (wFld FLD (wVar 0) "loose") (sFor (iData (pFld FLD (wVar 0) "loose")) (gmTup 2 (gmCons (gmName 2) (gmCons (gmName 3) gmNil))) (b1_Disk_settle F_Disk_burn))) (sSeq (sSetFN FLD (wVar 0) "loose" (nLst aNil)) (sRet (mP (pVar 1))))))))
def F_Disk_settle (F_Disk_burn : Fun) : Fun := funOf 4 1 (m_Disk_settle F_Disk_burn)
theorem mx_Disk_settle (hT : TT.fl = true) (T : Txt mg) (xt : ExT exNs K mg) (ck_Disk : ClsOk K FLD "Disk") (F : FunD K "settle" "Disk.settle" (defArgs s_Disk_settle) (defBody s_Disk_settle) (defScope s_Disk_settle) [] [] f fd) (hm : Meth K (gaE K "Disk") "settle" f) {F_Disk_burn : Fun} (g_Disk_burn : Mx P w K (gaE K "Disk") mg base 1 "burn" ["self"] (spF K FLD TT 1 F_Disk_burn)) : Mx P w K (gaE K "Disk") mg base 2 "settle" ["self"] (spF K FLD TT 1 (F_Disk_settle F_Disk_burn)) := by
  refine mx_ev (N := ["self", "many", "number", "text"]) F hm sc_Disk_settle rfl (fun _ _ _ _ _ _ us hl => match us, hl with | [_], _ => rfl) fun cdv A outer s Hs E hr => ?_
  have cls_Disk := ck_Disk.cls
  exact ⟨_, (pss_cons (ps_expr (pe_mxG0 (fun σ => L2N.passAt (L2N.takes_of rfl rfl rfl rfl) σ) g_Disk_burn cls_Disk hr (by decide) (pv 0))) (pss_cons (ps_fldaugK (K := K) rfl (pv 0) pe_int in_add) (pss_cons (ps_set (i := 1) sc_Disk_settle.nd rfl (by first | exact Or.inl rfl | exact Or.inr rfl) (pe_callB (call_lenK (K := K) rfl) (by rfl) T.m_len (by decide +kernel) (pa_cons (pe_fldK (K := K) rfl (pv 0)) pa_nil))) (pss_cons (ps_for PassesOwn.leaving rfl (pi_K (K := K) rfl (pe_fldK (K := K) rfl (pv 0))) (pg_tupK (K := K) (n := 2) rfl (by rfl) (pgs_cons (pg_name (i := 2) sc_Disk_settle.nd rfl (by first | exact Or.inl rfl | exact Or.inr rfl)) (pgs_cons (pg_name (i := 3) sc_Disk_settle.nd rfl (by first | exact Or.inl rfl | exact Or.inr rfl)) pgs_nil))) (pss_one (ps_dput (units1 hr.units) (pe_fldK (K := K) rfl (pv 0)) (pv 2) (pv 3) rfl))) (pss_cons (ps_fldK (K := K) rfl (pv 0) (pe_lst pa_nil)) (pss_one (ps_ret (pv 1)))))))), (ss_seq (ss_expr (se_meth hT (se_w sw_var) sa_nil)) (ss_seq (ss_augF sw_var od_addA sp_int) (ss_seq (ss_asg (se_p (sp_lenL (sw_fld sw_var)))) (ss_seq (ss_frz (sw_fld sw_var) (ss_for (si_data (sp_fld sw_var)) (sg_tup (sgs_cons sg_name (sgs_cons sg_name sgs_nil))) (ss_dput (sw_fld sw_var) sp_var sp_var))) (ss_seq (ss_setFN sw_var (sn_lst sa_nil)) (ss_ret (se_p sp_var)))))))⟩
theorem sc_Disk_fall : FnScope ["self", "choices", "many", "choice", "number", "text", "one"] ["self", "choices"] (defScope s_Disk_fall) := ⟨rfl, rfl, rfl, by decide +kernel, rfl, by decide +kernel, by decide +kernel⟩
def b1_Disk_fall : SM := (sSeq (sIf (mBP (pTst (pOp fEq (pVar 3) (pC (.int 1))))) (sDPutP (wFld FLD (wVar 0) "settled_ones") (pVar 4) (pVar 5)) sNext) (sIf (mBP (pTst (pOp fEq (pVar 3) (pC (.int 2))))) (sDPutP (wFld FLD (wVar 0) "settled_ones") (pVar 4) (pSl (pVar 5) oNone (oSome (pOp fDiv (pCB fLen (pCons (pVar 5) pNil)) (pC (.int 2)))))) sNext))
def m_Disk_fall : SM := (sSeq (sIf (mBP (bOr (bNot (pTst (pIsi "tuple" (pVar 1)))) (bNot (pTst (pCB fAll (pCons (pLc (iData (pVar 1)) (gmName 6) pTrue (pCB F_is_whole (pCons (pVar 6) (pCons (pC (.int 0)) (pCons (pC (.int 2)) pNil)))) [6]) pNil)))))) (sRaise "NoChoices") sNext) (sSeq (sFrz (wFld FLD (wVar 0) "loose") (sFor (iZip2 (pFld FLD (wVar 0) "loose") (pVar 1)) (gmTup 2 (gmCons (gmTup 2 (gmCons (gmName 4) (gmCons (gmName 5) gmNil))) (gmCons (gmName 3) gmNil))) (b1_Disk_fall))) (sSeq (sAsg 2 (mP (pCB fLen (pCons (pFld FLD (wVar 0) "loose") pNil)))) (sSeq (sSetFN FLD (wVar 0) "loose" (nLst aNil)) (sSeq (sSetF FLD (wVar 0) "fuse" (mP (pC .none))) (sSeq (sSetF FLD (wVar 0) "has_fallen" (mP (pC (.bool false)))) (sRet (mP (pVar 2)))))))))
def F_Disk_fall : Fun := funOf 7 2 (m_Disk_fall)
theorem om_Disk_fall (hT : TT.fl = true) (T : Txt mg) (xt : ExT exNs K mg) {dvs : List V} {kws : List (Str × V)} (F : FunD K "fall" "Disk.fall" (defArgs s_Disk_fall) (defBody s_Disk_fall) (defScope s_Disk_fall) dvs kws f fd) (g_is_whole : Fx P w K mg base 1 "is_whole" ["thing", "least", "most"] (spR K 3 fun ds z => F_is_whole ds = some z)) : FnOk P w K mg base (CXL P w) 2 f fd ["self", "choices"] (spF K FLD TT 2 (F_Disk_fall)) := by
  refine fn_ev (N := ["self", "choices", "many", "choice", "number", "text", "one"]) F sc_Disk_fall rfl fun cdv A outer s Hs E hr => ?_
  exact ⟨_, (pss_cons (ps_if (PW.pt (pw_or (pt_not (pt_val (pe_callB (call_isK (K := K) rfl) (by rfl) T.m_isinstance (by decide +kernel) (pa_cons (pv 1) (pa_cons (pe_bltn (v := .ty "tuple") (by rfl) T.m_tuple (by decide +kernel) rfl) pa_nil))))) (pw_or1 (pt_not (pt_val (pe_callB (cr_allK (K := K) rfl rfl) (by rfl) T.m_all (by decide +kernel) (pa_cons (pe_lc (own := [("one", 6)]) rfl sc_Disk_fall.nd (pi_K (K := K) rfl (pv 1)) (blkOk_by (N := ["self", "choices", "many", "choice", "number", "text", "one"]) (sc := defScope s_Disk_fall) (by decide +kernel)) (fun _ _ _ _ _ => (pg_name (i := 6) sc_Disk_fall.nd rfl (by first | exact Or.inl rfl | exact Or.inr rfl))) (fun _ _ _ _ _ => pts_nil) (fun _ _ _ _ _ => (pe_fx g_is_whole hr (by decide) (by rfl) passN (pa_cons (pv 6) (pa_cons (C8.pe_gc (by rfl) T.c_LOST) (pa_cons (C8.pe_gc (by rfl) T.c_TORN) pa_nil)))))) pa_nil))))))) (pss_one (L2N.ps_raise rfl (L2N.takes_of rfl rfl rfl rfl) (L2N.pmk_own PySem.F.excBase_ValueError (xt.exc "NoChoices" (by decide)) (xt.glo "NoChoices" (by decide)) (xt.keep "NoChoices" (by decide)) (raises_own (xt.sub "NoChoices" (by decide)) (xt.ty "NoChoices" (by decide))) (by rfl)))) pss_nil) (pss_cons (ps_for PassesOwn.leaving rfl (pi_zipUK (K := K) rfl (by rfl) T.m_zip (pa_cons (pe_fldK (K := K) rfl (pv 0)) (pa_cons (pv 1) pa_nil))) (pg_tupK (K := K) (n := 2) rfl (by rfl) (pgs_cons (pg_tupK (K := K) (n := 2) rfl (by rfl) (pgs_cons (pg_name (i := 4) sc_Disk_fall.nd rfl (by first | exact Or.inl rfl | exact Or.inr rfl)) (pgs_cons (pg_name (i := 5) sc_Disk_fall.nd rfl (by first | exact Or.inl rfl | exact Or.inr rfl)) pgs_nil))) (pgs_cons (pg_name (i := 3) sc_Disk_fall.nd rfl (by first | exact Or.inl rfl | exact Or.inr rfl)) pgs_nil))) (pss_cons (ps_if (pt_cmpR (op_eqK (K := K) rfl hr.units) (pv 3) (C8.pe_gc (by rfl) T.c_KEPT) (nomark _)) (pss_one (ps_dput (units1 hr.units) (pe_fldK (K := K) rfl (pv 0)) (pv 4) (pv 5) rfl)) pss_nil) (pss_one (ps_if (pt_cmpR (op_eqK (K := K) rfl hr.units) (pv 3) (C8.pe_gc (by rfl) T.c_TORN) (nomark _)) (pss_one (ps_dput (units1 hr.units) (pe_fldK (K := K) rfl (pv 0)) (pv 4) (pe_slice (sl_K (K := K) rfl) (pv 5) po_none (po_some (pe_op op_fdivW (pe_callB (call_lenK (K := K) rfl) (by rfl) T.m_len (by decide +kernel) (pa_cons (pv 5) pa_nil)) pe_int))) rfl)) pss_nil)))) (pss_cons (ps_set (i := 2) sc_Disk_fall.nd rfl (by first | exact Or.inl rfl | exact Or.inr rfl) (pe_callB (call_lenK (K := K) rfl) (by rfl) T.m_len (by decide +kernel) (pa_cons (pe_fldK (K := K) rfl (pv 0)) pa_nil))) (pss_cons (ps_fldK (K := K) rfl (pv 0) (pe_lst pa_nil)) (pss_cons (ps_fldK (K := K) rfl (pv 0) pe_non) (pss_cons (ps_fldK (K := K) rfl (pv 0) pe_bl) (pss_one (ps_ret (pv 2))))))))), (ss_seq (ss_if (sbe_p (sb_or (sb_not (sb_B (sp_isi sp_var))) (sb_not (sb_B (sp_cb cd_all (sps_cons (sp_lc (SimI.o (si_data sp_var)) sg_name sb_yes (sp_call (fun ds z h => ⟨h, pure_len h⟩) (sps_cons sp_var (sps_cons sp_int (sps_cons sp_int sps_nil))))) sps_nil)))))) ss_raise ss_next) (ss_seq (ss_frz (sw_fld sw_var) (ss_for (si_zip (sp_fld sw_var) sp_var) (sg_tup (sgs_cons (sg_tup (sgs_cons sg_name (sgs_cons sg_name sgs_nil))) (sgs_cons sg_name sgs_nil))) (ss_seq (ss_if (sbe_p (sb_test (sp_op od_eq sp_var sp_int))) (ss_dput (sw_fld sw_var) sp_var sp_var) ss_next) (ss_if (sbe_p (sb_test (sp_op od_eq sp_var sp_int))) (ss_dput (sw_fld sw_var) sp_var (sp_sl sp_var so_none (so_some (sp_op od_div (sp_cb cd_len (sps_cons sp_var sps_nil)) sp_int)))) ss_next)))) (ss_seq (ss_asg (se_p (sp_cb cd_len (sps_cons (sp_fld sw_var) sps_nil)))) (ss_seq (ss_setFN sw_var (sn_lst sa_nil)) (ss_seq (ss_setF sw_var (se_p sp_non)) (ss_seq (ss_setF sw_var (se_p sp_bl)) (ss_ret (se_p sp_var))))))))⟩
theorem sc_Disk_loose_ones : FnScope ["self", "number", "text"] ["self"] (defScope s_Disk_loose_ones) := ⟨rfl, rfl, rfl, by decide +kernel, rfl, by decide +kernel, by decide +kernel⟩
def m_Disk_loose_ones : SM := (sRet (mP (pLc (iOwn (wFld FLD (wVar 0) "loose")) (gmTup 2 (gmCons (gmName 1) (gmCons (gmName 2) gmNil))) pTrue (pVar 1) [1, 2])))
def F_Disk_loose_ones : Fun := funOf 3 1 (m_Disk_loose_ones)
theorem mx_Disk_loose_ones (hT : TT.fl = true) (T : Txt mg) (xt : ExT exNs K mg) (F : FunD K "loose_ones" "Disk.loose_ones" (defArgs s_Disk_loose_ones) (defBody s_Disk_loose_ones) (defScope s_Disk_loose_ones) [] [] f fd) (hm : Meth K (gaE K "Disk") "loose_ones" f)  : Mx P w K (gaE K "Disk") mg base 1 "loose_ones" ["self"] (spF K FLD TT 1 (F_Disk_loose_ones)) := by
  refine mx_ev (N := ["self", "number", "text"]) F hm sc_Disk_loose_ones rfl (fun _ _ _ _ _ _ us hl => match us, hl with | [_], _ => rfl) fun cdv A outer s Hs E hr => ?_
  exact ⟨_, (pss_one (ps_ret (pe_lc (own := [("number", 1), ("text", 2)]) rfl sc_Disk_loose_ones.nd (pi_K (K := K) rfl (pe_fldK (K := K) rfl (pv 0))) (blkOk_by (N := ["self", "number", "text"]) (sc := defScope s_Disk_loose_ones) (by decide +kernel)) (fun _ _ _ _ _ => (pg_tupK (K := K) (n := 2) rfl (by rfl) (pgs_cons (pg_name (i := 1) sc_Disk_loose_ones.nd rfl (by first | exact Or.inl rfl | exact Or.inr rfl)) (pgs_cons (pg_name (i := 2) sc_Disk_loose_ones.nd rfl (by first | exact Or.inl rfl | exact Or.inr rfl)) pgs_nil)))) (fun _ _ _ _ _ => pts_nil) (fun _ _ _ _ _ => (pv 1))))), (ss_ret (se_p (sp_lc (si_own (sw_fld sw_var)) (sg_tup (sgs_cons sg_name (sgs_cons sg_name sgs_nil))) sb_yes sp_var)))⟩
theorem sc_Disk_numbers : FnScope ["self", "number", "text"] ["self"] (defScope s_Disk_numbers) := ⟨rfl, rfl, rfl, by decide +kernel, rfl, by decide +kernel, by decide +kernel⟩
def m_Disk_numbers : SM := (sRet (mP (pCB fSortSet (pCons (pOp fAdd (pLc (iOwn (wFld FLD (wVar 0) "loose")) (gmTup 2 (gmCons (gmName 1) (gmCons (gmName 2) gmNil))) pTrue (pVar 1) [1, 2]) (pKeys (wFld FLD (wVar 0) "settled_ones"))) pNil))))
def F_Disk_numbers : Fun := funOf 3 1 (m_Disk_numbers)
theorem mx_Disk_numbers (hT : TT.fl = true) (T : Txt mg) (xt : ExT exNs K mg) (F : FunD K "numbers" "Disk.numbers" (defArgs s_Disk_numbers) (defBody s_Disk_numbers) (defScope s_Disk_numbers) [] [] f fd) (hm : Meth K (gaE K "Disk") "numbers" f)  : Mx P w K (gaE K "Disk") mg base 1 "numbers" ["self"] (spF K FLD TT 1 (F_Disk_numbers)) := by
  refine mx_ev (N := ["self", "number", "text"]) F hm sc_Disk_numbers rfl (fun _ _ _ _ _ _ us hl => match us, hl with | [_], _ => rfl) fun cdv A outer s Hs E hr => ?_
  exact ⟨_, (pss_one (ps_ret (pe_callB (cr_sortKI rfl) (by rfl) T.m_sorted (by decide +kernel) (pa_cons (pe_callTy (cr_setK rfl) (by rfl) T.m_set (by decide +kernel) (pa_cons (pe_op (op_addK (K := K) rfl) (pe_lc (own := [("number", 1), ("text", 2)]) rfl sc_Disk_numbers.nd (pi_K (K := K) rfl (pe_fldK (K := K) rfl (pv 0))) (blkOk_by (N := ["self", "number", "text"]) (sc := defScope s_Disk_numbers) (by decide +kernel)) (fun _ _ _ _ _ => (pg_tupK (K := K) (n := 2) rfl (by rfl) (pgs_cons (pg_name (i := 1) sc_Disk_numbers.nd rfl (by first | exact Or.inl rfl | exact Or.inr rfl)) (pgs_cons (pg_name (i := 2) sc_Disk_numbers.nd rfl (by first | exact Or.inl rfl | exact Or.inr rfl)) pgs_nil)))) (fun _ _ _ _ _ => pts_nil) (fun _ _ _ _ _ => (pv 1))) (pe_callTy (cr_listD rfl) (by rfl) T.m_list (by decide +kernel) (pa_cons (pe_fldK (K := K) rfl (pv 0)) pa_nil))) pa_nil)) pa_nil)))), (ss_ret (se_p (sp_sortSetI (sp_op od_add (sp_lc (si_own (sw_fld sw_var)) (sg_tup (sgs_cons sg_name (sgs_cons sg_name sgs_nil))) sb_yes sp_var) (sp_keys (sw_fld sw_var))))))⟩
theorem sc_Disk_counts : FnScope ["self"] ["self"] (defScope s_Disk_counts) := ⟨rfl, rfl, rfl, by decide +kernel, rfl, by decide +kernel, by decide +kernel⟩
def m_Disk_counts : SM := (sRet (mP (pTup (pCons (pFld FLD (wVar 0) "many_reads") (pCons (pFld FLD (wVar 0) "many_writes") (pCons (pFld FLD (wVar 0) "many_settles") pNil))))))
def F_Disk_counts : Fun := funOf 1 1 (m_Disk_counts)
theorem mx_Disk_counts (hT : TT.fl = true) (T : Txt mg) (xt : ExT exNs K mg) (F : FunD K "counts" "Disk.counts" (defArgs s_Disk_counts) (defBody s_Disk_counts) (defScope s_Disk_counts) [] [] f fd) (hm : Meth K (gaE K "Disk") "counts" f)  : Mx P w K (gaE K "Disk") mg base 1 "counts" ["self"] (spF K FLD TT 1 (F_Disk_counts)) := by
  refine mx_ev (N := ["self"]) F hm sc_Disk_counts rfl (fun _ _ _ _ _ _ us hl => match us, hl with | [_], _ => rfl) fun cdv A outer s Hs E hr => ?_
  exact ⟨_, (pss_one (ps_ret (pe_tup (pa_cons (pe_fldK (K := K) rfl (pv 0)) (pa_cons (pe_fldK (K := K) rfl (pv 0)) (pa_cons (pe_fldK (K := K) rfl (pv 0)) pa_nil)))))), (ss_ret (se_p (sp_tup (sps_cons (sp_fld sw_var) (sps_cons (sp_fld sw_var) (sps_cons (sp_fld sw_var) sps_nil))))))⟩
theorem sc_law : FnScope ["script", "k", "plate", "book", "loose", "settled_ones", "many", "turn", "number", "text", "one"] ["script"] (defScope s_law) := ⟨rfl, rfl, rfl, by decide +kernel, rfl, by decide +kernel, by decide +kernel⟩
def b1_law (F_Disk___init__ F_Disk_write F_Disk_read F_Disk_settle F_Disk_loose_ones F_Disk_numbers F_Disk___len__ F_Disk_counts F_Disk_fall : Fun) : SM := (sSeq (sNames [7, 8] (anV (mP (pCB FO_law_pick (pCons (pVar 0) (pCons (pOp fAdd (pOp fMul (pC (.int 10)) (pVar 1)) (pC (.int 1))) (pCons (pC (.int 5)) pNil))))) (anV (mP (pCB FO_law_pick (pCons (pVar 0) (pCons (pOp fAdd (pOp fMul (pC (.int 10)) (pVar 1)) (pC (.int 2))) (pCons (pC (.int 6)) pNil))))) anNil))) (sSeq (sIf (mBP (pTst (pOp fLt (pVar 7) (pC (.int 2))))) (sSeq (sAsg 9 (mP (pOp fAdd (pOp fMul (pC (.str (Str.ofString "x"))) (pCB FO_law_pick (pCons (pVar 0) (pCons (pOp fAdd (pOp fMul (pC (.int 10)) (pVar 1)) (pC (.int 3))) (pCons (pC (.int 119)) pNil))))) (pCB fStrI (pCons (pVar 1) pNil))))) (sSeq (sExpr (mMeth "Disk" "write" F_Disk_write 3 (mW (wVar 2)) (aConsV (mP (pVar 8)) (aConsV (mP (pVar 9)) aNil)))) (sSeq (sDPutP (wVar 3) (pVar 8) (pVar 9)) (sSeq (sExpr (mAppP (wVar 4) (pVar 8))) (sLPutP (wVar 6) (pC (.int 1)) (pOp fAdd (pIxL (wVar 6) (pC (.int 1))) (pC (.int 1)))))))) (sIf (mBP (pTst (pOp fLt (pVar 7) (pC (.int 4))))) (sSeq (sIf (mTst (mOp fNe (mMeth "Disk" "read" F_Disk_read 2 (mW (wVar 2)) (aConsV (mP (pVar 8)) aNil)) (mP (pDGet2 (wVar 3) (pVar 8) (pC .none))))) (sRet (mP (pC (.bool false)))) sNext) (sLPutP (wVar 6) (pC (.int 0)) (pOp fAdd (pIxL (wVar 6) (pC (.int 0))) (pC (.int 1))))) (sIf (mTst (mOp fNe (mMeth "Disk" "settle" F_Disk_settle 1 (mW (wVar 2)) aNil) (mP (pLenL (wVar 4))))) (sRet (mP (pC (.bool false)))) (sSeq (sNames [5, 4] (anN (nDcp (wVar 3)) (anN (nLst aNil) anNil))) (sLPutP (wVar 6) (pC (.int 2)) (pOp fAdd (pIxL (wVar 6) (pC (.int 2))) (pC (.int 1)))))))) (sSeq (sIf (mOrB (mTst (mOpW fNe (mMeth "Disk" "loose_ones" F_Disk_loose_ones 1 (mW (wVar 2)) aNil) (wVar 4))) (mOrB (mTst (mOp fNe (mMeth "Disk" "numbers" F_Disk_numbers 1 (mW (wVar 2)) aNil) (mP (pSortD (wVar 3))))) (mTst (mOp fNe (mLenO "Disk" F_Disk___len__ (mW (wVar 2))) (mP (pLenD (wVar 3))))))) (sRet (mP (pC (.bool false)))) sNext) (sIf (mTst (mOp fNe (mMeth "Disk" "counts" F_Disk_counts 1 (mW (wVar 2)) aNil) (mP (pTupW (wVar 6))))) (sRet (mP (pC (.bool false)))) sNext))))
def e2_law (F_Disk___init__ F_Disk_write F_Disk_read F_Disk_settle F_Disk_loose_ones F_Disk_numbers F_Disk___len__ F_Disk_counts F_Disk_fall : Fun) : EM := (mMeth "Disk" "read" F_Disk_read 2 (mW (wVar 2)) (aConsV (mP (pVar 10)) aNil))
def m_law (F_Disk___init__ F_Disk_write F_Disk_read F_Disk_settle F_Disk_loose_ones F_Disk_numbers F_Disk___len__ F_Disk_counts F_Disk_fall : Fun) : SM := (sSeq (sNames [2, 3, 4, 5, 6] (anV (mMakeK "Disk" F_Disk___init__ 2 0 1 aNil (aConsV (mP (pOp fAdd (pC (.int 120)) (pCB FO_law_pick (pCons (pVar 0) (pCons (pC (.int 0)) (pCons (pC (.int 281)) pNil)))))) aNil)) (anN nDic (anN (nLst aNil) (anN nDic (anN (nLst (aConsV (mP (pC (.int 0))) (aConsV (mP (pC (.int 0))) (aConsV (mP (pC (.int 0))) aNil)))) anNil)))))) (sSeq (sFor (iRg (pCons (pC (.int 30)) pNil)) (gmName 1) (b1_law F_Disk___init__ F_Disk_write F_Disk_read F_Disk_settle F_Disk_loose_ones F_Disk_numbers F_Disk___len__ F_Disk_counts F_Disk_fall)) (sSeq (sIf (mTst (mOp fNe (mMeth "Disk" "fall" F_Disk_fall 2 (mW (wVar 2)) (aDfl [.tuple []])) (mP (pLenL (wVar 4))))) (sRet (mP (pC (.bool false)))) sNext) (sSeq (sIf (mTst (mOp fNe (mMeth "Disk" "numbers" F_Disk_numbers 1 (mW (wVar 2)) aNil) (mP (pSortD (wVar 5))))) (sRet (mP (pC (.bool false)))) sNext) (sRet (mCB fAll (aConsV (mLcEqD 10 5 (e2_law F_Disk___init__ F_Disk_write F_Disk_read F_Disk_settle F_Disk_loose_ones F_Disk_numbers F_Disk___len__ F_Disk_counts F_Disk_fall)) aNil)))))))
def F_law (F_Disk___init__ F_Disk_write F_Disk_read F_Disk_settle F_Disk_loose_ones F_Disk_numbers F_Disk___len__ F_Disk_counts F_Disk_fall : Fun) : Fun := funOf 11 1 (m_law F_Disk___init__ F_Disk_write F_Disk_read F_Disk_settle F_Disk_loose_ones F_Disk_numbers F_Disk___len__ F_Disk_counts F_Disk_fall)
theorem ok_law (hT : TT.fl = true) (T : Txt mg) (xt : ExT exNs K mg) (ck_Disk : ClsOk K FLD "Disk") (F : FunD K "law" "law" (defArgs s_law) (defBody s_law) (defScope s_law) [] [] f fd) {F_Disk___init__ F_Disk_write F_Disk_read F_Disk_settle F_Disk_loose_ones F_Disk_numbers F_Disk___len__ F_Disk_counts F_Disk_fall : Fun} (g_law_pick : Fx P w K mg base 1 "_law_pick" ["script", "k", "many"] (spR K 3 Rpick)) {fi_Disk : Addr} {fdi_Disk : FuncData} (ok_Disk___init__ : FnOk P w K mg base (CXL P w) 3 fi_Disk fdi_Disk ["self", "wide"] (spF K FLD TT 2 F_Disk___init__)) (mk_Disk : Mk K (gaE K "Disk") fi_Disk) (m_Disk : mg "Disk" = some (.ref (gaE K "Disk"))) (g_Disk_write : Mx P w K (gaE K "Disk") mg base 3 "write" ["self", "number", "text"] (spF K FLD TT 3 F_Disk_write)) (g_Disk_read : Mx P w K (gaE K "Disk") mg base 3 "read" ["self", "number"] (spF K FLD TT 2 F_Disk_read)) (g_Disk_settle : Mx P w K (gaE K "Disk") mg base 2 "settle" ["self"] (spF K FLD TT 1 F_Disk_settle)) (g_Disk_loose_ones : Mx P w K (gaE K "Disk") mg base 1 "loose_ones" ["self"] (spF K FLD TT 1 F_Disk_loose_ones)) (g_Disk_numbers : Mx P w K (gaE K "Disk") mg base 1 "numbers" ["self"] (spF K FLD TT 1 F_Disk_numbers)) (g_Disk___len__ : Mx P w K (gaE K "Disk") mg base 1 "__len__" ["self"] (spF K FLD TT 1 F_Disk___len__)) (g_Disk_counts : Mx P w K (gaE K "Disk") mg base 1 "counts" ["self"] (spF K FLD TT 1 F_Disk_counts)) (g_Disk_fall : Mx P w K (gaE K "Disk") mg base 2 "fall" ["self", "choices"] (spF K FLD TT 2 F_Disk_fall)) {gk_Disk : List Value → List Value → List Value} (kb_Disk : KBn K fdi_Disk ["self", "wide"] 1 ["wide"] gk_Disk (fun vs zs => vs ++ zs)) {dv_Disk_fall : List V} (gd_Disk_fall : MxD P w K (gaE K "Disk") mg base 2 "fall" ["self", "choices"] (spF K FLD TT 2 F_Disk_fall) dv_Disk_fall) (vf_Disk_fall : ∀ H, DtAll K H dv_Disk_fall [.tuple []]) : FnOk P w K mg base (CXL P w) 5 f fd ["script"] (spF K FLD TT 1 (F_law F_Disk___init__ F_Disk_write F_Disk_read F_Disk_settle F_Disk_loose_ones F_Disk_numbers F_Disk___len__ F_Disk_counts F_Disk_fall)) := by
  refine fn_ev (N := ["script", "k", "plate", "book", "loose", "settled_ones", "many", "turn", "number", "text", "one"]) F sc_law rfl fun cdv A outer s Hs E hr => ?_
  have cls_Disk := ck_Disk.cls
  exact ⟨_, (pss_cons (ps_asg (pe_tup (pa_cons (pe_makeK0 mk_Disk ok_Disk___init__ (hr.mono (by decide)) (by rfl) m_Disk kb_Disk (passE rfl rfl rfl rfl) (pk_cons (pe_op (op_addK (K := K) rfl) pe_int (pe_fx g_law_pick hr (by decide) (by rfl) passN (pa_cons (pv 0) (pa_cons pe_int (pa_cons pe_int pa_nil))))) pk_nil)) (pa_cons pe_dnewK (pa_cons (pe_lst pa_nil) (pa_cons pe_dnewK (pa_cons (pe_lst (pa_cons pe_int (pa_cons pe_int (pa_cons pe_int pa_nil)))) pa_nil)))))) (pg_tupK (K := K) (n := 5) rfl (by rfl) (pgs_cons (pg_name (i := 2) sc_law.nd rfl (by first | exact Or.inl rfl | exact Or.inr rfl)) (pgs_cons (pg_name (i := 3) sc_law.nd rfl (by first | exact Or.inl rfl | exact Or.inr rfl)) (pgs_cons (pg_name (i := 4) sc_law.nd rfl (by first | exact Or.inl rfl | exact Or.inr rfl)) (pgs_cons (pg_name (i := 5) sc_law.nd rfl (by first | exact Or.inl rfl | exact Or.inr rfl)) (pgs_cons (pg_name (i := 6) sc_law.nd rfl (by first | exact Or.inl rfl | exact Or.inr rfl)) pgs_nil))))))) (pss_cons (ps_for PassesOwn.leaving rfl (pi_range1 (by rfl) T.m_range (pa_cons pe_int pa_nil)) (pg_name (i := 1) sc_law.nd rfl (by first | exact Or.inl rfl | exact Or.inr rfl)) (pss_cons (ps_par (by rfl) sc_law.nd (i := 7) (j := 8) rfl rfl (by decide) rfl rfl (pa_cons (pe_fx g_law_pick hr (by decide) (by rfl) passN (pa_cons (pv 0) (pa_cons (pe_op (op_addK (K := K) rfl) (pe_op (op_mulK (K := K) rfl) pe_int (pv 1)) pe_int) (pa_cons pe_int pa_nil)))) (pa_cons (pe_fx g_law_pick hr (by decide) (by rfl) passN (pa_cons (pv 0) (pa_cons (pe_op (op_addK (K := K) rfl) (pe_op (op_mulK (K := K) rfl) pe_int (pv 1)) pe_int) (pa_cons pe_int pa_nil)))) pa_nil)) (by rfl)) (pss_cons (ps_if (pt_cmpR op_ltU (pv 7) pe_int (nomark _)) (pss_cons (ps_set (i := 9) sc_law.nd rfl (by first | exact Or.inl rfl | exact Or.inr rfl) (pe_op (op_addK (K := K) rfl) (pe_op (op_mulK (K := K) rfl) pe_str (pe_fx g_law_pick hr (by decide) (by rfl) passN (pa_cons (pv 0) (pa_cons (pe_op (op_addK (K := K) rfl) (pe_op (op_mulK (K := K) rfl) pe_int (pv 1)) pe_int) (pa_cons pe_int pa_nil))))) (pe_callTy call_str_int (by rfl) T.m_str (by decide +kernel) (pa_cons (pv 1) pa_nil)))) (pss_cons (ps_expr (pe_mxG (fun σ => L2N.passAt (L2N.takes_of rfl rfl rfl rfl) σ) g_Disk_write cls_Disk hr (by decide) (pv 2) (pa_cons (pv 8) (pa_cons (pv 9) pa_nil)))) (pss_cons (ps_dput (units1 hr.units) (pv 3) (pv 8) (pv 9) rfl) (pss_cons (ps_expr (pe_bmK (K := K) rfl PySem.F.plainAttrs_list PySem.F.slot_list_append PySem.F.type_list_append mt_append (pv 4) (pa_cons (pv 8) pa_nil))) (pss_one (ps_asg (pe_op (op_addK (K := K) rfl) (pe_ix (ix_K (K := K) rfl) (pv 6) pe_int (fun _ _ => rfl)) pe_int) (pg_sub (pv 6) pe_int set_list))))))) (pss_one (ps_if (pt_cmpR op_ltU (pv 7) pe_int (nomark _)) (pss_cons (ps_if (pt_cmpR (op_neK (K := K) rfl hr.units) (pe_mxG (fun σ => L2N.passAt (L2N.takes_of rfl rfl rfl rfl) σ) g_Disk_read cls_Disk hr (by decide) (pv 2) (pa_cons (pv 8) pa_nil)) (pe_dget2 (units1 hr.units) (pv 3) (pv 8) pe_non ⟨rfl, rfl, rfl, rfl⟩) (nomark _)) (pss_one (ps_ret pe_bl)) pss_nil) (pss_one (ps_asg (pe_op (op_addK (K := K) rfl) (pe_ix (ix_K (K := K) rfl) (pv 6) pe_int (fun _ _ => rfl)) pe_int) (pg_sub (pv 6) pe_int set_list)))) (pss_one (ps_if (pt_cmpR (op_neK (K := K) rfl hr.units) (pe_mxG0 (fun σ => L2N.passAt (L2N.takes_of rfl rfl rfl rfl) σ) g_Disk_settle cls_Disk hr (by decide) (pv 2)) (pe_callB (call_lenK (K := K) rfl) (by rfl) T.m_len (by decide +kernel) (pa_cons (pv 4) pa_nil)) (nomark _)) (pss_one (ps_ret pe_bl)) (pss_cons (ps_asg (pe_tup (pa_cons (pe_callTy cr_dcp (by rfl) T.m_dict (by decide +kernel) (pa_cons (pv 3) pa_nil)) (pa_cons (pe_lst pa_nil) pa_nil))) (pg_tupK (K := K) (n := 2) rfl (by rfl) (pgs_cons (pg_name (i := 5) sc_law.nd rfl (by first | exact Or.inl rfl | exact Or.inr rfl)) (pgs_cons (pg_name (i := 4) sc_law.nd rfl (by first | exact Or.inl rfl | exact Or.inr rfl)) pgs_nil)))) (pss_one (ps_asg (pe_op (op_addK (K := K) rfl) (pe_ix (ix_K (K := K) rfl) (pv 6) pe_int (fun _ _ => rfl)) pe_int) (pg_sub (pv 6) pe_int set_list))))))))) (pss_cons (ps_if (PW.pt (pw_or (pt_cmpR (op_neK (K := K) rfl hr.units) (pe_mxG0 (fun σ => L2N.passAt (L2N.takes_of rfl rfl rfl rfl) σ) g_Disk_loose_ones cls_Disk hr (by decide) (pv 2)) (pv 4) (nomark _)) (pw_or (pt_cmpR (op_neK (K := K) rfl hr.units) (pe_mxG0 (fun σ => L2N.passAt (L2N.takes_of rfl rfl rfl rfl) σ) g_Disk_numbers cls_Disk hr (by decide) (pv 2)) (pe_callB (cr_sortDI rfl) (by rfl) T.m_sorted (by decide +kernel) (pa_cons (pv 3) pa_nil)) (nomark _)) (pw_or1 (pt_cmpR (op_neK (K := K) rfl hr.units) (pe_lenO (fun σ => L2N.passAt (L2N.takes_of rfl rfl rfl rfl) σ) g_Disk___len__ hr (by decide) (by rfl) T.m_len (pv 2)) (pe_callB cr_lenD (by rfl) T.m_len (by decide +kernel) (pa_cons (pv 3) pa_nil)) (nomark _)))))) (pss_one (ps_ret pe_bl)) pss_nil) (pss_one (ps_if (pt_cmpR (op_neK (K := K) rfl hr.units) (pe_mxG0 (fun σ => L2N.passAt (L2N.takes_of rfl rfl rfl rfl) σ) g_Disk_counts cls_Disk hr (by decide) (pv 2)) (pe_callTy (call_tupK (K := K) rfl) (by rfl) T.m_tuple (by decide +kernel) (pa_cons (pv 6) pa_nil)) (nomark _)) (pss_one (ps_ret pe_bl)) pss_nil)))))) (pss_cons (ps_if (pt_cmpR (op_neK (K := K) rfl hr.units) (pe_mxGD (fun σ => L2N.passAt (L2N.takes_of rfl rfl rfl rfl) σ) gd_Disk_fall cls_Disk hr (by decide) (pv 2)) (pe_callB (call_lenK (K := K) rfl) (by rfl) T.m_len (by decide +kernel) (pa_cons (pv 4) pa_nil)) (nomark _)) (pss_one (ps_ret pe_bl)) pss_nil) (pss_cons (ps_if (pt_cmpR (op_neK (K := K) rfl hr.units) (pe_mxG0 (fun σ => L2N.passAt (L2N.takes_of rfl rfl rfl rfl) σ) g_Disk_numbers cls_Disk hr (by decide) (pv 2)) (pe_callB (cr_sortDI rfl) (by rfl) T.m_sorted (by decide +kernel) (pa_cons (pv 5) pa_nil)) (nomark _)) (pss_one (ps_ret pe_bl)) pss_nil) (pss_one (ps_ret (pe_callB (cr_allK (K := K) rfl rfl) (by rfl) T.m_all (by decide +kernel) (pa_cons (pe_lock (pe_lc (own := [("one", 10)]) rfl sc_law.nd (pi_keys (pv 5)) (blkOk_by (N := ["script", "k", "plate", "book", "loose", "settled_ones", "many", "turn", "number", "text", "one"]) (sc := defScope s_law) (by decide +kernel)) (fun _ _ _ _ _ => (pg_name (i := 10) sc_law.nd rfl (by first | exact Or.inl rfl | exact Or.inr rfl))) (fun _ _ _ _ _ => pts_nil) (fun _ _ _ _ _ => (pe_cmpR (op_eqK (K := K) rfl hr.units) (pe_mxG takes0 g_Disk_read cls_Disk hr (by decide) (pv 2) (pa_cons (pv 10) pa_nil)) (pe_dget (units1 hr.units) (pv 5) (pv 10) (fun _ _ => rfl)) (nomark _))))) pa_nil)))))))), (ss_seq (ss_names (is := [2, 3, 4, 5, 6]) rfl (san_v (se_makeK hT ck_Disk (fun _ _ _ _ h => h) sa_nil (sa_cons (se_p (sp_op od_add sp_int (sp_call hfo_law_pick (sps_cons sp_var (sps_cons sp_int (sps_cons sp_int sps_nil)))))) sa_nil)) (san_n sn_dic (san_n (sn_lst sa_nil) (san_n sn_dic (san_n (sn_lst (sa_cons (se_p sp_int) (sa_cons (se_p sp_int) (sa_cons (se_p sp_int) sa_nil)))) san_nil)))))) (ss_seq (ss_for (si_range (sps_cons sp_int sps_nil)) sg_name (ss_seq (ss_par2 (san_v (se_p (sp_call hfo_law_pick (sps_cons sp_var (sps_cons (sp_op od_add (sp_op od_mul sp_int sp_var) sp_int) (sps_cons sp_int sps_nil))))) (san_v (se_p (sp_call hfo_law_pick (sps_cons sp_var (sps_cons (sp_op od_add (sp_op od_mul sp_int sp_var) sp_int) (sps_cons sp_int sps_nil))))) san_nil))) (ss_seq (ss_if (sbe_p (sb_test (sp_op od_lt sp_var sp_int))) (ss_seq (ss_asg (se_p (sp_op od_add (sp_op od_mul sp_str (sp_call hfo_law_pick (sps_cons sp_var (sps_cons (sp_op od_add (sp_op od_mul sp_int sp_var) sp_int) (sps_cons sp_int sps_nil))))) (sp_cb cd_strI (sps_cons sp_var sps_nil))))) (ss_seq (ss_expr (se_meth hT (se_w sw_var) (sa_cons (se_p sp_var) (sa_cons (se_p sp_var) sa_nil)))) (ss_seq (ss_dput sw_var sp_var sp_var) (ss_seq (ss_expr (se_appP sw_var sp_var)) (ss_lput sw_var sp_int (sp_op od_add (sp_ixL sw_var sp_int) sp_int)))))) (ss_if (sbe_p (sb_test (sp_op od_lt sp_var sp_int))) (ss_seq (ss_if (sbe_test (se_op od_ne (se_meth hT (se_w sw_var) (sa_cons (se_p sp_var) sa_nil)) (se_p (sp_dget2 sw_var sp_var sp_non)))) (ss_ret (se_p sp_bl)) ss_next) (ss_lput sw_var sp_int (sp_op od_add (sp_ixL sw_var sp_int) sp_int))) (ss_if (sbe_test (se_op od_ne (se_meth hT (se_w sw_var) sa_nil) (se_p (sp_lenL sw_var)))) (ss_ret (se_p sp_bl)) (ss_seq (ss_names (is := [5, 4]) rfl (san_n (sn_dcp sw_var) (san_n (sn_lst sa_nil) san_nil))) (ss_lput sw_var sp_int (sp_op od_add (sp_ixL sw_var sp_int) sp_int)))))) (ss_seq (ss_if (sbe_or (sbe_test (se_opW od_ne (se_meth hT (se_w sw_var) sa_nil) sw_var)) (sbe_or (sbe_test (se_op od_ne (se_meth hT (se_w sw_var) sa_nil) (se_p (sp_sortD sw_var)))) (sbe_test (se_op od_ne (se_lenO hT (se_w sw_var)) (se_p (sp_lenD sw_var)))))) (ss_ret (se_p sp_bl)) ss_next) (ss_if (sbe_test (se_op od_ne (se_meth hT (se_w sw_var) sa_nil) (se_p (sp_tupW sw_var)))) (ss_ret (se_p sp_bl)) ss_next))))) (ss_seq (ss_if (sbe_test (se_op od_ne (se_meth hT (se_w sw_var) (sa_dfl vf_Disk_fall)) (se_p (sp_lenL sw_var)))) (ss_ret (se_p sp_bl)) ss_next) (ss_seq (ss_if (sbe_test (se_op od_ne (se_meth hT (se_w sw_var) sa_nil) (se_p (sp_sortD sw_var)))) (ss_ret (se_p sp_bl)) ss_next) (ss_ret (se_cb cd_all (sa_cons (se_lcEqD hT (se_meth hT (se_w sw_var) (sa_cons (se_p sp_var) sa_nil))) sa_nil)))))))⟩
end
end EV
/-! ### EV: the disk's methods, what they come to -/
namespace EV
open PySem PySem.Spec PyProof.Rows L2 Evl L2H LamX LR
structure DkS where
  wide : Int
  done : List (Key × PyData)
  loose : Val
  fuse : PyData
  fallen : Bool
  rd : Int
  wr : Int
  st : Int
def dkF (S : DkS) : List (Str × Val) := [("wide", Val.dat (.int S.wide)), ("settled_ones", Val.ownD S.done), ("loose", S.loose), ("fuse", Val.dat S.fuse), ("has_fallen", Val.dat (.bool S.fallen)), ("many_reads", Val.dat (.int S.rd)), ("many_writes", Val.dat (.int S.wr)), ("many_settles", Val.dat (.int S.st))]
abbrev dkO (S : DkS) : Ob := .ins "Disk" (dkF S)
theorem lk_Disk_wide (S : DkS) : List.lookup ("wide" : Str) (dkF S) = some (Val.dat (.int S.wide)) := rfl
theorem in_Disk_wide : (("wide" : Str) ∈ FLD "Disk") = True := eq_true (by decide)
theorem pt_Disk_wide (S : DkS) (x : Int) : putA "wide" (Val.dat (.int x)) (dkF S) = dkF { S with wide := x } := rfl
theorem lk_Disk_settled_ones (S : DkS) : List.lookup ("settled_ones" : Str) (dkF S) = some (Val.ownD S.done) := rfl
theorem in_Disk_settled_ones : (("settled_ones" : Str) ∈ FLD "Disk") = True := eq_true (by decide)
theorem pt_Disk_settled_ones (S : DkS) (x : List (Key × PyData)) : putA "settled_ones" (Val.ownD x) (dkF S) = dkF { S with done := x } := rfl
theorem lk_Disk_loose (S : DkS) : List.lookup ("loose" : Str) (dkF S) = some (S.loose) := rfl
theorem in_Disk_loose : (("loose" : Str) ∈ FLD "Disk") = True := eq_true (by decide)
theorem pt_Disk_loose (S : DkS) (x : Val) : putA "loose" (x) (dkF S) = dkF { S with loose := x } := rfl
theorem lk_Disk_fuse (S : DkS) : List.lookup ("fuse" : Str) (dkF S) = some (Val.dat S.fuse) := rfl
theorem in_Disk_fuse : (("fuse" : Str) ∈ FLD "Disk") = True := eq_true (by decide)
theorem pt_Disk_fuse (S : DkS) (x : PyData) : putA "fuse" (Val.dat x) (dkF S) = dkF { S with fuse := x } := rfl
theorem lk_Disk_has_fallen (S : DkS) : List.lookup ("has_fallen" : Str) (dkF S) = some (Val.dat (.bool S.fallen)) := rfl
theorem in_Disk_has_fallen : (("has_fallen" : Str) ∈ FLD "Disk") = True := eq_true (by decide)
theorem pt_Disk_has_fallen (S : DkS) (x : Bool) : putA "has_fallen" (Val.dat (.bool x)) (dkF S) = dkF { S with fallen := x } := rfl
theorem lk_Disk_many_reads (S : DkS) : List.lookup ("many_reads" : Str) (dkF S) = some (Val.dat (.int S.rd)) := rfl
theorem in_Disk_many_reads : (("many_reads" : Str) ∈ FLD "Disk") = True := eq_true (by decide)
theorem pt_Disk_many_reads (S : DkS) (x : Int) : putA "many_reads" (Val.dat (.int x)) (dkF S) = dkF { S with rd := x } := rfl
theorem lk_Disk_many_writes (S : DkS) : List.lookup ("many_writes" : Str) (dkF S) = some (Val.dat (.int S.wr)) := rfl
theorem in_Disk_many_writes : (("many_writes" : Str) ∈ FLD "Disk") = True := eq_true (by decide)
theorem pt_Disk_many_writes (S : DkS) (x : Int) : putA "many_writes" (Val.dat (.int x)) (dkF S) = dkF { S with wr := x } := rfl
theorem lk_Disk_many_settles (S : DkS) : List.lookup ("many_settles" : Str) (dkF S) = some (Val.dat (.int S.st)) := rfl
theorem in_Disk_many_settles : (("many_settles" : Str) ∈ FLD "Disk") = True := eq_true (by decide)
theorem pt_Disk_many_settles (S : DkS) (x : Int) : putA "many_settles" (Val.dat (.int x)) (dkF S) = dkF { S with st := x } := rfl
theorem pi_Disk_wide (v : Val) : putA ("wide" : Str) v ([] : List (Str × Val)) = ([("wide", v)] : List (Str × Val)) := rfl
theorem pi_Disk_settled_ones (x0 : Val) (v : Val) : putA ("settled_ones" : Str) v ([("wide", x0)] : List (Str × Val)) = ([("wide", x0), ("settled_ones", v)] : List (Str × Val)) := rfl
theorem pi_Disk_loose (x0 x1 : Val) (v : Val) : putA ("loose" : Str) v ([("wide", x0), ("settled_ones", x1)] : List (Str × Val)) = ([("wide", x0), ("settled_ones", x1), ("loose", v)] : List (Str × Val)) := rfl
theorem pi_Disk_fuse (x0 x1 x2 : Val) (v : Val) : putA ("fuse" : Str) v ([("wide", x0), ("settled_ones", x1), ("loose", x2)] : List (Str × Val)) = ([("wide", x0), ("settled_ones", x1), ("loose", x2), ("fuse", v)] : List (Str × Val)) := rfl
theorem pi_Disk_has_fallen (x0 x1 x2 x3 : Val) (v : Val) : putA ("has_fallen" : Str) v ([("wide", x0), ("settled_ones", x1), ("loose", x2), ("fuse", x3)] : List (Str × Val)) = ([("wide", x0), ("settled_ones", x1), ("loose", x2), ("fuse", x3), ("has_fallen", v)] : List (Str × Val)) := rfl
theorem pi_Disk_many_reads (x0 x1 x2 x3 x4 : Val) (v : Val) : putA ("many_reads" : Str) v ([("wide", x0), ("settled_ones", x1), ("loose", x2), ("fuse", x3), ("has_fallen", x4)] : List (Str × Val)) = ([("wide", x0), ("settled_ones", x1), ("loose", x2), ("fuse", x3), ("has_fallen", x4), ("many_reads", v)] : List (Str × Val)) := rfl
theorem pi_Disk_many_writes (x0 x1 x2 x3 x4 x5 : Val) (v : Val) : putA ("many_writes" : Str) v ([("wide", x0), ("settled_ones", x1), ("loose", x2), ("fuse", x3), ("has_fallen", x4), ("many_reads", x5)] : List (Str × Val)) = ([("wide", x0), ("settled_ones", x1), ("loose", x2), ("fuse", x3), ("has_fallen", x4), ("many_reads", x5), ("many_writes", v)] : List (Str × Val)) := rfl
theorem pi_Disk_many_settles (x0 x1 x2 x3 x4 x5 x6 : Val) (v : Val) : putA ("many_settles" : Str) v ([("wide", x0), ("settled_ones", x1), ("loose", x2), ("fuse", x3), ("has_fallen", x4), ("many_reads", x5), ("many_writes", x6)] : List (Str × Val)) = ([("wide", x0), ("settled_ones", x1), ("loose", x2), ("fuse", x3), ("has_fallen", x4), ("many_reads", x5), ("many_writes", x6), ("many_settles", v)] : List (Str × Val)) := rfl
theorem ln_Disk (S : DkS) : (dkF S).length = 8 := rfl
theorem fld_at {st : List Ob} {i : Nat} {C : Str} {fs : List (Str × Val)} (h : st[i]? = some (.ins C fs)) (sl : List (Option Val)) (f : Str) : fldAt FLD ⟨sl, st⟩ (.ob i) f = if f ∈ FLD C then (fs.lookup f).map (fun v => (i, v)) else none := by
  unfold fldAt
  simp only [h]
theorem set_at {st : List Ob} {i : Nat} {o x : Ob} (h : st[i]? = some o) : (st.set i x)[i]? = some x := List.getElem?_set_self (List.getElem?_eq_some_iff.mp h).1
theorem get_set {st : List Ob} {i : Nat} {o : Ob} (h : st[i]? = some o) (x : Ob) : (st.set i x)[i]? = some x := set_at h
theorem fld_set {st : List Ob} {i : Nat} {o : Ob} (h : st[i]? = some o) (C : Str) (fs : List (Str × Val)) (sl : List (Option Val)) (f : Str) : fldAt FLD ⟨sl, st.set i (.ins C fs)⟩ (.ob i) f = if f ∈ FLD C then (fs.lookup f).map (fun v => (i, v)) else none := fld_at (set_at h) sl f
def wholeB (d : PyData) (a b : Int) : Bool := match d with
  | .int n => decide (a ≤ n) && decide (n ≤ b)
  | _ => false
theorem is_whole_eq (d : PyData) (a b : Int) : F_is_whole [d, .int a, .int b] = some (.bool (wholeB d a b)) := by
  cases d with
  | int n =>
    by_cases c : a ≤ n <;> simp [F_is_whole, m_is_whole, wholeB, c, funOf, argVs, argV, argsOf, sSeq, sIf, sBind, mBP, pTst, pFld, wVar, wVal, wFld, sRaise, endOf, sNext, pOp, pC, pVar, sRet, sRetN, mP, mW, sExpr, sAsg, sAugF, insAt, sSetF, sSetFN, eBind, mCall, callF, mMeth, clsAt, noFld, notFld, aNil, aConsV, okV, okVs, asB, asI, asBv, bAnd, bOr, bNot, mTst, mAndB, mOrB, mNotB, mIf, mAnd, mOr, mNot, pAnd, pOr, pNot, pIf, pUn, pNil, pCons, pCB, pTup, pLst, pIsi, fNotN, fIsN, isNone, fEq, fNe, fEqB, fAdd, fSub, fI, fIB, fIC, fNeg, fIx, fLen, fLt, fMax2, fMin2, fInt, contAt, lstAt, dicAt, mAppP, mLPop, Sg.put, Sg.set, pLenL, pLenD, pDGet, pDGet2, pDIn, pDNotIn, sDPutP, mDPop1, mDPop2, keyD, nLst, nDic, sAsgN, sFrz, Sg.frz, endP, pureOf, pChain, mTup, mLst, mCB, isTy, sNames, setNs, anV, anN, anNil, mMake, makeF, mMakeK, mTold, mVar, pSl, oNone, oSome, mSl, sFor, iData, mOp, mUn]
  | bool b => simp [F_is_whole, m_is_whole, wholeB, funOf, argVs, argV, argsOf, sSeq, sIf, sBind, mBP, pTst, pFld, wVar, wVal, wFld, sRaise, endOf, sNext, pOp, pC, pVar, sRet, sRetN, mP, mW, sExpr, sAsg, sAugF, insAt, sSetF, sSetFN, eBind, mCall, callF, mMeth, clsAt, noFld, notFld, aNil, aConsV, okV, okVs, asB, asI, asBv, bAnd, bOr, bNot, mTst, mAndB, mOrB, mNotB, mIf, mAnd, mOr, mNot, pAnd, pOr, pNot, pIf, pUn, pNil, pCons, pCB, pTup, pLst, pIsi, fNotN, fIsN, isNone, fEq, fNe, fEqB, fAdd, fSub, fI, fIB, fIC, fNeg, fIx, fLen, fLt, fMax2, fMin2, fInt, contAt, lstAt, dicAt, mAppP, mLPop, Sg.put, Sg.set, pLenL, pLenD, pDGet, pDGet2, pDIn, pDNotIn, sDPutP, mDPop1, mDPop2, keyD, nLst, nDic, sAsgN, sFrz, Sg.frz, endP, pureOf, pChain, mTup, mLst, mCB, isTy, sNames, setNs, anV, anN, anNil, mMake, makeF, mMakeK, mTold, mVar, pSl, oNone, oSome, mSl, sFor, iData, mOp, mUn]
  | none => simp [F_is_whole, m_is_whole, wholeB, funOf, argVs, argV, argsOf, sSeq, sIf, sBind, mBP, pTst, pFld, wVar, wVal, wFld, sRaise, endOf, sNext, pOp, pC, pVar, sRet, sRetN, mP, mW, sExpr, sAsg, sAugF, insAt, sSetF, sSetFN, eBind, mCall, callF, mMeth, clsAt, noFld, notFld, aNil, aConsV, okV, okVs, asB, asI, asBv, bAnd, bOr, bNot, mTst, mAndB, mOrB, mNotB, mIf, mAnd, mOr, mNot, pAnd, pOr, pNot, pIf, pUn, pNil, pCons, pCB, pTup, pLst, pIsi, fNotN, fIsN, isNone, fEq, fNe, fEqB, fAdd, fSub, fI, fIB, fIC, fNeg, fIx, fLen, fLt, fMax2, fMin2, fInt, contAt, lstAt, dicAt, mAppP, mLPop, Sg.put, Sg.set, pLenL, pLenD, pDGet, pDGet2, pDIn, pDNotIn, sDPutP, mDPop1, mDPop2, keyD, nLst, nDic, sAsgN, sFrz, Sg.frz, endP, pureOf, pChain, mTup, mLst, mCB, isTy, sNames, setNs, anV, anN, anNil, mMake, makeF, mMakeK, mTold, mVar, pSl, oNone, oSome, mSl, sFor, iData, mOp, mUn]
  | str s => simp [F_is_whole, m_is_whole, wholeB, funOf, argVs, argV, argsOf, sSeq, sIf, sBind, mBP, pTst, pFld, wVar, wVal, wFld, sRaise, endOf, sNext, pOp, pC, pVar, sRet, sRetN, mP, mW, sExpr, sAsg, sAugF, insAt, sSetF, sSetFN, eBind, mCall, callF, mMeth, clsAt, noFld, notFld, aNil, aConsV, okV, okVs, asB, asI, asBv, bAnd, bOr, bNot, mTst, mAndB, mOrB, mNotB, mIf, mAnd, mOr, mNot, pAnd, pOr, pNot, pIf, pUn, pNil, pCons, pCB, pTup, pLst, pIsi, fNotN, fIsN, isNone, fEq, fNe, fEqB, fAdd, fSub, fI, fIB, fIC, fNeg, fIx, fLen, fLt, fMax2, fMin2, fInt, contAt, lstAt, dicAt, mAppP, mLPop, Sg.put, Sg.set, pLenL, pLenD, pDGet, pDGet2, pDIn, pDNotIn, sDPutP, mDPop1, mDPop2, keyD, nLst, nDic, sAsgN, sFrz, Sg.frz, endP, pureOf, pChain, mTup, mLst, mCB, isTy, sNames, setNs, anV, anN, anNil, mMake, makeF, mMakeK, mTold, mVar, pSl, oNone, oSome, mSl, sFor, iData, mOp, mUn]
  | list s => simp [F_is_whole, m_is_whole, wholeB, funOf, argVs, argV, argsOf, sSeq, sIf, sBind, mBP, pTst, pFld, wVar, wVal, wFld, sRaise, endOf, sNext, pOp, pC, pVar, sRet, sRetN, mP, mW, sExpr, sAsg, sAugF, insAt, sSetF, sSetFN, eBind, mCall, callF, mMeth, clsAt, noFld, notFld, aNil, aConsV, okV, okVs, asB, asI, asBv, bAnd, bOr, bNot, mTst, mAndB, mOrB, mNotB, mIf, mAnd, mOr, mNot, pAnd, pOr, pNot, pIf, pUn, pNil, pCons, pCB, pTup, pLst, pIsi, fNotN, fIsN, isNone, fEq, fNe, fEqB, fAdd, fSub, fI, fIB, fIC, fNeg, fIx, fLen, fLt, fMax2, fMin2, fInt, contAt, lstAt, dicAt, mAppP, mLPop, Sg.put, Sg.set, pLenL, pLenD, pDGet, pDGet2, pDIn, pDNotIn, sDPutP, mDPop1, mDPop2, keyD, nLst, nDic, sAsgN, sFrz, Sg.frz, endP, pureOf, pChain, mTup, mLst, mCB, isTy, sNames, setNs, anV, anN, anNil, mMake, makeF, mMakeK, mTold, mVar, pSl, oNone, oSome, mSl, sFor, iData, mOp, mUn]
  | tuple s => simp [F_is_whole, m_is_whole, wholeB, funOf, argVs, argV, argsOf, sSeq, sIf, sBind, mBP, pTst, pFld, wVar, wVal, wFld, sRaise, endOf, sNext, pOp, pC, pVar, sRet, sRetN, mP, mW, sExpr, sAsg, sAugF, insAt, sSetF, sSetFN, eBind, mCall, callF, mMeth, clsAt, noFld, notFld, aNil, aConsV, okV, okVs, asB, asI, asBv, bAnd, bOr, bNot, mTst, mAndB, mOrB, mNotB, mIf, mAnd, mOr, mNot, pAnd, pOr, pNot, pIf, pUn, pNil, pCons, pCB, pTup, pLst, pIsi, fNotN, fIsN, isNone, fEq, fNe, fEqB, fAdd, fSub, fI, fIB, fIC, fNeg, fIx, fLen, fLt, fMax2, fMin2, fInt, contAt, lstAt, dicAt, mAppP, mLPop, Sg.put, Sg.set, pLenL, pLenD, pDGet, pDGet2, pDIn, pDNotIn, sDPutP, mDPop1, mDPop2, keyD, nLst, nDic, sAsgN, sFrz, Sg.frz, endP, pureOf, pChain, mTup, mLst, mCB, isTy, sNames, setNs, anV, anN, anNil, mMake, makeF, mMakeK, mTold, mVar, pSl, oNone, oSome, mSl, sFor, iData, mOp, mUn]
  | dict s => simp [F_is_whole, m_is_whole, wholeB, funOf, argVs, argV, argsOf, sSeq, sIf, sBind, mBP, pTst, pFld, wVar, wVal, wFld, sRaise, endOf, sNext, pOp, pC, pVar, sRet, sRetN, mP, mW, sExpr, sAsg, sAugF, insAt, sSetF, sSetFN, eBind, mCall, callF, mMeth, clsAt, noFld, notFld, aNil, aConsV, okV, okVs, asB, asI, asBv, bAnd, bOr, bNot, mTst, mAndB, mOrB, mNotB, mIf, mAnd, mOr, mNot, pAnd, pOr, pNot, pIf, pUn, pNil, pCons, pCB, pTup, pLst, pIsi, fNotN, fIsN, isNone, fEq, fNe, fEqB, fAdd, fSub, fI, fIB, fIC, fNeg, fIx, fLen, fLt, fMax2, fMin2, fInt, contAt, lstAt, dicAt, mAppP, mLPop, Sg.put, Sg.set, pLenL, pLenD, pDGet, pDGet2, pDIn, pDNotIn, sDPutP, mDPop1, mDPop2, keyD, nLst, nDic, sAsgN, sFrz, Sg.frz, endP, pureOf, pChain, mTup, mLst, mCB, isTy, sNames, setNs, anV, anN, anNil, mMake, makeF, mMakeK, mTold, mVar, pSl, oNone, oSome, mSl, sFor, iData, mOp, mUn]
theorem look_whole_eq (d : PyData) (a b : Int) (st : List Ob) : F_look_whole [.dat d, .dat (.int a), .dat (.int b)] st = some (if wholeB d a b then .ok (.dat .none) else .error "NoNumber", st) := by
  cases h : wholeB d a b <;> simp [F_look_whole, m_look_whole, is_whole_eq, h, funOf, argVs, argV, argsOf, sSeq, sIf, sBind, mBP, pTst, pFld, wVar, wVal, wFld, sRaise, endOf, sNext, pOp, pC, pVar, sRet, sRetN, mP, mW, sExpr, sAsg, sAugF, insAt, sSetF, sSetFN, eBind, mCall, callF, mMeth, clsAt, noFld, notFld, aNil, aConsV, okV, okVs, asB, asI, asBv, bAnd, bOr, bNot, mTst, mAndB, mOrB, mNotB, mIf, mAnd, mOr, mNot, pAnd, pOr, pNot, pIf, pUn, pNil, pCons, pCB, pTup, pLst, pIsi, fNotN, fIsN, isNone, fEq, fNe, fEqB, fAdd, fSub, fI, fIB, fIC, fNeg, fIx, fLen, fLt, fMax2, fMin2, fInt, contAt, lstAt, dicAt, mAppP, mLPop, Sg.put, Sg.set, pLenL, pLenD, pDGet, pDGet2, pDIn, pDNotIn, sDPutP, mDPop1, mDPop2, keyD, nLst, nDic, sAsgN, sFrz, Sg.frz, endP, pureOf, pChain, mTup, mLst, mCB, isTy, sNames, setNs, anV, anN, anNil, mMake, makeF, mMakeK, mTold, mVar, pSl, oNone, oSome, mSl, sFor, iData, mOp, mUn]
def burnE (S : DkS) : Except Str Rv × DkS := if S.fallen then (.error "Fallen", S) else match S.fuse with
  | .int n => if n = 0 then (.error "Fallen", { S with fallen := true }) else (.ok (.dat .none), { S with fuse := .int (n - 1) })
  | _ => (.ok (.dat .none), S)
def FuseOk (S : DkS) : Prop := S.fuse = .none ∨ ∃ n, S.fuse = .int n
theorem set_same {st : List Ob} {i : Nat} {o : Ob} (h : st[i]? = some o) : st.set i o = st := by
  apply List.ext_getElem?
  intro k
  rw [List.getElem?_set]
  split
  · rename_i e
    subst e
    split
    · exact h.symm
    · rename_i c
      rw [List.getElem?_eq_none (Nat.le_of_not_lt c)]
  · rfl
theorem burn_eq {st : List Ob} {i : Nat} {S : DkS} (h : st[i]? = some (dkO S)) (hf : FuseOk S) : F_Disk_burn [.at_ (.ob i)] st = some ((burnE S).1, st.set i (dkO (burnE S).2)) := by
  cases hS : S.fallen with
  | true =>
    have e : burnE S = (.error "Fallen", S) := by unfold burnE; rw [hS]; rfl
    rw [e]
    simp [F_Disk_burn, m_Disk_burn, fld_at h, h, hS, set_same h, funOf, argVs, argV, argsOf, sSeq, sIf, sBind, mBP, pTst, pFld, wVar, wVal, wFld, sRaise, endOf, sNext, pOp, pC, pVar, sRet, sRetN, mP, mW, sExpr, sAsg, sAugF, insAt, sSetF, sSetFN, eBind, mCall, callF, mMeth, clsAt, noFld, notFld, aNil, aConsV, okV, okVs, asB, asI, asBv, bAnd, bOr, bNot, mTst, mAndB, mOrB, mNotB, mIf, mAnd, mOr, mNot, pAnd, pOr, pNot, pIf, pUn, pNil, pCons, pCB, pTup, pLst, pIsi, fNotN, fIsN, isNone, fEq, fNe, fEqB, fAdd, fSub, fI, fIB, fIC, fNeg, fIx, fLen, fLt, fMax2, fMin2, fInt, contAt, lstAt, dicAt, mAppP, mLPop, Sg.put, Sg.set, pLenL, pLenD, pDGet, pDGet2, pDIn, pDNotIn, sDPutP, mDPop1, mDPop2, keyD, nLst, nDic, sAsgN, sFrz, Sg.frz, endP, pureOf, pChain, mTup, mLst, mCB, isTy, sNames, setNs, anV, anN, anNil, mMake, makeF, mMakeK, mTold, mVar, pSl, oNone, oSome, mSl, sFor, iData, mOp, mUn, lk_Disk_wide, in_Disk_wide, pt_Disk_wide, lk_Disk_settled_ones, in_Disk_settled_ones, pt_Disk_settled_ones, lk_Disk_loose, in_Disk_loose, pt_Disk_loose, lk_Disk_fuse, in_Disk_fuse, pt_Disk_fuse, lk_Disk_has_fallen, in_Disk_has_fallen, pt_Disk_has_fallen, lk_Disk_many_reads, in_Disk_many_reads, pt_Disk_many_reads, lk_Disk_many_writes, in_Disk_many_writes, pt_Disk_many_writes, lk_Disk_many_settles, in_Disk_many_settles, pt_Disk_many_settles, ln_Disk]
  | false =>
    rcases hf with hn | ⟨n, hn⟩
    · have e : burnE S = (.ok (.dat .none), S) := by unfold burnE; rw [hS, hn]; rfl
      rw [e]
      simp [F_Disk_burn, m_Disk_burn, fld_at h, h, hS, hn, set_same h, funOf, argVs, argV, argsOf, sSeq, sIf, sBind, mBP, pTst, pFld, wVar, wVal, wFld, sRaise, endOf, sNext, pOp, pC, pVar, sRet, sRetN, mP, mW, sExpr, sAsg, sAugF, insAt, sSetF, sSetFN, eBind, mCall, callF, mMeth, clsAt, noFld, notFld, aNil, aConsV, okV, okVs, asB, asI, asBv, bAnd, bOr, bNot, mTst, mAndB, mOrB, mNotB, mIf, mAnd, mOr, mNot, pAnd, pOr, pNot, pIf, pUn, pNil, pCons, pCB, pTup, pLst, pIsi, fNotN, fIsN, isNone, fEq, fNe, fEqB, fAdd, fSub, fI, fIB, fIC, fNeg, fIx, fLen, fLt, fMax2, fMin2, fInt, contAt, lstAt, dicAt, mAppP, mLPop, Sg.put, Sg.set, pLenL, pLenD, pDGet, pDGet2, pDIn, pDNotIn, sDPutP, mDPop1, mDPop2, keyD, nLst, nDic, sAsgN, sFrz, Sg.frz, endP, pureOf, pChain, mTup, mLst, mCB, isTy, sNames, setNs, anV, anN, anNil, mMake, makeF, mMakeK, mTold, mVar, pSl, oNone, oSome, mSl, sFor, iData, mOp, mUn, lk_Disk_wide, in_Disk_wide, pt_Disk_wide, lk_Disk_settled_ones, in_Disk_settled_ones, pt_Disk_settled_ones, lk_Disk_loose, in_Disk_loose, pt_Disk_loose, lk_Disk_fuse, in_Disk_fuse, pt_Disk_fuse, lk_Disk_has_fallen, in_Disk_has_fallen, pt_Disk_has_fallen, lk_Disk_many_reads, in_Disk_many_reads, pt_Disk_many_reads, lk_Disk_many_writes, in_Disk_many_writes, pt_Disk_many_writes, lk_Disk_many_settles, in_Disk_many_settles, pt_Disk_many_settles, ln_Disk]
    · by_cases c : n = 0
      · have e : burnE S = (.error "Fallen", { S with fallen := true }) := by unfold burnE; rw [hS, hn]; simp [c]
        rw [e]
        simp [F_Disk_burn, m_Disk_burn, fld_at h, h, hS, hn, c, funOf, argVs, argV, argsOf, sSeq, sIf, sBind, mBP, pTst, pFld, wVar, wVal, wFld, sRaise, endOf, sNext, pOp, pC, pVar, sRet, sRetN, mP, mW, sExpr, sAsg, sAugF, insAt, sSetF, sSetFN, eBind, mCall, callF, mMeth, clsAt, noFld, notFld, aNil, aConsV, okV, okVs, asB, asI, asBv, bAnd, bOr, bNot, mTst, mAndB, mOrB, mNotB, mIf, mAnd, mOr, mNot, pAnd, pOr, pNot, pIf, pUn, pNil, pCons, pCB, pTup, pLst, pIsi, fNotN, fIsN, isNone, fEq, fNe, fEqB, fAdd, fSub, fI, fIB, fIC, fNeg, fIx, fLen, fLt, fMax2, fMin2, fInt, contAt, lstAt, dicAt, mAppP, mLPop, Sg.put, Sg.set, pLenL, pLenD, pDGet, pDGet2, pDIn, pDNotIn, sDPutP, mDPop1, mDPop2, keyD, nLst, nDic, sAsgN, sFrz, Sg.frz, endP, pureOf, pChain, mTup, mLst, mCB, isTy, sNames, setNs, anV, anN, anNil, mMake, makeF, mMakeK, mTold, mVar, pSl, oNone, oSome, mSl, sFor, iData, mOp, mUn, lk_Disk_wide, in_Disk_wide, pt_Disk_wide, lk_Disk_settled_ones, in_Disk_settled_ones, pt_Disk_settled_ones, lk_Disk_loose, in_Disk_loose, pt_Disk_loose, lk_Disk_fuse, in_Disk_fuse, pt_Disk_fuse, lk_Disk_has_fallen, in_Disk_has_fallen, pt_Disk_has_fallen, lk_Disk_many_reads, in_Disk_many_reads, pt_Disk_many_reads, lk_Disk_many_writes, in_Disk_many_writes, pt_Disk_many_writes, lk_Disk_many_settles, in_Disk_many_settles, pt_Disk_many_settles, ln_Disk]
      · have e : burnE S = (.ok (.dat .none), { S with fuse := .int (n - 1) }) := by unfold burnE; rw [hS, hn]; simp [c]
        rw [e]
        simp [F_Disk_burn, m_Disk_burn, fld_at h, h, hS, hn, c, funOf, argVs, argV, argsOf, sSeq, sIf, sBind, mBP, pTst, pFld, wVar, wVal, wFld, sRaise, endOf, sNext, pOp, pC, pVar, sRet, sRetN, mP, mW, sExpr, sAsg, sAugF, insAt, sSetF, sSetFN, eBind, mCall, callF, mMeth, clsAt, noFld, notFld, aNil, aConsV, okV, okVs, asB, asI, asBv, bAnd, bOr, bNot, mTst, mAndB, mOrB, mNotB, mIf, mAnd, mOr, mNot, pAnd, pOr, pNot, pIf, pUn, pNil, pCons, pCB, pTup, pLst, pIsi, fNotN, fIsN, isNone, fEq, fNe, fEqB, fAdd, fSub, fI, fIB, fIC, fNeg, fIx, fLen, fLt, fMax2, fMin2, fInt, contAt, lstAt, dicAt, mAppP, mLPop, Sg.put, Sg.set, pLenL, pLenD, pDGet, pDGet2, pDIn, pDNotIn, sDPutP, mDPop1, mDPop2, keyD, nLst, nDic, sAsgN, sFrz, Sg.frz, endP, pureOf, pChain, mTup, mLst, mCB, isTy, sNames, setNs, anV, anN, anNil, mMake, makeF, mMakeK, mTold, mVar, pSl, oNone, oSome, mSl, sFor, iData, mOp, mUn, lk_Disk_wide, in_Disk_wide, pt_Disk_wide, lk_Disk_settled_ones, in_Disk_settled_ones, pt_Disk_settled_ones, lk_Disk_loose, in_Disk_loose, pt_Disk_loose, lk_Disk_fuse, in_Disk_fuse, pt_Disk_fuse, lk_Disk_has_fallen, in_Disk_has_fallen, pt_Disk_has_fallen, lk_Disk_many_reads, in_Disk_many_reads, pt_Disk_many_reads, lk_Disk_many_writes, in_Disk_many_writes, pt_Disk_many_writes, lk_Disk_many_settles, in_Disk_many_settles, pt_Disk_many_settles, ln_Disk]
theorem no_Disk_burn (S : DkS) : List.lookup ("burn" : Str) (dkF S) = none := rfl
/-! write -/
def textB (t : PyData) (w : Int) : Bool := match t with
  | .str z => decide ((z.length : Int) ≤ w)
  | _ => false
def lenOkD (t : PyData) : Prop := ∀ z, t = .str z → z.length ≤ 100000
def writeE (S : DkS) (n t : PyData) (ds : List PyData) : Except Str Rv × DkS := if wholeB n 0 9999 then (if textB t S.wide then (match burnE S with
  | (.ok _, S1) => (.ok (.dat .none), { S1 with wr := S1.wr + 1, loose := .ownL (ds ++ [.tuple [n, t]]) })
  | (.error x, S1) => (.error x, S1)) else (.error "NoPiece", S)) else (.error "NoNumber", S)
theorem burn_loose (S : DkS) : (burnE S).2.loose = S.loose ∧ (burnE S).2.done = S.done ∧ (burnE S).2.wide = S.wide ∧ (burnE S).2.rd = S.rd ∧ (burnE S).2.wr = S.wr ∧ (burnE S).2.st = S.st := by
  unfold burnE
  split
  · exact ⟨rfl, rfl, rfl, rfl, rfl, rfl⟩
  · split
    · split <;> exact ⟨rfl, rfl, rfl, rfl, rfl, rfl⟩
    · exact ⟨rfl, rfl, rfl, rfl, rfl, rfl⟩
theorem burn_cases (S : DkS) : (∃ S1, burnE S = (.ok (.dat .none), S1)) ∨ ∃ S1, burnE S = (.error "Fallen", S1) := by
  unfold burnE
  split
  · exact .inr ⟨_, rfl⟩
  · split
    · split
      · exact .inr ⟨_, rfl⟩
      · exact .inl ⟨_, rfl⟩
    · exact .inl ⟨_, rfl⟩
theorem write_eq {st : List Ob} {i : Nat} {S : DkS} {n t : PyData} {ds : List PyData} (h : st[i]? = some (dkO S)) (hf : FuseOk S) (hl : S.loose = .ownL ds) (hd : ds.length < 100000) (ht : lenOkD t) : F_Disk_write F_look_whole F_Disk_burn [.at_ (.ob i), .dat n, .dat t] st = some ((writeE S n t ds).1, st.set i (dkO (writeE S n t ds).2)) := by
  unfold writeE
  cases hn : wholeB n 0 9999 with
  | false => simp [F_Disk_write, m_Disk_write, look_whole_eq, hn, h, set_same h, funOf, argVs, argV, argsOf, sSeq, sIf, sBind, mBP, pTst, pFld, wVar, wVal, wFld, sRaise, endOf, sNext, pOp, pC, pVar, sRet, sRetN, mP, mW, sExpr, sAsg, sAugF, insAt, sSetF, sSetFN, eBind, mCall, callF, mMeth, clsAt, noFld, notFld, aNil, aConsV, okV, okVs, asB, asI, asBv, bAnd, bOr, bNot, mTst, mAndB, mOrB, mNotB, mIf, mAnd, mOr, mNot, pAnd, pOr, pNot, pIf, pUn, pNil, pCons, pCB, pTup, pLst, pIsi, fNotN, fIsN, isNone, fEq, fNe, fEqB, fAdd, fSub, fI, fIB, fIC, fNeg, fIx, fLen, fLt, fMax2, fMin2, fInt, contAt, lstAt, dicAt, mAppP, mLPop, Sg.put, Sg.set, pLenL, pLenD, pDGet, pDGet2, pDIn, pDNotIn, sDPutP, mDPop1, mDPop2, keyD, nLst, nDic, sAsgN, sFrz, Sg.frz, endP, pureOf, pChain, mTup, mLst, mCB, isTy, sNames, setNs, anV, anN, anNil, mMake, makeF, mMakeK, mTold, mVar, pSl, oNone, oSome, mSl, sFor, iData, mOp, mUn, lk_Disk_wide, in_Disk_wide, pt_Disk_wide, lk_Disk_settled_ones, in_Disk_settled_ones, pt_Disk_settled_ones, lk_Disk_loose, in_Disk_loose, pt_Disk_loose, lk_Disk_fuse, in_Disk_fuse, pt_Disk_fuse, lk_Disk_has_fallen, in_Disk_has_fallen, pt_Disk_has_fallen, lk_Disk_many_reads, in_Disk_many_reads, pt_Disk_many_reads, lk_Disk_many_writes, in_Disk_many_writes, pt_Disk_many_writes, lk_Disk_many_settles, in_Disk_many_settles, pt_Disk_many_settles, ln_Disk]
  | true =>
    cases t with
    | str z =>
      have hz := ht z rfl
      by_cases c : (z.length : Int) ≤ S.wide
      · have c' : ¬ S.wide < (z.length : Int) := by omega
        have hb := burn_eq h hf
        rcases burn_cases S with ⟨S1, e⟩ | ⟨S1, e⟩
        · have b := burn_loose S
          rw [e] at hb b
          have b1 : S1.loose = .ownL ds := b.1.trans hl
          simp [F_Disk_write, m_Disk_write, look_whole_eq, hn, fld_at h, fld_set h, get_set h, h, hz, c, c', textB, e, hb, hl, hd, b1, no_Disk_burn, List.set_set, funOf, argVs, argV, argsOf, sSeq, sIf, sBind, mBP, pTst, pFld, wVar, wVal, wFld, sRaise, endOf, sNext, pOp, pC, pVar, sRet, sRetN, mP, mW, sExpr, sAsg, sAugF, insAt, sSetF, sSetFN, eBind, mCall, callF, mMeth, clsAt, noFld, notFld, aNil, aConsV, okV, okVs, asB, asI, asBv, bAnd, bOr, bNot, mTst, mAndB, mOrB, mNotB, mIf, mAnd, mOr, mNot, pAnd, pOr, pNot, pIf, pUn, pNil, pCons, pCB, pTup, pLst, pIsi, fNotN, fIsN, isNone, fEq, fNe, fEqB, fAdd, fSub, fI, fIB, fIC, fNeg, fIx, fLen, fLt, fMax2, fMin2, fInt, contAt, lstAt, dicAt, mAppP, mLPop, Sg.put, Sg.set, pLenL, pLenD, pDGet, pDGet2, pDIn, pDNotIn, sDPutP, mDPop1, mDPop2, keyD, nLst, nDic, sAsgN, sFrz, Sg.frz, endP, pureOf, pChain, mTup, mLst, mCB, isTy, sNames, setNs, anV, anN, anNil, mMake, makeF, mMakeK, mTold, mVar, pSl, oNone, oSome, mSl, sFor, iData, mOp, mUn, lk_Disk_wide, in_Disk_wide, pt_Disk_wide, lk_Disk_settled_ones, in_Disk_settled_ones, pt_Disk_settled_ones, lk_Disk_loose, in_Disk_loose, pt_Disk_loose, lk_Disk_fuse, in_Disk_fuse, pt_Disk_fuse, lk_Disk_has_fallen, in_Disk_has_fallen, pt_Disk_has_fallen, lk_Disk_many_reads, in_Disk_many_reads, pt_Disk_many_reads, lk_Disk_many_writes, in_Disk_many_writes, pt_Disk_many_writes, lk_Disk_many_settles, in_Disk_many_settles, pt_Disk_many_settles, ln_Disk]
        · rw [e] at hb
          simp [F_Disk_write, m_Disk_write, look_whole_eq, hn, fld_at h, h, hz, c, c', textB, e, hb, no_Disk_burn, funOf, argVs, argV, argsOf, sSeq, sIf, sBind, mBP, pTst, pFld, wVar, wVal, wFld, sRaise, endOf, sNext, pOp, pC, pVar, sRet, sRetN, mP, mW, sExpr, sAsg, sAugF, insAt, sSetF, sSetFN, eBind, mCall, callF, mMeth, clsAt, noFld, notFld, aNil, aConsV, okV, okVs, asB, asI, asBv, bAnd, bOr, bNot, mTst, mAndB, mOrB, mNotB, mIf, mAnd, mOr, mNot, pAnd, pOr, pNot, pIf, pUn, pNil, pCons, pCB, pTup, pLst, pIsi, fNotN, fIsN, isNone, fEq, fNe, fEqB, fAdd, fSub, fI, fIB, fIC, fNeg, fIx, fLen, fLt, fMax2, fMin2, fInt, contAt, lstAt, dicAt, mAppP, mLPop, Sg.put, Sg.set, pLenL, pLenD, pDGet, pDGet2, pDIn, pDNotIn, sDPutP, mDPop1, mDPop2, keyD, nLst, nDic, sAsgN, sFrz, Sg.frz, endP, pureOf, pChain, mTup, mLst, mCB, isTy, sNames, setNs, anV, anN, anNil, mMake, makeF, mMakeK, mTold, mVar, pSl, oNone, oSome, mSl, sFor, iData, mOp, mUn, lk_Disk_wide, in_Disk_wide, pt_Disk_wide, lk_Disk_settled_ones, in_Disk_settled_ones, pt_Disk_settled_ones, lk_Disk_loose, in_Disk_loose, pt_Disk_loose, lk_Disk_fuse, in_Disk_fuse, pt_Disk_fuse, lk_Disk_has_fallen, in_Disk_has_fallen, pt_Disk_has_fallen, lk_Disk_many_reads, in_Disk_many_reads, pt_Disk_many_reads, lk_Disk_many_writes, in_Disk_many_writes, pt_Disk_many_writes, lk_Disk_many_settles, in_Disk_many_settles, pt_Disk_many_settles, ln_Disk]
      · have c' : S.wide < (z.length : Int) := by omega
        simp [F_Disk_write, m_Disk_write, look_whole_eq, hn, fld_at h, h, hz, c, c', textB, set_same h, funOf, argVs, argV, argsOf, sSeq, sIf, sBind, mBP, pTst, pFld, wVar, wVal, wFld, sRaise, endOf, sNext, pOp, pC, pVar, sRet, sRetN, mP, mW, sExpr, sAsg, sAugF, insAt, sSetF, sSetFN, eBind, mCall, callF, mMeth, clsAt, noFld, notFld, aNil, aConsV, okV, okVs, asB, asI, asBv, bAnd, bOr, bNot, mTst, mAndB, mOrB, mNotB, mIf, mAnd, mOr, mNot, pAnd, pOr, pNot, pIf, pUn, pNil, pCons, pCB, pTup, pLst, pIsi, fNotN, fIsN, isNone, fEq, fNe, fEqB, fAdd, fSub, fI, fIB, fIC, fNeg, fIx, fLen, fLt, fMax2, fMin2, fInt, contAt, lstAt, dicAt, mAppP, mLPop, Sg.put, Sg.set, pLenL, pLenD, pDGet, pDGet2, pDIn, pDNotIn, sDPutP, mDPop1, mDPop2, keyD, nLst, nDic, sAsgN, sFrz, Sg.frz, endP, pureOf, pChain, mTup, mLst, mCB, isTy, sNames, setNs, anV, anN, anNil, mMake, makeF, mMakeK, mTold, mVar, pSl, oNone, oSome, mSl, sFor, iData, mOp, mUn, lk_Disk_wide, in_Disk_wide, pt_Disk_wide, lk_Disk_settled_ones, in_Disk_settled_ones, pt_Disk_settled_ones, lk_Disk_loose, in_Disk_loose, pt_Disk_loose, lk_Disk_fuse, in_Disk_fuse, pt_Disk_fuse, lk_Disk_has_fallen, in_Disk_has_fallen, pt_Disk_has_fallen, lk_Disk_many_reads, in_Disk_many_reads, pt_Disk_many_reads, lk_Disk_many_writes, in_Disk_many_writes, pt_Disk_many_writes, lk_Disk_many_settles, in_Disk_many_settles, pt_Disk_many_settles, ln_Disk]
    | none => simp [F_Disk_write, m_Disk_write, look_whole_eq, hn, h, textB, set_same h, funOf, argVs, argV, argsOf, sSeq, sIf, sBind, mBP, pTst, pFld, wVar, wVal, wFld, sRaise, endOf, sNext, pOp, pC, pVar, sRet, sRetN, mP, mW, sExpr, sAsg, sAugF, insAt, sSetF, sSetFN, eBind, mCall, callF, mMeth, clsAt, noFld, notFld, aNil, aConsV, okV, okVs, asB, asI, asBv, bAnd, bOr, bNot, mTst, mAndB, mOrB, mNotB, mIf, mAnd, mOr, mNot, pAnd, pOr, pNot, pIf, pUn, pNil, pCons, pCB, pTup, pLst, pIsi, fNotN, fIsN, isNone, fEq, fNe, fEqB, fAdd, fSub, fI, fIB, fIC, fNeg, fIx, fLen, fLt, fMax2, fMin2, fInt, contAt, lstAt, dicAt, mAppP, mLPop, Sg.put, Sg.set, pLenL, pLenD, pDGet, pDGet2, pDIn, pDNotIn, sDPutP, mDPop1, mDPop2, keyD, nLst, nDic, sAsgN, sFrz, Sg.frz, endP, pureOf, pChain, mTup, mLst, mCB, isTy, sNames, setNs, anV, anN, anNil, mMake, makeF, mMakeK, mTold, mVar, pSl, oNone, oSome, mSl, sFor, iData, mOp, mUn, lk_Disk_wide, in_Disk_wide, pt_Disk_wide, lk_Disk_settled_ones, in_Disk_settled_ones, pt_Disk_settled_ones, lk_Disk_loose, in_Disk_loose, pt_Disk_loose, lk_Disk_fuse, in_Disk_fuse, pt_Disk_fuse, lk_Disk_has_fallen, in_Disk_has_fallen, pt_Disk_has_fallen, lk_Disk_many_reads, in_Disk_many_reads, pt_Disk_many_reads, lk_Disk_many_writes, in_Disk_many_writes, pt_Disk_many_writes, lk_Disk_many_settles, in_Disk_many_settles, pt_Disk_many_settles, ln_Disk]
    | bool b => simp [F_Disk_write, m_Disk_write, look_whole_eq, hn, h, textB, set_same h, funOf, argVs, argV, argsOf, sSeq, sIf, sBind, mBP, pTst, pFld, wVar, wVal, wFld, sRaise, endOf, sNext, pOp, pC, pVar, sRet, sRetN, mP, mW, sExpr, sAsg, sAugF, insAt, sSetF, sSetFN, eBind, mCall, callF, mMeth, clsAt, noFld, notFld, aNil, aConsV, okV, okVs, asB, asI, asBv, bAnd, bOr, bNot, mTst, mAndB, mOrB, mNotB, mIf, mAnd, mOr, mNot, pAnd, pOr, pNot, pIf, pUn, pNil, pCons, pCB, pTup, pLst, pIsi, fNotN, fIsN, isNone, fEq, fNe, fEqB, fAdd, fSub, fI, fIB, fIC, fNeg, fIx, fLen, fLt, fMax2, fMin2, fInt, contAt, lstAt, dicAt, mAppP, mLPop, Sg.put, Sg.set, pLenL, pLenD, pDGet, pDGet2, pDIn, pDNotIn, sDPutP, mDPop1, mDPop2, keyD, nLst, nDic, sAsgN, sFrz, Sg.frz, endP, pureOf, pChain, mTup, mLst, mCB, isTy, sNames, setNs, anV, anN, anNil, mMake, makeF, mMakeK, mTold, mVar, pSl, oNone, oSome, mSl, sFor, iData, mOp, mUn, lk_Disk_wide, in_Disk_wide, pt_Disk_wide, lk_Disk_settled_ones, in_Disk_settled_ones, pt_Disk_settled_ones, lk_Disk_loose, in_Disk_loose, pt_Disk_loose, lk_Disk_fuse, in_Disk_fuse, pt_Disk_fuse, lk_Disk_has_fallen, in_Disk_has_fallen, pt_Disk_has_fallen, lk_Disk_many_reads, in_Disk_many_reads, pt_Disk_many_reads, lk_Disk_many_writes, in_Disk_many_writes, pt_Disk_many_writes, lk_Disk_many_settles, in_Disk_many_settles, pt_Disk_many_settles, ln_Disk]
    | int b => simp [F_Disk_write, m_Disk_write, look_whole_eq, hn, h, textB, set_same h, funOf, argVs, argV, argsOf, sSeq, sIf, sBind, mBP, pTst, pFld, wVar, wVal, wFld, sRaise, endOf, sNext, pOp, pC, pVar, sRet, sRetN, mP, mW, sExpr, sAsg, sAugF, insAt, sSetF, sSetFN, eBind, mCall, callF, mMeth, clsAt, noFld, notFld, aNil, aConsV, okV, okVs, asB, asI, asBv, bAnd, bOr, bNot, mTst, mAndB, mOrB, mNotB, mIf, mAnd, mOr, mNot, pAnd, pOr, pNot, pIf, pUn, pNil, pCons, pCB, pTup, pLst, pIsi, fNotN, fIsN, isNone, fEq, fNe, fEqB, fAdd, fSub, fI, fIB, fIC, fNeg, fIx, fLen, fLt, fMax2, fMin2, fInt, contAt, lstAt, dicAt, mAppP, mLPop, Sg.put, Sg.set, pLenL, pLenD, pDGet, pDGet2, pDIn, pDNotIn, sDPutP, mDPop1, mDPop2, keyD, nLst, nDic, sAsgN, sFrz, Sg.frz, endP, pureOf, pChain, mTup, mLst, mCB, isTy, sNames, setNs, anV, anN, anNil, mMake, makeF, mMakeK, mTold, mVar, pSl, oNone, oSome, mSl, sFor, iData, mOp, mUn, lk_Disk_wide, in_Disk_wide, pt_Disk_wide, lk_Disk_settled_ones, in_Disk_settled_ones, pt_Disk_settled_ones, lk_Disk_loose, in_Disk_loose, pt_Disk_loose, lk_Disk_fuse, in_Disk_fuse, pt_Disk_fuse, lk_Disk_has_fallen, in_Disk_has_fallen, pt_Disk_has_fallen, lk_Disk_many_reads, in_Disk_many_reads, pt_Disk_many_reads, lk_Disk_many_writes, in_Disk_many_writes, pt_Disk_many_writes, lk_Disk_many_settles, in_Disk_many_settles, pt_Disk_many_settles, ln_Disk]
    | list b => simp [F_Disk_write, m_Disk_write, look_whole_eq, hn, h, textB, set_same h, funOf, argVs, argV, argsOf, sSeq, sIf, sBind, mBP, pTst, pFld, wVar, wVal, wFld, sRaise, endOf, sNext, pOp, pC, pVar, sRet, sRetN, mP, mW, sExpr, sAsg, sAugF, insAt, sSetF, sSetFN, eBind, mCall, callF, mMeth, clsAt, noFld, notFld, aNil, aConsV, okV, okVs, asB, asI, asBv, bAnd, bOr, bNot, mTst, mAndB, mOrB, mNotB, mIf, mAnd, mOr, mNot, pAnd, pOr, pNot, pIf, pUn, pNil, pCons, pCB, pTup, pLst, pIsi, fNotN, fIsN, isNone, fEq, fNe, fEqB, fAdd, fSub, fI, fIB, fIC, fNeg, fIx, fLen, fLt, fMax2, fMin2, fInt, contAt, lstAt, dicAt, mAppP, mLPop, Sg.put, Sg.set, pLenL, pLenD, pDGet, pDGet2, pDIn, pDNotIn, sDPutP, mDPop1, mDPop2, keyD, nLst, nDic, sAsgN, sFrz, Sg.frz, endP, pureOf, pChain, mTup, mLst, mCB, isTy, sNames, setNs, anV, anN, anNil, mMake, makeF, mMakeK, mTold, mVar, pSl, oNone, oSome, mSl, sFor, iData, mOp, mUn, lk_Disk_wide, in_Disk_wide, pt_Disk_wide, lk_Disk_settled_ones, in_Disk_settled_ones, pt_Disk_settled_ones, lk_Disk_loose, in_Disk_loose, pt_Disk_loose, lk_Disk_fuse, in_Disk_fuse, pt_Disk_fuse, lk_Disk_has_fallen, in_Disk_has_fallen, pt_Disk_has_fallen, lk_Disk_many_reads, in_Disk_many_reads, pt_Disk_many_reads, lk_Disk_many_writes, in_Disk_many_writes, pt_Disk_many_writes, lk_Disk_many_settles, in_Disk_many_settles, pt_Disk_many_settles, ln_Disk]
    | tuple b => simp [F_Disk_write, m_Disk_write, look_whole_eq, hn, h, textB, set_same h, funOf, argVs, argV, argsOf, sSeq, sIf, sBind, mBP, pTst, pFld, wVar, wVal, wFld, sRaise, endOf, sNext, pOp, pC, pVar, sRet, sRetN, mP, mW, sExpr, sAsg, sAugF, insAt, sSetF, sSetFN, eBind, mCall, callF, mMeth, clsAt, noFld, notFld, aNil, aConsV, okV, okVs, asB, asI, asBv, bAnd, bOr, bNot, mTst, mAndB, mOrB, mNotB, mIf, mAnd, mOr, mNot, pAnd, pOr, pNot, pIf, pUn, pNil, pCons, pCB, pTup, pLst, pIsi, fNotN, fIsN, isNone, fEq, fNe, fEqB, fAdd, fSub, fI, fIB, fIC, fNeg, fIx, fLen, fLt, fMax2, fMin2, fInt, contAt, lstAt, dicAt, mAppP, mLPop, Sg.put, Sg.set, pLenL, pLenD, pDGet, pDGet2, pDIn, pDNotIn, sDPutP, mDPop1, mDPop2, keyD, nLst, nDic, sAsgN, sFrz, Sg.frz, endP, pureOf, pChain, mTup, mLst, mCB, isTy, sNames, setNs, anV, anN, anNil, mMake, makeF, mMakeK, mTold, mVar, pSl, oNone, oSome, mSl, sFor, iData, mOp, mUn, lk_Disk_wide, in_Disk_wide, pt_Disk_wide, lk_Disk_settled_ones, in_Disk_settled_ones, pt_Disk_settled_ones, lk_Disk_loose, in_Disk_loose, pt_Disk_loose, lk_Disk_fuse, in_Disk_fuse, pt_Disk_fuse, lk_Disk_has_fallen, in_Disk_has_fallen, pt_Disk_has_fallen, lk_Disk_many_reads, in_Disk_many_reads, pt_Disk_many_reads, lk_Disk_many_writes, in_Disk_many_writes, pt_Disk_many_writes, lk_Disk_many_settles, in_Disk_many_settles, pt_Disk_many_settles, ln_Disk]
    | dict b => simp [F_Disk_write, m_Disk_write, look_whole_eq, hn, h, textB, set_same h, funOf, argVs, argV, argsOf, sSeq, sIf, sBind, mBP, pTst, pFld, wVar, wVal, wFld, sRaise, endOf, sNext, pOp, pC, pVar, sRet, sRetN, mP, mW, sExpr, sAsg, sAugF, insAt, sSetF, sSetFN, eBind, mCall, callF, mMeth, clsAt, noFld, notFld, aNil, aConsV, okV, okVs, asB, asI, asBv, bAnd, bOr, bNot, mTst, mAndB, mOrB, mNotB, mIf, mAnd, mOr, mNot, pAnd, pOr, pNot, pIf, pUn, pNil, pCons, pCB, pTup, pLst, pIsi, fNotN, fIsN, isNone, fEq, fNe, fEqB, fAdd, fSub, fI, fIB, fIC, fNeg, fIx, fLen, fLt, fMax2, fMin2, fInt, contAt, lstAt, dicAt, mAppP, mLPop, Sg.put, Sg.set, pLenL, pLenD, pDGet, pDGet2, pDIn, pDNotIn, sDPutP, mDPop1, mDPop2, keyD, nLst, nDic, sAsgN, sFrz, Sg.frz, endP, pureOf, pChain, mTup, mLst, mCB, isTy, sNames, setNs, anV, anN, anNil, mMake, makeF, mMakeK, mTold, mVar, pSl, oNone, oSome, mSl, sFor, iData, mOp, mUn, lk_Disk_wide, in_Disk_wide, pt_Disk_wide, lk_Disk_settled_ones, in_Disk_settled_ones, pt_Disk_settled_ones, lk_Disk_loose, in_Disk_loose, pt_Disk_loose, lk_Disk_fuse, in_Disk_fuse, pt_Disk_fuse, lk_Disk_has_fallen, in_Disk_has_fallen, pt_Disk_has_fallen, lk_Disk_many_reads, in_Disk_many_reads, pt_Disk_many_reads, lk_Disk_many_writes, in_Disk_many_writes, pt_Disk_many_writes, lk_Disk_many_settles, in_Disk_many_settles, pt_Disk_many_settles, ln_Disk]
theorem sh_nil : SeqAt.shaped (.list []) = true := by decide +kernel
theorem eqv_nn : PyData.eqv (.list []) (.list []) = true := rfl
theorem eqv_cn (a : PyData) (r : List PyData) : PyData.eqv (.list (a :: r)) (.list []) = false := rfl
theorem at_last {α : Type} (a : α) (r : List α) : atI (a :: r) (-1) = (a :: r).getLast? := by
  unfold atI
  have e : ixN (a :: r).length (-1) = some r.length := by
    unfold ixN
    simp
    omega
  rw [e]
  simp [List.getLast?_eq_getElem?]
/-! read -/
def entP (p : Int × Str) : PyData := .tuple [.int p.1, .str p.2]
def lastOf (ws : List (Int × Str)) (n : Int) : Option Str := ((ws.filter fun p => decide (p.1 = n)).map (·.2)).getLast?
def readV (S : DkS) (ws : List (Int × Str)) (n : Int) : PyData := match lastOf ws n with
  | some z => .str z
  | none => (valD S.done (.inl n)).getD .none
theorem lc_ents {sl : List (Option Val)} {st : List Ob} {n : Int} (hs : sl[1]? = some (some (.dat (.int n)))) (h5 : sl.length = 5) : ∀ ws : List (Int × Str), lcAll (gmTup 2 (gmCons (gmName 3) (gmCons (gmName 4) gmNil))) (pTst (pOp fEq (pVar 3) (pVar 1))) (pVar 4) ((⟨sl, st⟩ : Sg).wipe [3, 4]) (ws.map entP) = some (((ws.filter fun p => decide (p.1 = n)).map (·.2)).map .str) := by
  match sl, h5, hs with
  | [a, b, c, d, e], _, hs =>
    intro ws
    induction ws with
    | nil => rfl
    | cons p r ih =>
      have hb : b = some (.dat (.int n)) := by simpa using hs
      subst hb
      rw [List.map_cons, lcAll, ih]
      by_cases c : p.1 = n
      · simp [lcOne, entP, gmTup, gmCons, gmName, gmNil, c, Sg.wipe, Sg.clr, List.filter_cons, funOf, argVs, argV, argsOf, sSeq, sIf, sBind, mBP, pTst, pFld, wVar, wVal, wFld, sRaise, endOf, sNext, pOp, pC, pVar, sRet, sRetN, mP, mW, sExpr, sAsg, sAugF, insAt, sSetF, sSetFN, eBind, mCall, callF, mMeth, clsAt, noFld, notFld, aNil, aConsV, okV, okVs, asB, asI, asBv, bAnd, bOr, bNot, mTst, mAndB, mOrB, mNotB, mIf, mAnd, mOr, mNot, pAnd, pOr, pNot, pIf, pUn, pNil, pCons, pCB, pTup, pLst, pIsi, fNotN, fIsN, isNone, fEq, fNe, fEqB, fAdd, fSub, fI, fIB, fIC, fNeg, fIx, fLen, fLt, fMax2, fMin2, fInt, contAt, lstAt, dicAt, mAppP, mLPop, Sg.put, Sg.set, pLenL, pLenD, pDGet, pDGet2, pDIn, pDNotIn, sDPutP, mDPop1, mDPop2, keyD, nLst, nDic, sAsgN, sFrz, Sg.frz, endP, pureOf, pChain, mTup, mLst, mCB, isTy, sNames, setNs, anV, anN, anNil, mMake, makeF, mMakeK, mTold, mVar, pSl, oNone, oSome, mSl, sFor, iData, mOp, mUn]
      · simp [lcOne, entP, gmTup, gmCons, gmName, gmNil, c, Sg.wipe, Sg.clr, List.filter_cons, funOf, argVs, argV, argsOf, sSeq, sIf, sBind, mBP, pTst, pFld, wVar, wVal, wFld, sRaise, endOf, sNext, pOp, pC, pVar, sRet, sRetN, mP, mW, sExpr, sAsg, sAugF, insAt, sSetF, sSetFN, eBind, mCall, callF, mMeth, clsAt, noFld, notFld, aNil, aConsV, okV, okVs, asB, asI, asBv, bAnd, bOr, bNot, mTst, mAndB, mOrB, mNotB, mIf, mAnd, mOr, mNot, pAnd, pOr, pNot, pIf, pUn, pNil, pCons, pCB, pTup, pLst, pIsi, fNotN, fIsN, isNone, fEq, fNe, fEqB, fAdd, fSub, fI, fIB, fIC, fNeg, fIx, fLen, fLt, fMax2, fMin2, fInt, contAt, lstAt, dicAt, mAppP, mLPop, Sg.put, Sg.set, pLenL, pLenD, pDGet, pDGet2, pDIn, pDNotIn, sDPutP, mDPop1, mDPop2, keyD, nLst, nDic, sAsgN, sFrz, Sg.frz, endP, pureOf, pChain, mTup, mLst, mCB, isTy, sNames, setNs, anV, anN, anNil, mMake, makeF, mMakeK, mTold, mVar, pSl, oNone, oSome, mSl, sFor, iData, mOp, mUn]
def readE (S : DkS) (n : PyData) (ws : List (Int × Str)) : Except Str Rv × DkS := if wholeB n 0 9999 then (if S.fallen then (.error "Fallen", S) else match n with
  | .int k => (.ok (.dat (readV S ws k)), { S with rd := S.rd + 1 })
  | _ => (.ok (.dat .none), S)) else (.error "NoNumber", S)
theorem read_eq {st : List Ob} {i : Nat} {S : DkS} {n : PyData} {ws : List (Int × Str)} (h : st[i]? = some (dkO S)) (hl : S.loose = .ownL (ws.map entP)) (hd : ws.length ≤ 40000) (hz : ∀ p ∈ ws, PyData.strOk p.2 = true) : F_Disk_read F_look_whole [.at_ (.ob i), .dat n] st = some ((readE S n ws).1, st.set i (dkO (readE S n ws).2)) := by
  unfold readE
  cases hn : wholeB n 0 9999 with
  | false => simp [F_Disk_read, m_Disk_read, look_whole_eq, hn, h, set_same h, funOf, argVs, argV, argsOf, sSeq, sIf, sBind, mBP, pTst, pFld, wVar, wVal, wFld, sRaise, endOf, sNext, pOp, pC, pVar, sRet, sRetN, mP, mW, sExpr, sAsg, sAugF, insAt, sSetF, sSetFN, eBind, mCall, callF, mMeth, clsAt, noFld, notFld, aNil, aConsV, okV, okVs, asB, asI, asBv, bAnd, bOr, bNot, mTst, mAndB, mOrB, mNotB, mIf, mAnd, mOr, mNot, pAnd, pOr, pNot, pIf, pUn, pNil, pCons, pCB, pTup, pLst, pIsi, fNotN, fIsN, isNone, fEq, fNe, fEqB, fAdd, fSub, fI, fIB, fIC, fNeg, fIx, fLen, fLt, fMax2, fMin2, fInt, contAt, lstAt, dicAt, mAppP, mLPop, Sg.put, Sg.set, pLenL, pLenD, pDGet, pDGet2, pDIn, pDNotIn, sDPutP, mDPop1, mDPop2, keyD, nLst, nDic, sAsgN, sFrz, Sg.frz, endP, pureOf, pChain, mTup, mLst, mCB, isTy, sNames, setNs, anV, anN, anNil, mMake, makeF, mMakeK, mTold, mVar, pSl, oNone, oSome, mSl, sFor, iData, mOp, mUn, lk_Disk_wide, in_Disk_wide, pt_Disk_wide, lk_Disk_settled_ones, in_Disk_settled_ones, pt_Disk_settled_ones, lk_Disk_loose, in_Disk_loose, pt_Disk_loose, lk_Disk_fuse, in_Disk_fuse, pt_Disk_fuse, lk_Disk_has_fallen, in_Disk_has_fallen, pt_Disk_has_fallen, lk_Disk_many_reads, in_Disk_many_reads, pt_Disk_many_reads, lk_Disk_many_writes, in_Disk_many_writes, pt_Disk_many_writes, lk_Disk_many_settles, in_Disk_many_settles, pt_Disk_many_settles, ln_Disk]
  | true =>
    obtain ⟨k, rfl⟩ : ∃ k, n = .int k := by
      cases n with
      | int k => exact ⟨k, rfl⟩
      | _ => cases hn
    cases hS : S.fallen with
    | true => simp [F_Disk_read, m_Disk_read, look_whole_eq, hn, hS, h, fld_at h, set_same h, funOf, argVs, argV, argsOf, sSeq, sIf, sBind, mBP, pTst, pFld, wVar, wVal, wFld, sRaise, endOf, sNext, pOp, pC, pVar, sRet, sRetN, mP, mW, sExpr, sAsg, sAugF, insAt, sSetF, sSetFN, eBind, mCall, callF, mMeth, clsAt, noFld, notFld, aNil, aConsV, okV, okVs, asB, asI, asBv, bAnd, bOr, bNot, mTst, mAndB, mOrB, mNotB, mIf, mAnd, mOr, mNot, pAnd, pOr, pNot, pIf, pUn, pNil, pCons, pCB, pTup, pLst, pIsi, fNotN, fIsN, isNone, fEq, fNe, fEqB, fAdd, fSub, fI, fIB, fIC, fNeg, fIx, fLen, fLt, fMax2, fMin2, fInt, contAt, lstAt, dicAt, mAppP, mLPop, Sg.put, Sg.set, pLenL, pLenD, pDGet, pDGet2, pDIn, pDNotIn, sDPutP, mDPop1, mDPop2, keyD, nLst, nDic, sAsgN, sFrz, Sg.frz, endP, pureOf, pChain, mTup, mLst, mCB, isTy, sNames, setNs, anV, anN, anNil, mMake, makeF, mMakeK, mTold, mVar, pSl, oNone, oSome, mSl, sFor, iData, mOp, mUn, lk_Disk_wide, in_Disk_wide, pt_Disk_wide, lk_Disk_settled_ones, in_Disk_settled_ones, pt_Disk_settled_ones, lk_Disk_loose, in_Disk_loose, pt_Disk_loose, lk_Disk_fuse, in_Disk_fuse, pt_Disk_fuse, lk_Disk_has_fallen, in_Disk_has_fallen, pt_Disk_has_fallen, lk_Disk_many_reads, in_Disk_many_reads, pt_Disk_many_reads, lk_Disk_many_writes, in_Disk_many_writes, pt_Disk_many_writes, lk_Disk_many_settles, in_Disk_many_settles, pt_Disk_many_settles, ln_Disk]
    | false =>
      have lc : ∀ st' : List Ob, lcAll (gmTup 2 (gmCons (gmName 3) (gmCons (gmName 4) gmNil))) (pTst (pOp fEq (pVar 3) (pVar 1))) (pVar 4) ((⟨[some (.obj i), some (.dat (.int k)), none, none, none], st'⟩ : Sg).wipe [3, 4]) (ws.map entP) = some (((ws.filter fun p => decide (p.1 = k)).map (·.2)).map .str) := fun st' => lc_ents rfl rfl ws
      have hlen' : ws.length ≤ 50000 := by omega
      generalize hL : (ws.filter fun p => decide (p.1 = k)).map (·.2) = L at lc
      have hLs : ∀ z ∈ L, PyData.strOk z = true := fun z hz' => by
        rw [← hL] at hz'
        obtain ⟨p, hp, rfl⟩ := List.mem_map.mp hz'
        exact hz p (List.mem_filter.mp hp).1
      have sh := shaped_strs hLs
      have lk : lastOf ws k = L.getLast? := by unfold lastOf; rw [hL]
      cases L with
      | nil => simp [F_Disk_read, m_Disk_read, look_whole_eq, hn, hS, h, hl, fld_at h, fld_set h, get_set h, pLc, iOwn, lc, hlen', readV, lk, sh_nil, eqv_nn, funOf, argVs, argV, argsOf, sSeq, sIf, sBind, mBP, pTst, pFld, wVar, wVal, wFld, sRaise, endOf, sNext, pOp, pC, pVar, sRet, sRetN, mP, mW, sExpr, sAsg, sAugF, insAt, sSetF, sSetFN, eBind, mCall, callF, mMeth, clsAt, noFld, notFld, aNil, aConsV, okV, okVs, asB, asI, asBv, bAnd, bOr, bNot, mTst, mAndB, mOrB, mNotB, mIf, mAnd, mOr, mNot, pAnd, pOr, pNot, pIf, pUn, pNil, pCons, pCB, pTup, pLst, pIsi, fNotN, fIsN, isNone, fEq, fNe, fEqB, fAdd, fSub, fI, fIB, fIC, fNeg, fIx, fLen, fLt, fMax2, fMin2, fInt, contAt, lstAt, dicAt, mAppP, mLPop, Sg.put, Sg.set, pLenL, pLenD, pDGet, pDGet2, pDIn, pDNotIn, sDPutP, mDPop1, mDPop2, keyD, nLst, nDic, sAsgN, sFrz, Sg.frz, endP, pureOf, pChain, mTup, mLst, mCB, isTy, sNames, setNs, anV, anN, anNil, mMake, makeF, mMakeK, mTold, mVar, pSl, oNone, oSome, mSl, sFor, iData, mOp, mUn, lk_Disk_wide, in_Disk_wide, pt_Disk_wide, lk_Disk_settled_ones, in_Disk_settled_ones, pt_Disk_settled_ones, lk_Disk_loose, in_Disk_loose, pt_Disk_loose, lk_Disk_fuse, in_Disk_fuse, pt_Disk_fuse, lk_Disk_has_fallen, in_Disk_has_fallen, pt_Disk_has_fallen, lk_Disk_many_reads, in_Disk_many_reads, pt_Disk_many_reads, lk_Disk_many_writes, in_Disk_many_writes, pt_Disk_many_writes, lk_Disk_many_settles, in_Disk_many_settles, pt_Disk_many_settles, ln_Disk]
      | cons z r =>
        have sh' : SeqAt.shaped (.list (.str z :: r.map .str)) = true := sh
        have hget : (PyData.str z :: r.map PyData.str).getLast? = ((z :: r).getLast?).map .str := by
          rw [← List.map_cons, List.getLast?_map]
        obtain ⟨y, hy⟩ : ∃ y, (z :: r).getLast? = some y := ⟨_, List.getLast?_eq_some_getLast (by simp)⟩
        rw [hy] at hget lk
        simp [F_Disk_read, m_Disk_read, look_whole_eq, hn, hS, h, hl, fld_at h, fld_set h, get_set h, pLc, iOwn, lc, hlen', readV, lk, sh', sh_nil, eqv_cn, at_last, hget, funOf, argVs, argV, argsOf, sSeq, sIf, sBind, mBP, pTst, pFld, wVar, wVal, wFld, sRaise, endOf, sNext, pOp, pC, pVar, sRet, sRetN, mP, mW, sExpr, sAsg, sAugF, insAt, sSetF, sSetFN, eBind, mCall, callF, mMeth, clsAt, noFld, notFld, aNil, aConsV, okV, okVs, asB, asI, asBv, bAnd, bOr, bNot, mTst, mAndB, mOrB, mNotB, mIf, mAnd, mOr, mNot, pAnd, pOr, pNot, pIf, pUn, pNil, pCons, pCB, pTup, pLst, pIsi, fNotN, fIsN, isNone, fEq, fNe, fEqB, fAdd, fSub, fI, fIB, fIC, fNeg, fIx, fLen, fLt, fMax2, fMin2, fInt, contAt, lstAt, dicAt, mAppP, mLPop, Sg.put, Sg.set, pLenL, pLenD, pDGet, pDGet2, pDIn, pDNotIn, sDPutP, mDPop1, mDPop2, keyD, nLst, nDic, sAsgN, sFrz, Sg.frz, endP, pureOf, pChain, mTup, mLst, mCB, isTy, sNames, setNs, anV, anN, anNil, mMake, makeF, mMakeK, mTold, mVar, pSl, oNone, oSome, mSl, sFor, iData, mOp, mUn, lk_Disk_wide, in_Disk_wide, pt_Disk_wide, lk_Disk_settled_ones, in_Disk_settled_ones, pt_Disk_settled_ones, lk_Disk_loose, in_Disk_loose, pt_Disk_loose, lk_Disk_fuse, in_Disk_fuse, pt_Disk_fuse, lk_Disk_has_fallen, in_Disk_has_fallen, pt_Disk_has_fallen, lk_Disk_many_reads, in_Disk_many_reads, pt_Disk_many_reads, lk_Disk_many_writes, in_Disk_many_writes, pt_Disk_many_writes, lk_Disk_many_settles, in_Disk_many_settles, pt_Disk_many_settles, ln_Disk]
/-! settle -/
def putWs (d : List (Key × PyData)) (ws : List (Int × Str)) : List (Key × PyData) := ws.foldl (fun d p => putD d (.inl p.1) (.str p.2)) d
theorem putD_len (d : List (Key × PyData)) (k : Key) (v : PyData) : (putD d k v).length ≤ d.length + 1 := by
  unfold putD
  split
  · simp
  · simp
theorem forL_cons {gm : GM} {b : SM} {d : PyData} {ds : List PyData} {g g1 g2 : Sg} {r : Option (Flo × Sg)} (h1 : gm d g = some g1) (h2 : b g1 = some (.nx, g2)) (h3 : forL gm b ds g2 = r) : forL gm b (d :: ds) g = r := by
  show (gm d g).bind _ = r
  rw [h1]
  show (b g1).bind _ = _
  rw [h2]
  exact h3
def fuseB (n : PyData) : Bool := match n with
  | .none => true
  | n => wholeB n 0 9999
theorem counts_eq {st : List Ob} {i : Nat} {S : DkS} (h : st[i]? = some (dkO S)) : F_Disk_counts [.at_ (.ob i)] st = some (.ok (.dat (.tuple [.int S.rd, .int S.wr, .int S.st])), st) := by
  simp [F_Disk_counts, m_Disk_counts, fld_at h, h, funOf, argVs, argV, argsOf, sSeq, sIf, sBind, mBP, pTst, pFld, wVar, wVal, wFld, sRaise, endOf, sNext, pOp, pC, pVar, sRet, sRetN, mP, mW, sExpr, sAsg, sAugF, insAt, sSetF, sSetFN, eBind, mCall, callF, mMeth, clsAt, noFld, notFld, aNil, aConsV, okV, okVs, asB, asI, asBv, bAnd, bOr, bNot, mTst, mAndB, mOrB, mNotB, mIf, mAnd, mOr, mNot, pAnd, pOr, pNot, pIf, pUn, pNil, pCons, pCB, pTup, pLst, pIsi, fNotN, fIsN, isNone, fEq, fNe, fEqB, fAdd, fSub, fI, fIB, fIC, fNeg, fIx, fLen, fLt, fMax2, fMin2, fInt, contAt, lstAt, dicAt, mAppP, mLPop, Sg.put, Sg.set, pLenL, pLenD, pDGet, pDGet2, pDIn, pDNotIn, sDPutP, mDPop1, mDPop2, keyD, nLst, nDic, sAsgN, sFrz, Sg.frz, endP, pureOf, pChain, mTup, mLst, mCB, isTy, sNames, setNs, anV, anN, anNil, mMake, makeF, mMakeK, mTold, mVar, pSl, oNone, oSome, mSl, sFor, iData, mOp, mUn, lk_Disk_wide, in_Disk_wide, pt_Disk_wide, lk_Disk_settled_ones, in_Disk_settled_ones, pt_Disk_settled_ones, lk_Disk_loose, in_Disk_loose, pt_Disk_loose, lk_Disk_fuse, in_Disk_fuse, pt_Disk_fuse, lk_Disk_has_fallen, in_Disk_has_fallen, pt_Disk_has_fallen, lk_Disk_many_reads, in_Disk_many_reads, pt_Disk_many_reads, lk_Disk_many_writes, in_Disk_many_writes, pt_Disk_many_writes, lk_Disk_many_settles, in_Disk_many_settles, pt_Disk_many_settles, ln_Disk]
theorem looses_eq {st : List Ob} {i : Nat} {S : DkS} {ws : List (Int × Str)} (h : st[i]? = some (dkO S)) (hl : S.loose = .ownL (ws.map entP)) (hd : ws.length ≤ 40000) : F_Disk_loose_ones [.at_ (.ob i)] st = some (.ok (.dat (.list (ws.map fun p => .int p.1))), st) := by
  have lc : ∀ ws : List (Int × Str), lcAll (gmTup 2 (gmCons (gmName 1) (gmCons (gmName 2) gmNil))) pTrue (pVar 1) ((⟨[some (.obj i), none, none], st⟩ : Sg).wipe [1, 2]) (ws.map entP) = some (ws.map fun p => .int p.1) := by
    intro ws
    induction ws with
    | nil => rfl
    | cons p r ih =>
      rw [List.map_cons, lcAll, ih]
      simp [lcOne, entP, gmTup, gmCons, gmName, gmNil, pTrue, Sg.wipe, Sg.clr, funOf, argVs, argV, argsOf, sSeq, sIf, sBind, mBP, pTst, pFld, wVar, wVal, wFld, sRaise, endOf, sNext, pOp, pC, pVar, sRet, sRetN, mP, mW, sExpr, sAsg, sAugF, insAt, sSetF, sSetFN, eBind, mCall, callF, mMeth, clsAt, noFld, notFld, aNil, aConsV, okV, okVs, asB, asI, asBv, bAnd, bOr, bNot, mTst, mAndB, mOrB, mNotB, mIf, mAnd, mOr, mNot, pAnd, pOr, pNot, pIf, pUn, pNil, pCons, pCB, pTup, pLst, pIsi, fNotN, fIsN, isNone, fEq, fNe, fEqB, fAdd, fSub, fI, fIB, fIC, fNeg, fIx, fLen, fLt, fMax2, fMin2, fInt, contAt, lstAt, dicAt, mAppP, mLPop, Sg.put, Sg.set, pLenL, pLenD, pDGet, pDGet2, pDIn, pDNotIn, sDPutP, mDPop1, mDPop2, keyD, nLst, nDic, sAsgN, sFrz, Sg.frz, endP, pureOf, pChain, mTup, mLst, mCB, isTy, sNames, setNs, anV, anN, anNil, mMake, makeF, mMakeK, mTold, mVar, pSl, oNone, oSome, mSl, sFor, iData, mOp, mUn]
  have hd' : ws.length ≤ 50000 := by omega
  simp [F_Disk_loose_ones, m_Disk_loose_ones, fld_at h, h, hl, pLc, iOwn, lc, hd', funOf, argVs, argV, argsOf, sSeq, sIf, sBind, mBP, pTst, pFld, wVar, wVal, wFld, sRaise, endOf, sNext, pOp, pC, pVar, sRet, sRetN, mP, mW, sExpr, sAsg, sAugF, insAt, sSetF, sSetFN, eBind, mCall, callF, mMeth, clsAt, noFld, notFld, aNil, aConsV, okV, okVs, asB, asI, asBv, bAnd, bOr, bNot, mTst, mAndB, mOrB, mNotB, mIf, mAnd, mOr, mNot, pAnd, pOr, pNot, pIf, pUn, pNil, pCons, pCB, pTup, pLst, pIsi, fNotN, fIsN, isNone, fEq, fNe, fEqB, fAdd, fSub, fI, fIB, fIC, fNeg, fIx, fLen, fLt, fMax2, fMin2, fInt, contAt, lstAt, dicAt, mAppP, mLPop, Sg.put, Sg.set, pLenL, pLenD, pDGet, pDGet2, pDIn, pDNotIn, sDPutP, mDPop1, mDPop2, keyD, nLst, nDic, sAsgN, sFrz, Sg.frz, endP, pureOf, pChain, mTup, mLst, mCB, isTy, sNames, setNs, anV, anN, anNil, mMake, makeF, mMakeK, mTold, mVar, pSl, oNone, oSome, mSl, sFor, iData, mOp, mUn, lk_Disk_wide, in_Disk_wide, pt_Disk_wide, lk_Disk_settled_ones, in_Disk_settled_ones, pt_Disk_settled_ones, lk_Disk_loose, in_Disk_loose, pt_Disk_loose, lk_Disk_fuse, in_Disk_fuse, pt_Disk_fuse, lk_Disk_has_fallen, in_Disk_has_fallen, pt_Disk_has_fallen, lk_Disk_many_reads, in_Disk_many_reads, pt_Disk_many_reads, lk_Disk_many_writes, in_Disk_many_writes, pt_Disk_many_writes, lk_Disk_many_settles, in_Disk_many_settles, pt_Disk_many_settles, ln_Disk]
theorem init_eq {st : List Ob} {w : PyData} : F_Disk___init__ F_look_whole [.at_ (.ob st.length), .dat w] (st ++ [.ins "Disk" []]) = some (if wholeB w 120 400 then (.ok (.dat .none), st ++ [dkO ⟨match w with | .int n => n | _ => 0, [], .ownL [], .none, false, 0, 0, 0⟩]) else (.error "NoNumber", st ++ [.ins "Disk" []])) := by
  have g0 : (st ++ [Ob.ins "Disk" []])[st.length]? = some (.ins "Disk" []) := by simp
  cases hn : wholeB w 120 400 with
  | false => simp [F_Disk___init__, m_Disk___init__, look_whole_eq, hn, funOf, argVs, argV, argsOf, sSeq, sIf, sBind, mBP, pTst, pFld, wVar, wVal, wFld, sRaise, endOf, sNext, pOp, pC, pVar, sRet, sRetN, mP, mW, sExpr, sAsg, sAugF, insAt, sSetF, sSetFN, eBind, mCall, callF, mMeth, clsAt, noFld, notFld, aNil, aConsV, okV, okVs, asB, asI, asBv, bAnd, bOr, bNot, mTst, mAndB, mOrB, mNotB, mIf, mAnd, mOr, mNot, pAnd, pOr, pNot, pIf, pUn, pNil, pCons, pCB, pTup, pLst, pIsi, fNotN, fIsN, isNone, fEq, fNe, fEqB, fAdd, fSub, fI, fIB, fIC, fNeg, fIx, fLen, fLt, fMax2, fMin2, fInt, contAt, lstAt, dicAt, mAppP, mLPop, Sg.put, Sg.set, pLenL, pLenD, pDGet, pDGet2, pDIn, pDNotIn, sDPutP, mDPop1, mDPop2, keyD, nLst, nDic, sAsgN, sFrz, Sg.frz, endP, pureOf, pChain, mTup, mLst, mCB, isTy, sNames, setNs, anV, anN, anNil, mMake, makeF, mMakeK, mTold, mVar, pSl, oNone, oSome, mSl, sFor, iData, mOp, mUn, lk_Disk_wide, in_Disk_wide, pt_Disk_wide, lk_Disk_settled_ones, in_Disk_settled_ones, pt_Disk_settled_ones, lk_Disk_loose, in_Disk_loose, pt_Disk_loose, lk_Disk_fuse, in_Disk_fuse, pt_Disk_fuse, lk_Disk_has_fallen, in_Disk_has_fallen, pt_Disk_has_fallen, lk_Disk_many_reads, in_Disk_many_reads, pt_Disk_many_reads, lk_Disk_many_writes, in_Disk_many_writes, pt_Disk_many_writes, lk_Disk_many_settles, in_Disk_many_settles, pt_Disk_many_settles, ln_Disk]
  | true =>
    obtain ⟨k, rfl⟩ : ∃ k, w = .int k := by
      cases w with
      | int k => exact ⟨k, rfl⟩
      | _ => cases hn
    simp [F_Disk___init__, m_Disk___init__, look_whole_eq, hn, dkF, funOf, argVs, argV, argsOf, sSeq, sIf, sBind, mBP, pTst, pFld, wVar, wVal, wFld, sRaise, endOf, sNext, pOp, pC, pVar, sRet, sRetN, mP, mW, sExpr, sAsg, sAugF, insAt, sSetF, sSetFN, eBind, mCall, callF, mMeth, clsAt, noFld, notFld, aNil, aConsV, okV, okVs, asB, asI, asBv, bAnd, bOr, bNot, mTst, mAndB, mOrB, mNotB, mIf, mAnd, mOr, mNot, pAnd, pOr, pNot, pIf, pUn, pNil, pCons, pCB, pTup, pLst, pIsi, fNotN, fIsN, isNone, fEq, fNe, fEqB, fAdd, fSub, fI, fIB, fIC, fNeg, fIx, fLen, fLt, fMax2, fMin2, fInt, contAt, lstAt, dicAt, mAppP, mLPop, Sg.put, Sg.set, pLenL, pLenD, pDGet, pDGet2, pDIn, pDNotIn, sDPutP, mDPop1, mDPop2, keyD, nLst, nDic, sAsgN, sFrz, Sg.frz, endP, pureOf, pChain, mTup, mLst, mCB, isTy, sNames, setNs, anV, anN, anNil, mMake, makeF, mMakeK, mTold, mVar, pSl, oNone, oSome, mSl, sFor, iData, mOp, mUn, pi_Disk_wide, pi_Disk_settled_ones, pi_Disk_loose, pi_Disk_fuse, pi_Disk_has_fallen, pi_Disk_many_reads, pi_Disk_many_writes, pi_Disk_many_settles, in_Disk_wide, in_Disk_settled_ones, in_Disk_loose, in_Disk_fuse, in_Disk_has_fallen, in_Disk_many_reads, in_Disk_many_writes, in_Disk_many_settles]
/-! fall -/
def halfZ (z : Str) : Str := cutS z none (some ((z.length : Int) / 2))
def fallP (d : List (Key × PyData)) (p : Int × Str) (c : Int) : List (Key × PyData) := if c = 1 then putD d (.inl p.1) (.str p.2) else if c = 2 then putD d (.inl p.1) (.str (halfZ p.2)) else d
def fallWs (d : List (Key × PyData)) (ws : List (Int × Str)) (cs : List Int) : List (Key × PyData) := (ws.zip cs).foldl (fun d q => fallP d q.1 q.2) d
def choiceB (c : PyData) : Bool := match c with
  | .tuple ds => ds.all fun d => wholeB d 0 2
  | _ => false
theorem fallP_len (d : List (Key × PyData)) (p : Int × Str) (c : Int) : (fallP d p c).length ≤ d.length + 1 := by
  unfold fallP
  split
  · exact putD_len _ _ _
  · split
    · exact putD_len _ _ _
    · omega
theorem fall_for {i : Nat} {m c0 k : Option Val} : ∀ (l : List ((Int × Str) × Int)) (st : List Ob) (S : DkS) (x y z : Option Val), st[i]? = some (dkO S) → S.done.length + l.length ≤ 90000 → (∀ q ∈ l, q.1.2.length ≤ 100000) →
    ∃ a b c, forL (gmTup 2 (gmCons (gmTup 2 (gmCons (gmName 4) (gmCons (gmName 5) gmNil))) (gmCons (gmName 3) gmNil))) b1_Disk_fall (l.map fun q => .tuple [entP q.1, .int q.2]) ⟨[some (.obj i), c0, m, x, y, z, k], st⟩ = some (.nx, ⟨[some (.obj i), c0, m, a, b, c, k], st.set i (dkO { S with done := l.foldl (fun d q => fallP d q.1 q.2) S.done })⟩)
  | [], st, S, x, y, z, h, _, _ => ⟨x, y, z, by simp [forL, set_same h]⟩
  | q :: r, st, S, x, y, z, h, hl, hz => by
    have hl1 : S.done.length < 100000 := by simp at hl; omega
    have hq : q.1.2.length ≤ 100000 := hz q List.mem_cons_self
    obtain ⟨a, b, c, e⟩ := fall_for (m := m) (c0 := c0) (k := k) r (st.set i (dkO { S with done := fallP S.done q.1 q.2 })) { S with done := fallP S.done q.1 q.2 } (some (.dat (.int q.2))) (some (.dat (.int q.1.1))) (some (.dat (.str q.1.2))) (set_at h) (by have := fallP_len S.done q.1 q.2; simp at hl; show (fallP S.done q.1 q.2).length + r.length ≤ 90000; omega) fun p hp => hz p (List.mem_cons_of_mem _ hp)
    refine ⟨a, b, c, ?_⟩
    rw [List.map_cons]
    refine forL_cons (g1 := ⟨[some (.obj i), c0, m, some (.dat (.int q.2)), some (.dat (.int q.1.1)), some (.dat (.str q.1.2)), k], st⟩) ?_ ?_ (e.trans ?_)
    · simp [entP, gmTup, gmCons, gmName, gmNil, funOf, argVs, argV, argsOf, sSeq, sIf, sBind, mBP, pTst, pFld, wVar, wVal, wFld, sRaise, endOf, sNext, pOp, pC, pVar, sRet, sRetN, mP, mW, sExpr, sAsg, sAugF, insAt, sSetF, sSetFN, eBind, mCall, callF, mMeth, clsAt, noFld, notFld, aNil, aConsV, okV, okVs, asB, asI, asBv, bAnd, bOr, bNot, mTst, mAndB, mOrB, mNotB, mIf, mAnd, mOr, mNot, pAnd, pOr, pNot, pIf, pUn, pNil, pCons, pCB, pTup, pLst, pIsi, fNotN, fIsN, isNone, fEq, fNe, fEqB, fAdd, fSub, fI, fIB, fIC, fNeg, fIx, fLen, fLt, fMax2, fMin2, fInt, contAt, lstAt, dicAt, mAppP, mLPop, Sg.put, Sg.set, pLenL, pLenD, pDGet, pDGet2, pDIn, pDNotIn, sDPutP, mDPop1, mDPop2, keyD, nLst, nDic, sAsgN, sFrz, Sg.frz, endP, pureOf, pChain, mTup, mLst, mCB, isTy, sNames, setNs, anV, anN, anNil, mMake, makeF, mMakeK, mTold, mVar, pSl, oNone, oSome, mSl, sFor, iData, mOp, mUn]
    · by_cases c1 : q.2 = 1
      · have ef : fallP S.done q.1 1 = putD S.done (.inl q.1.1) (.str q.1.2) := by unfold fallP; rw [if_pos rfl]
        simp [b1_Disk_fall, fld_at h, h, hl1, ef, c1, funOf, argVs, argV, argsOf, sSeq, sIf, sBind, mBP, pTst, pFld, wVar, wVal, wFld, sRaise, endOf, sNext, pOp, pC, pVar, sRet, sRetN, mP, mW, sExpr, sAsg, sAugF, insAt, sSetF, sSetFN, eBind, mCall, callF, mMeth, clsAt, noFld, notFld, aNil, aConsV, okV, okVs, asB, asI, asBv, bAnd, bOr, bNot, mTst, mAndB, mOrB, mNotB, mIf, mAnd, mOr, mNot, pAnd, pOr, pNot, pIf, pUn, pNil, pCons, pCB, pTup, pLst, pIsi, fNotN, fIsN, isNone, fEq, fNe, fEqB, fAdd, fSub, fI, fIB, fIC, fNeg, fIx, fLen, fLt, fMax2, fMin2, fInt, contAt, lstAt, dicAt, mAppP, mLPop, Sg.put, Sg.set, pLenL, pLenD, pDGet, pDGet2, pDIn, pDNotIn, sDPutP, mDPop1, mDPop2, keyD, nLst, nDic, sAsgN, sFrz, Sg.frz, endP, pureOf, pChain, mTup, mLst, mCB, isTy, sNames, setNs, anV, anN, anNil, mMake, makeF, mMakeK, mTold, mVar, pSl, oNone, oSome, mSl, sFor, iData, mOp, mUn, lk_Disk_wide, in_Disk_wide, pt_Disk_wide, lk_Disk_settled_ones, in_Disk_settled_ones, pt_Disk_settled_ones, lk_Disk_loose, in_Disk_loose, pt_Disk_loose, lk_Disk_fuse, in_Disk_fuse, pt_Disk_fuse, lk_Disk_has_fallen, in_Disk_has_fallen, pt_Disk_has_fallen, lk_Disk_many_reads, in_Disk_many_reads, pt_Disk_many_reads, lk_Disk_many_writes, in_Disk_many_writes, pt_Disk_many_writes, lk_Disk_many_settles, in_Disk_many_settles, pt_Disk_many_settles, ln_Disk]
      · by_cases c2 : q.2 = 2
        · have ef : fallP S.done q.1 2 = putD S.done (.inl q.1.1) (.str (halfZ q.1.2)) := by unfold fallP; rw [if_neg (by decide), if_pos rfl]
          simp [b1_Disk_fall, fld_at h, h, hl1, ef, c2, hq, slD, fDiv, halfZ, funOf, argVs, argV, argsOf, sSeq, sIf, sBind, mBP, pTst, pFld, wVar, wVal, wFld, sRaise, endOf, sNext, pOp, pC, pVar, sRet, sRetN, mP, mW, sExpr, sAsg, sAugF, insAt, sSetF, sSetFN, eBind, mCall, callF, mMeth, clsAt, noFld, notFld, aNil, aConsV, okV, okVs, asB, asI, asBv, bAnd, bOr, bNot, mTst, mAndB, mOrB, mNotB, mIf, mAnd, mOr, mNot, pAnd, pOr, pNot, pIf, pUn, pNil, pCons, pCB, pTup, pLst, pIsi, fNotN, fIsN, isNone, fEq, fNe, fEqB, fAdd, fSub, fI, fIB, fIC, fNeg, fIx, fLen, fLt, fMax2, fMin2, fInt, contAt, lstAt, dicAt, mAppP, mLPop, Sg.put, Sg.set, pLenL, pLenD, pDGet, pDGet2, pDIn, pDNotIn, sDPutP, mDPop1, mDPop2, keyD, nLst, nDic, sAsgN, sFrz, Sg.frz, endP, pureOf, pChain, mTup, mLst, mCB, isTy, sNames, setNs, anV, anN, anNil, mMake, makeF, mMakeK, mTold, mVar, pSl, oNone, oSome, mSl, sFor, iData, mOp, mUn, lk_Disk_wide, in_Disk_wide, pt_Disk_wide, lk_Disk_settled_ones, in_Disk_settled_ones, pt_Disk_settled_ones, lk_Disk_loose, in_Disk_loose, pt_Disk_loose, lk_Disk_fuse, in_Disk_fuse, pt_Disk_fuse, lk_Disk_has_fallen, in_Disk_has_fallen, pt_Disk_has_fallen, lk_Disk_many_reads, in_Disk_many_reads, pt_Disk_many_reads, lk_Disk_many_writes, in_Disk_many_writes, pt_Disk_many_writes, lk_Disk_many_settles, in_Disk_many_settles, pt_Disk_many_settles, ln_Disk]
        · have ef : fallP S.done q.1 q.2 = S.done := by unfold fallP; rw [if_neg c1, if_neg c2]
          simp [b1_Disk_fall, h, ef, c1, c2, set_same h, funOf, argVs, argV, argsOf, sSeq, sIf, sBind, mBP, pTst, pFld, wVar, wVal, wFld, sRaise, endOf, sNext, pOp, pC, pVar, sRet, sRetN, mP, mW, sExpr, sAsg, sAugF, insAt, sSetF, sSetFN, eBind, mCall, callF, mMeth, clsAt, noFld, notFld, aNil, aConsV, okV, okVs, asB, asI, asBv, bAnd, bOr, bNot, mTst, mAndB, mOrB, mNotB, mIf, mAnd, mOr, mNot, pAnd, pOr, pNot, pIf, pUn, pNil, pCons, pCB, pTup, pLst, pIsi, fNotN, fIsN, isNone, fEq, fNe, fEqB, fAdd, fSub, fI, fIB, fIC, fNeg, fIx, fLen, fLt, fMax2, fMin2, fInt, contAt, lstAt, dicAt, mAppP, mLPop, Sg.put, Sg.set, pLenL, pLenD, pDGet, pDGet2, pDIn, pDNotIn, sDPutP, mDPop1, mDPop2, keyD, nLst, nDic, sAsgN, sFrz, Sg.frz, endP, pureOf, pChain, mTup, mLst, mCB, isTy, sNames, setNs, anV, anN, anNil, mMake, makeF, mMakeK, mTold, mVar, pSl, oNone, oSome, mSl, sFor, iData, mOp, mUn, lk_Disk_wide, in_Disk_wide, pt_Disk_wide, lk_Disk_settled_ones, in_Disk_settled_ones, pt_Disk_settled_ones, lk_Disk_loose, in_Disk_loose, pt_Disk_loose, lk_Disk_fuse, in_Disk_fuse, pt_Disk_fuse, lk_Disk_has_fallen, in_Disk_has_fallen, pt_Disk_has_fallen, lk_Disk_many_reads, in_Disk_many_reads, pt_Disk_many_reads, lk_Disk_many_writes, in_Disk_many_writes, pt_Disk_many_writes, lk_Disk_many_settles, in_Disk_many_settles, pt_Disk_many_settles, ln_Disk]
    · simp only [List.set_set]
      rfl
def intsOf (ds : List PyData) : List Int := ds.filterMap fun d => match d with
  | .int n => some n
  | _ => none
def fallE (S : DkS) (c : PyData) (ws : List (Int × Str)) : Except Str Rv × DkS := match c with
  | .tuple ds => if ds.all (fun d => wholeB d 0 2) then (.ok (.dat (.int (ws.length : Nat))), { S with done := fallWs S.done ws (intsOf ds), loose := .ownL [], fuse := .none, fallen := false }) else (.error "NoChoices", S)
  | _ => (.error "NoChoices", S)
theorem whole_ints {ds : List PyData} (h : ds.all (fun d => wholeB d 0 2) = true) : ds = (intsOf ds).map .int := by
  induction ds with
  | nil => rfl
  | cons d r ih =>
    rw [List.all_cons, Bool.and_eq_true] at h
    cases d with
    | int n => exact congrArg (PyData.int n :: ·) (ih h.2)
    | _ => cases h.1
theorem zip_ents (ws : List (Int × Str)) (cs : List Int) : zipD (ws.map entP) (cs.map .int) = (ws.zip cs).map fun q => .tuple [entP q.1, .int q.2] := by
  unfold zipD
  rw [List.zip_map, List.map_map]
  rfl
theorem fall_eq {st : List Ob} {i : Nat} {S : DkS} {c : PyData} {ws : List (Int × Str)} (h : st[i]? = some (dkO S)) (hl : S.loose = .ownL (ws.map entP)) (hd : S.done.length + ws.length ≤ 90000) (hz : ∀ p ∈ ws, p.2.length ≤ 100000) (hc : ∀ ds, c = .tuple ds → ds.length ≤ 40000) : F_Disk_fall [.at_ (.ob i), .dat c] st = some ((fallE S c ws).1, st.set i (dkO (fallE S c ws).2)) := by
  cases c with
  | tuple ds =>
    have hds := hc ds rfl
    have hds' : ds.length ≤ 50000 := by omega
    have lc : ∀ (g : Sg), (7 ≤ g.sl.length) → ∀ ds : List PyData, lcAll (gmName 6) pTrue (pCB F_is_whole (pCons (pVar 6) (pCons (pC (.int 0)) (pCons (pC (.int 2)) pNil)))) (g.wipe [6]) ds = some (ds.map fun d => .bool (wholeB d 0 2)) := fun g hg ds => by
      induction ds with
      | nil => rfl
      | cons d r ih =>
        rw [lcAll, ih]
        have hlt : 6 < g.sl.length := by omega
        simp [lcOne, gmName, pTrue, is_whole_eq, Sg.wipe, Sg.clr, hlt, funOf, argVs, argV, argsOf, sSeq, sIf, sBind, mBP, pTst, pFld, wVar, wVal, wFld, sRaise, endOf, sNext, pOp, pC, pVar, sRet, sRetN, mP, mW, sExpr, sAsg, sAugF, insAt, sSetF, sSetFN, eBind, mCall, callF, mMeth, clsAt, noFld, notFld, aNil, aConsV, okV, okVs, asB, asI, asBv, bAnd, bOr, bNot, mTst, mAndB, mOrB, mNotB, mIf, mAnd, mOr, mNot, pAnd, pOr, pNot, pIf, pUn, pNil, pCons, pCB, pTup, pLst, pIsi, fNotN, fIsN, isNone, fEq, fNe, fEqB, fAdd, fSub, fI, fIB, fIC, fNeg, fIx, fLen, fLt, fMax2, fMin2, fInt, contAt, lstAt, dicAt, mAppP, mLPop, Sg.put, Sg.set, pLenL, pLenD, pDGet, pDGet2, pDIn, pDNotIn, sDPutP, mDPop1, mDPop2, keyD, nLst, nDic, sAsgN, sFrz, Sg.frz, endP, pureOf, pChain, mTup, mLst, mCB, isTy, sNames, setNs, anV, anN, anNil, mMake, makeF, mMakeK, mTold, mVar, pSl, oNone, oSome, mSl, sFor, iData, mOp, mUn]
    have bo : ∀ ds : List PyData, bools (ds.map fun d => .bool (wholeB d 0 2)) = some (ds.map fun d => wholeB d 0 2) := fun ds => by
      induction ds with
      | nil => rfl
      | cons d r ih => rw [List.map_cons, bools, ih]; rfl
    have lc1 := lc ⟨[some (.obj i), some (.dat (.tuple ds)), none, none, none, none, none], st⟩ (by simp) ds
    have al : (ds.map fun d => wholeB d 0 2).all id = ds.all (fun d => wholeB d 0 2) := by rw [List.all_map]; rfl
    unfold fallE
    cases ha : ds.all (fun d => wholeB d 0 2) with
    | false => simp [F_Disk_fall, m_Disk_fall, h, pLc, lc1, hds', fAll, bo, al, ha, set_same h, funOf, argVs, argV, argsOf, sSeq, sIf, sBind, mBP, pTst, pFld, wVar, wVal, wFld, sRaise, endOf, sNext, pOp, pC, pVar, sRet, sRetN, mP, mW, sExpr, sAsg, sAugF, insAt, sSetF, sSetFN, eBind, mCall, callF, mMeth, clsAt, noFld, notFld, aNil, aConsV, okV, okVs, asB, asI, asBv, bAnd, bOr, bNot, mTst, mAndB, mOrB, mNotB, mIf, mAnd, mOr, mNot, pAnd, pOr, pNot, pIf, pUn, pNil, pCons, pCB, pTup, pLst, pIsi, fNotN, fIsN, isNone, fEq, fNe, fEqB, fAdd, fSub, fI, fIB, fIC, fNeg, fIx, fLen, fLt, fMax2, fMin2, fInt, contAt, lstAt, dicAt, mAppP, mLPop, Sg.put, Sg.set, pLenL, pLenD, pDGet, pDGet2, pDIn, pDNotIn, sDPutP, mDPop1, mDPop2, keyD, nLst, nDic, sAsgN, sFrz, Sg.frz, endP, pureOf, pChain, mTup, mLst, mCB, isTy, sNames, setNs, anV, anN, anNil, mMake, makeF, mMakeK, mTold, mVar, pSl, oNone, oSome, mSl, sFor, iData, mOp, mUn, lk_Disk_wide, in_Disk_wide, pt_Disk_wide, lk_Disk_settled_ones, in_Disk_settled_ones, pt_Disk_settled_ones, lk_Disk_loose, in_Disk_loose, pt_Disk_loose, lk_Disk_fuse, in_Disk_fuse, pt_Disk_fuse, lk_Disk_has_fallen, in_Disk_has_fallen, pt_Disk_has_fallen, lk_Disk_many_reads, in_Disk_many_reads, pt_Disk_many_reads, lk_Disk_many_writes, in_Disk_many_writes, pt_Disk_many_writes, lk_Disk_many_settles, in_Disk_many_settles, pt_Disk_many_settles, ln_Disk]
    | true =>
      have hzip : zipD (ws.map entP) ds = (ws.zip (intsOf ds)).map fun q => .tuple [entP q.1, .int q.2] := by
        conv => lhs; rw [whole_ints ha]
        exact zip_ents ws _
      obtain ⟨x, y, z, fl⟩ := fall_for (i := i) (m := none) (c0 := some (.dat (.tuple ds))) (k := none) (ws.zip (intsOf ds)) (st.set i (dkO { S with loose := .dat (.list (ws.map entP)) })) { S with loose := .dat (.list (ws.map entP)) } none none none (set_at h) (by rw [List.length_zip]; show S.done.length + _ ≤ _; omega) fun q hq => hz q.1 (List.of_mem_zip (show (q.1, q.2) ∈ _ from hq)).1
      simp only [List.set_set] at fl
      simp [F_Disk_fall, m_Disk_fall, h, hl, fld_at h, fld_set h, get_set h, pLc, lc1, hds', fAll, bo, al, ha, iZip2, hzip, fl, fallWs, funOf, argVs, argV, argsOf, sSeq, sIf, sBind, mBP, pTst, pFld, wVar, wVal, wFld, sRaise, endOf, sNext, pOp, pC, pVar, sRet, sRetN, mP, mW, sExpr, sAsg, sAugF, insAt, sSetF, sSetFN, eBind, mCall, callF, mMeth, clsAt, noFld, notFld, aNil, aConsV, okV, okVs, asB, asI, asBv, bAnd, bOr, bNot, mTst, mAndB, mOrB, mNotB, mIf, mAnd, mOr, mNot, pAnd, pOr, pNot, pIf, pUn, pNil, pCons, pCB, pTup, pLst, pIsi, fNotN, fIsN, isNone, fEq, fNe, fEqB, fAdd, fSub, fI, fIB, fIC, fNeg, fIx, fLen, fLt, fMax2, fMin2, fInt, contAt, lstAt, dicAt, mAppP, mLPop, Sg.put, Sg.set, pLenL, pLenD, pDGet, pDGet2, pDIn, pDNotIn, sDPutP, mDPop1, mDPop2, keyD, nLst, nDic, sAsgN, sFrz, Sg.frz, endP, pureOf, pChain, mTup, mLst, mCB, isTy, sNames, setNs, anV, anN, anNil, mMake, makeF, mMakeK, mTold, mVar, pSl, oNone, oSome, mSl, sFor, iData, mOp, mUn, lk_Disk_wide, in_Disk_wide, pt_Disk_wide, lk_Disk_settled_ones, in_Disk_settled_ones, pt_Disk_settled_ones, lk_Disk_loose, in_Disk_loose, pt_Disk_loose, lk_Disk_fuse, in_Disk_fuse, pt_Disk_fuse, lk_Disk_has_fallen, in_Disk_has_fallen, pt_Disk_has_fallen, lk_Disk_many_reads, in_Disk_many_reads, pt_Disk_many_reads, lk_Disk_many_writes, in_Disk_many_writes, pt_Disk_many_writes, lk_Disk_many_settles, in_Disk_many_settles, pt_Disk_many_settles, ln_Disk]
  | none => simp [F_Disk_fall, m_Disk_fall, h, fallE, set_same h, funOf, argVs, argV, argsOf, sSeq, sIf, sBind, mBP, pTst, pFld, wVar, wVal, wFld, sRaise, endOf, sNext, pOp, pC, pVar, sRet, sRetN, mP, mW, sExpr, sAsg, sAugF, insAt, sSetF, sSetFN, eBind, mCall, callF, mMeth, clsAt, noFld, notFld, aNil, aConsV, okV, okVs, asB, asI, asBv, bAnd, bOr, bNot, mTst, mAndB, mOrB, mNotB, mIf, mAnd, mOr, mNot, pAnd, pOr, pNot, pIf, pUn, pNil, pCons, pCB, pTup, pLst, pIsi, fNotN, fIsN, isNone, fEq, fNe, fEqB, fAdd, fSub, fI, fIB, fIC, fNeg, fIx, fLen, fLt, fMax2, fMin2, fInt, contAt, lstAt, dicAt, mAppP, mLPop, Sg.put, Sg.set, pLenL, pLenD, pDGet, pDGet2, pDIn, pDNotIn, sDPutP, mDPop1, mDPop2, keyD, nLst, nDic, sAsgN, sFrz, Sg.frz, endP, pureOf, pChain, mTup, mLst, mCB, isTy, sNames, setNs, anV, anN, anNil, mMake, makeF, mMakeK, mTold, mVar, pSl, oNone, oSome, mSl, sFor, iData, mOp, mUn, lk_Disk_wide, in_Disk_wide, pt_Disk_wide, lk_Disk_settled_ones, in_Disk_settled_ones, pt_Disk_settled_ones, lk_Disk_loose, in_Disk_loose, pt_Disk_loose, lk_Disk_fuse, in_Disk_fuse, pt_Disk_fuse, lk_Disk_has_fallen, in_Disk_has_fallen, pt_Disk_has_fallen, lk_Disk_many_reads, in_Disk_many_reads, pt_Disk_many_reads, lk_Disk_many_writes, in_Disk_many_writes, pt_Disk_many_writes, lk_Disk_many_settles, in_Disk_many_settles, pt_Disk_many_settles, ln_Disk]
  | bool b => simp [F_Disk_fall, m_Disk_fall, h, fallE, set_same h, funOf, argVs, argV, argsOf, sSeq, sIf, sBind, mBP, pTst, pFld, wVar, wVal, wFld, sRaise, endOf, sNext, pOp, pC, pVar, sRet, sRetN, mP, mW, sExpr, sAsg, sAugF, insAt, sSetF, sSetFN, eBind, mCall, callF, mMeth, clsAt, noFld, notFld, aNil, aConsV, okV, okVs, asB, asI, asBv, bAnd, bOr, bNot, mTst, mAndB, mOrB, mNotB, mIf, mAnd, mOr, mNot, pAnd, pOr, pNot, pIf, pUn, pNil, pCons, pCB, pTup, pLst, pIsi, fNotN, fIsN, isNone, fEq, fNe, fEqB, fAdd, fSub, fI, fIB, fIC, fNeg, fIx, fLen, fLt, fMax2, fMin2, fInt, contAt, lstAt, dicAt, mAppP, mLPop, Sg.put, Sg.set, pLenL, pLenD, pDGet, pDGet2, pDIn, pDNotIn, sDPutP, mDPop1, mDPop2, keyD, nLst, nDic, sAsgN, sFrz, Sg.frz, endP, pureOf, pChain, mTup, mLst, mCB, isTy, sNames, setNs, anV, anN, anNil, mMake, makeF, mMakeK, mTold, mVar, pSl, oNone, oSome, mSl, sFor, iData, mOp, mUn, lk_Disk_wide, in_Disk_wide, pt_Disk_wide, lk_Disk_settled_ones, in_Disk_settled_ones, pt_Disk_settled_ones, lk_Disk_loose, in_Disk_loose, pt_Disk_loose, lk_Disk_fuse, in_Disk_fuse, pt_Disk_fuse, lk_Disk_has_fallen, in_Disk_has_fallen, pt_Disk_has_fallen, lk_Disk_many_reads, in_Disk_many_reads, pt_Disk_many_reads, lk_Disk_many_writes, in_Disk_many_writes, pt_Disk_many_writes, lk_Disk_many_settles, in_Disk_many_settles, pt_Disk_many_settles, ln_Disk]
  | int b => simp [F_Disk_fall, m_Disk_fall, h, fallE, set_same h, funOf, argVs, argV, argsOf, sSeq, sIf, sBind, mBP, pTst, pFld, wVar, wVal, wFld, sRaise, endOf, sNext, pOp, pC, pVar, sRet, sRetN, mP, mW, sExpr, sAsg, sAugF, insAt, sSetF, sSetFN, eBind, mCall, callF, mMeth, clsAt, noFld, notFld, aNil, aConsV, okV, okVs, asB, asI, asBv, bAnd, bOr, bNot, mTst, mAndB, mOrB, mNotB, mIf, mAnd, mOr, mNot, pAnd, pOr, pNot, pIf, pUn, pNil, pCons, pCB, pTup, pLst, pIsi, fNotN, fIsN, isNone, fEq, fNe, fEqB, fAdd, fSub, fI, fIB, fIC, fNeg, fIx, fLen, fLt, fMax2, fMin2, fInt, contAt, lstAt, dicAt, mAppP, mLPop, Sg.put, Sg.set, pLenL, pLenD, pDGet, pDGet2, pDIn, pDNotIn, sDPutP, mDPop1, mDPop2, keyD, nLst, nDic, sAsgN, sFrz, Sg.frz, endP, pureOf, pChain, mTup, mLst, mCB, isTy, sNames, setNs, anV, anN, anNil, mMake, makeF, mMakeK, mTold, mVar, pSl, oNone, oSome, mSl, sFor, iData, mOp, mUn, lk_Disk_wide, in_Disk_wide, pt_Disk_wide, lk_Disk_settled_ones, in_Disk_settled_ones, pt_Disk_settled_ones, lk_Disk_loose, in_Disk_loose, pt_Disk_loose, lk_Disk_fuse, in_Disk_fuse, pt_Disk_fuse, lk_Disk_has_fallen, in_Disk_has_fallen, pt_Disk_has_fallen, lk_Disk_many_reads, in_Disk_many_reads, pt_Disk_many_reads, lk_Disk_many_writes, in_Disk_many_writes, pt_Disk_many_writes, lk_Disk_many_settles, in_Disk_many_settles, pt_Disk_many_settles, ln_Disk]
  | str b => simp [F_Disk_fall, m_Disk_fall, h, fallE, set_same h, funOf, argVs, argV, argsOf, sSeq, sIf, sBind, mBP, pTst, pFld, wVar, wVal, wFld, sRaise, endOf, sNext, pOp, pC, pVar, sRet, sRetN, mP, mW, sExpr, sAsg, sAugF, insAt, sSetF, sSetFN, eBind, mCall, callF, mMeth, clsAt, noFld, notFld, aNil, aConsV, okV, okVs, asB, asI, asBv, bAnd, bOr, bNot, mTst, mAndB, mOrB, mNotB, mIf, mAnd, mOr, mNot, pAnd, pOr, pNot, pIf, pUn, pNil, pCons, pCB, pTup, pLst, pIsi, fNotN, fIsN, isNone, fEq, fNe, fEqB, fAdd, fSub, fI, fIB, fIC, fNeg, fIx, fLen, fLt, fMax2, fMin2, fInt, contAt, lstAt, dicAt, mAppP, mLPop, Sg.put, Sg.set, pLenL, pLenD, pDGet, pDGet2, pDIn, pDNotIn, sDPutP, mDPop1, mDPop2, keyD, nLst, nDic, sAsgN, sFrz, Sg.frz, endP, pureOf, pChain, mTup, mLst, mCB, isTy, sNames, setNs, anV, anN, anNil, mMake, makeF, mMakeK, mTold, mVar, pSl, oNone, oSome, mSl, sFor, iData, mOp, mUn, lk_Disk_wide, in_Disk_wide, pt_Disk_wide, lk_Disk_settled_ones, in_Disk_settled_ones, pt_Disk_settled_ones, lk_Disk_loose, in_Disk_loose, pt_Disk_loose, lk_Disk_fuse, in_Disk_fuse, pt_Disk_fuse, lk_Disk_has_fallen, in_Disk_has_fallen, pt_Disk_has_fallen, lk_Disk_many_reads, in_Disk_many_reads, pt_Disk_many_reads, lk_Disk_many_writes, in_Disk_many_writes, pt_Disk_many_writes, lk_Disk_many_settles, in_Disk_many_settles, pt_Disk_many_settles, ln_Disk]
  | list b => simp [F_Disk_fall, m_Disk_fall, h, fallE, set_same h, funOf, argVs, argV, argsOf, sSeq, sIf, sBind, mBP, pTst, pFld, wVar, wVal, wFld, sRaise, endOf, sNext, pOp, pC, pVar, sRet, sRetN, mP, mW, sExpr, sAsg, sAugF, insAt, sSetF, sSetFN, eBind, mCall, callF, mMeth, clsAt, noFld, notFld, aNil, aConsV, okV, okVs, asB, asI, asBv, bAnd, bOr, bNot, mTst, mAndB, mOrB, mNotB, mIf, mAnd, mOr, mNot, pAnd, pOr, pNot, pIf, pUn, pNil, pCons, pCB, pTup, pLst, pIsi, fNotN, fIsN, isNone, fEq, fNe, fEqB, fAdd, fSub, fI, fIB, fIC, fNeg, fIx, fLen, fLt, fMax2, fMin2, fInt, contAt, lstAt, dicAt, mAppP, mLPop, Sg.put, Sg.set, pLenL, pLenD, pDGet, pDGet2, pDIn, pDNotIn, sDPutP, mDPop1, mDPop2, keyD, nLst, nDic, sAsgN, sFrz, Sg.frz, endP, pureOf, pChain, mTup, mLst, mCB, isTy, sNames, setNs, anV, anN, anNil, mMake, makeF, mMakeK, mTold, mVar, pSl, oNone, oSome, mSl, sFor, iData, mOp, mUn, lk_Disk_wide, in_Disk_wide, pt_Disk_wide, lk_Disk_settled_ones, in_Disk_settled_ones, pt_Disk_settled_ones, lk_Disk_loose, in_Disk_loose, pt_Disk_loose, lk_Disk_fuse, in_Disk_fuse, pt_Disk_fuse, lk_Disk_has_fallen, in_Disk_has_fallen, pt_Disk_has_fallen, lk_Disk_many_reads, in_Disk_many_reads, pt_Disk_many_reads, lk_Disk_many_writes, in_Disk_many_writes, pt_Disk_many_writes, lk_Disk_many_settles, in_Disk_many_settles, pt_Disk_many_settles, ln_Disk]
  | dict b => simp [F_Disk_fall, m_Disk_fall, h, fallE, set_same h, funOf, argVs, argV, argsOf, sSeq, sIf, sBind, mBP, pTst, pFld, wVar, wVal, wFld, sRaise, endOf, sNext, pOp, pC, pVar, sRet, sRetN, mP, mW, sExpr, sAsg, sAugF, insAt, sSetF, sSetFN, eBind, mCall, callF, mMeth, clsAt, noFld, notFld, aNil, aConsV, okV, okVs, asB, asI, asBv, bAnd, bOr, bNot, mTst, mAndB, mOrB, mNotB, mIf, mAnd, mOr, mNot, pAnd, pOr, pNot, pIf, pUn, pNil, pCons, pCB, pTup, pLst, pIsi, fNotN, fIsN, isNone, fEq, fNe, fEqB, fAdd, fSub, fI, fIB, fIC, fNeg, fIx, fLen, fLt, fMax2, fMin2, fInt, contAt, lstAt, dicAt, mAppP, mLPop, Sg.put, Sg.set, pLenL, pLenD, pDGet, pDGet2, pDIn, pDNotIn, sDPutP, mDPop1, mDPop2, keyD, nLst, nDic, sAsgN, sFrz, Sg.frz, endP, pureOf, pChain, mTup, mLst, mCB, isTy, sNames, setNs, anV, anN, anNil, mMake, makeF, mMakeK, mTold, mVar, pSl, oNone, oSome, mSl, sFor, iData, mOp, mUn, lk_Disk_wide, in_Disk_wide, pt_Disk_wide, lk_Disk_settled_ones, in_Disk_settled_ones, pt_Disk_settled_ones, lk_Disk_loose, in_Disk_loose, pt_Disk_loose, lk_Disk_fuse, in_Disk_fuse, pt_Disk_fuse, lk_Disk_has_fallen, in_Disk_has_fallen, pt_Disk_has_fallen, lk_Disk_many_reads, in_Disk_many_reads, pt_Disk_many_reads, lk_Disk_many_writes, in_Disk_many_writes, pt_Disk_many_writes, lk_Disk_many_settles, in_Disk_many_settles, pt_Disk_many_settles, ln_Disk]
end EV

/-! ### EV: settle -/
namespace EV
open PySem PySem.Spec PyProof.Rows L2 Evl L2H LamX LR
theorem settle_for {F : Fun} {i : Nat} {m : Option Val} : ∀ (ws : List (Int × Str)) (st : List Ob) (S : DkS) (x y : Option Val), st[i]? = some (dkO S) → S.done.length + ws.length ≤ 90000 →
    ∃ a b, forL (gmTup 2 (gmCons (gmName 2) (gmCons (gmName 3) gmNil))) (b1_Disk_settle F) (ws.map entP) ⟨[some (.obj i), m, x, y], st⟩ = some (.nx, ⟨[some (.obj i), m, a, b], st.set i (dkO { S with done := putWs S.done ws })⟩)
  | [], st, S, x, y, h, _ => ⟨x, y, by simp [forL, putWs, set_same h]⟩
  | p :: r, st, S, x, y, h, hl => by
    have hl1 : S.done.length < 100000 := by simp at hl; omega
    obtain ⟨a, b, e⟩ := settle_for (m := m) r (st.set i (dkO { S with done := putD S.done (.inl p.1) (.str p.2) })) { S with done := putD S.done (.inl p.1) (.str p.2) } (some (.dat (.int p.1))) (some (.dat (.str p.2))) (set_at h) (by have := putD_len S.done (.inl p.1) (.str p.2); simp at hl; show (putD S.done (.inl p.1) (.str p.2)).length + r.length ≤ 90000; omega)
    refine ⟨a, b, ?_⟩
    rw [List.map_cons]
    refine forL_cons (g1 := ⟨[some (.obj i), m, some (.dat (.int p.1)), some (.dat (.str p.2))], st⟩) ?_ ?_ (e.trans ?_)
    · simp [entP, gmTup, gmCons, gmName, gmNil, funOf, argVs, argV, argsOf, sSeq, sIf, sBind, mBP, pTst, pFld, wVar, wVal, wFld, sRaise, endOf, sNext, pOp, pC, pVar, sRet, sRetN, mP, mW, sExpr, sAsg, sAugF, insAt, sSetF, sSetFN, eBind, mCall, callF, mMeth, clsAt, noFld, notFld, aNil, aConsV, okV, okVs, asB, asI, asBv, bAnd, bOr, bNot, mTst, mAndB, mOrB, mNotB, mIf, mAnd, mOr, mNot, pAnd, pOr, pNot, pIf, pUn, pNil, pCons, pCB, pTup, pLst, pIsi, fNotN, fIsN, isNone, fEq, fNe, fEqB, fAdd, fSub, fI, fIB, fIC, fNeg, fIx, fLen, fLt, fMax2, fMin2, fInt, contAt, lstAt, dicAt, mAppP, mLPop, Sg.put, Sg.set, pLenL, pLenD, pDGet, pDGet2, pDIn, pDNotIn, sDPutP, mDPop1, mDPop2, keyD, nLst, nDic, sAsgN, sFrz, Sg.frz, endP, pureOf, pChain, mTup, mLst, mCB, isTy, sNames, setNs, anV, anN, anNil, mMake, makeF, mMakeK, mTold, mVar, pSl, oNone, oSome, mSl, sFor, iData, mOp, mUn]
    · simp [b1_Disk_settle, fld_at h, h, hl1, funOf, argVs, argV, argsOf, sSeq, sIf, sBind, mBP, pTst, pFld, wVar, wVal, wFld, sRaise, endOf, sNext, pOp, pC, pVar, sRet, sRetN, mP, mW, sExpr, sAsg, sAugF, insAt, sSetF, sSetFN, eBind, mCall, callF, mMeth, clsAt, noFld, notFld, aNil, aConsV, okV, okVs, asB, asI, asBv, bAnd, bOr, bNot, mTst, mAndB, mOrB, mNotB, mIf, mAnd, mOr, mNot, pAnd, pOr, pNot, pIf, pUn, pNil, pCons, pCB, pTup, pLst, pIsi, fNotN, fIsN, isNone, fEq, fNe, fEqB, fAdd, fSub, fI, fIB, fIC, fNeg, fIx, fLen, fLt, fMax2, fMin2, fInt, contAt, lstAt, dicAt, mAppP, mLPop, Sg.put, Sg.set, pLenL, pLenD, pDGet, pDGet2, pDIn, pDNotIn, sDPutP, mDPop1, mDPop2, keyD, nLst, nDic, sAsgN, sFrz, Sg.frz, endP, pureOf, pChain, mTup, mLst, mCB, isTy, sNames, setNs, anV, anN, anNil, mMake, makeF, mMakeK, mTold, mVar, pSl, oNone, oSome, mSl, sFor, iData, mOp, mUn, lk_Disk_wide, in_Disk_wide, pt_Disk_wide, lk_Disk_settled_ones, in_Disk_settled_ones, pt_Disk_settled_ones, lk_Disk_loose, in_Disk_loose, pt_Disk_loose, lk_Disk_fuse, in_Disk_fuse, pt_Disk_fuse, lk_Disk_has_fallen, in_Disk_has_fallen, pt_Disk_has_fallen, lk_Disk_many_reads, in_Disk_many_reads, pt_Disk_many_reads, lk_Disk_many_writes, in_Disk_many_writes, pt_Disk_many_writes, lk_Disk_many_settles, in_Disk_many_settles, pt_Disk_many_settles, ln_Disk]
    · simp only [List.set_set]
      rfl
def settleE (S : DkS) (ws : List (Int × Str)) : Except Str Rv × DkS := match burnE S with
  | (.ok _, S1) => (.ok (.dat (.int (ws.length : Nat))), { S1 with st := S1.st + 1, done := putWs S1.done ws, loose := .ownL [] })
  | (.error x, S1) => (.error x, S1)
theorem settle_eq {st : List Ob} {i : Nat} {S : DkS} {ws : List (Int × Str)} (h : st[i]? = some (dkO S)) (hf : FuseOk S) (hl : S.loose = .ownL (ws.map entP)) (hd : S.done.length + ws.length ≤ 90000) : F_Disk_settle F_Disk_burn [.at_ (.ob i)] st = some ((settleE S ws).1, st.set i (dkO (settleE S ws).2)) := by
  unfold settleE
  have hb := burn_eq h hf
  rcases burn_cases S with ⟨S1, e⟩ | ⟨S1, e⟩
  · have b := burn_loose S
    rw [e] at hb b
    have b1 : S1.loose = .ownL (ws.map entP) := b.1.trans hl
    have b2 : S1.done = S.done := b.2.1
    obtain ⟨x, y, fl⟩ := settle_for (F := F_Disk_burn) (i := i) (m := some (.dat (.int (ws.length : Nat)))) ws (st.set i (dkO { S1 with st := S1.st + 1, loose := .dat (.list (ws.map entP)) })) { S1 with st := S1.st + 1, loose := .dat (.list (ws.map entP)) } none none (set_at h) (by show S1.done.length + _ ≤ _; rw [b2]; exact hd)
    simp only [List.set_set] at fl
    simp [F_Disk_settle, m_Disk_settle, fld_at h, fld_set h, get_set h, h, e, hb, b1, no_Disk_burn, List.set_set, fl, funOf, argVs, argV, argsOf, sSeq, sIf, sBind, mBP, pTst, pFld, wVar, wVal, wFld, sRaise, endOf, sNext, pOp, pC, pVar, sRet, sRetN, mP, mW, sExpr, sAsg, sAugF, insAt, sSetF, sSetFN, eBind, mCall, callF, mMeth, clsAt, noFld, notFld, aNil, aConsV, okV, okVs, asB, asI, asBv, bAnd, bOr, bNot, mTst, mAndB, mOrB, mNotB, mIf, mAnd, mOr, mNot, pAnd, pOr, pNot, pIf, pUn, pNil, pCons, pCB, pTup, pLst, pIsi, fNotN, fIsN, isNone, fEq, fNe, fEqB, fAdd, fSub, fI, fIB, fIC, fNeg, fIx, fLen, fLt, fMax2, fMin2, fInt, contAt, lstAt, dicAt, mAppP, mLPop, Sg.put, Sg.set, pLenL, pLenD, pDGet, pDGet2, pDIn, pDNotIn, sDPutP, mDPop1, mDPop2, keyD, nLst, nDic, sAsgN, sFrz, Sg.frz, endP, pureOf, pChain, mTup, mLst, mCB, isTy, sNames, setNs, anV, anN, anNil, mMake, makeF, mMakeK, mTold, mVar, pSl, oNone, oSome, mSl, sFor, iData, mOp, mUn, lk_Disk_wide, in_Disk_wide, pt_Disk_wide, lk_Disk_settled_ones, in_Disk_settled_ones, pt_Disk_settled_ones, lk_Disk_loose, in_Disk_loose, pt_Disk_loose, lk_Disk_fuse, in_Disk_fuse, pt_Disk_fuse, lk_Disk_has_fallen, in_Disk_has_fallen, pt_Disk_has_fallen, lk_Disk_many_reads, in_Disk_many_reads, pt_Disk_many_reads, lk_Disk_many_writes, in_Disk_many_writes, pt_Disk_many_writes, lk_Disk_many_settles, in_Disk_many_settles, pt_Disk_many_settles, ln_Disk]
  · rw [e] at hb
    simp [F_Disk_settle, m_Disk_settle, h, e, hb, no_Disk_burn, funOf, argVs, argV, argsOf, sSeq, sIf, sBind, mBP, pTst, pFld, wVar, wVal, wFld, sRaise, endOf, sNext, pOp, pC, pVar, sRet, sRetN, mP, mW, sExpr, sAsg, sAugF, insAt, sSetF, sSetFN, eBind, mCall, callF, mMeth, clsAt, noFld, notFld, aNil, aConsV, okV, okVs, asB, asI, asBv, bAnd, bOr, bNot, mTst, mAndB, mOrB, mNotB, mIf, mAnd, mOr, mNot, pAnd, pOr, pNot, pIf, pUn, pNil, pCons, pCB, pTup, pLst, pIsi, fNotN, fIsN, isNone, fEq, fNe, fEqB, fAdd, fSub, fI, fIB, fIC, fNeg, fIx, fLen, fLt, fMax2, fMin2, fInt, contAt, lstAt, dicAt, mAppP, mLPop, Sg.put, Sg.set, pLenL, pLenD, pDGet, pDGet2, pDIn, pDNotIn, sDPutP, mDPop1, mDPop2, keyD, nLst, nDic, sAsgN, sFrz, Sg.frz, endP, pureOf, pChain, mTup, mLst, mCB, isTy, sNames, setNs, anV, anN, anNil, mMake, makeF, mMakeK, mTold, mVar, pSl, oNone, oSome, mSl, sFor, iData, mOp, mUn, lk_Disk_wide, in_Disk_wide, pt_Disk_wide, lk_Disk_settled_ones, in_Disk_settled_ones, pt_Disk_settled_ones, lk_Disk_loose, in_Disk_loose, pt_Disk_loose, lk_Disk_fuse, in_Disk_fuse, pt_Disk_fuse, lk_Disk_has_fallen, in_Disk_has_fallen, pt_Disk_has_fallen, lk_Disk_many_reads, in_Disk_many_reads, pt_Disk_many_reads, lk_Disk_many_writes, in_Disk_many_writes, pt_Disk_many_writes, lk_Disk_many_settles, in_Disk_many_settles, pt_Disk_many_settles, ln_Disk]
/-! set_fuse, loose_ones, counts -/
end EV

/-! ### EV: the disk's numbers -/
namespace EV
open PySem PySem.Spec PyProof.Rows L2 Evl L2H LamX LR
theorem lc_nums {sl : List (Option Val)} {st : List Ob} (h3 : sl.length = 3) : ∀ ws : List (Int × Str), lcAll (gmTup 2 (gmCons (gmName 1) (gmCons (gmName 2) gmNil))) pTrue (pVar 1) ((⟨sl, st⟩ : Sg).wipe [1, 2]) (ws.map entP) = some (ws.map fun p => .int p.1) := by
  match sl, h3 with
  | [a, b, c], _ =>
    intro ws
    induction ws with
    | nil => rfl
    | cons p r ih =>
      show (lcOne _ _ _ _ (entP p)).bind _ = _
      rw [show lcOne (gmTup 2 (gmCons (gmName 1) (gmCons (gmName 2) gmNil))) pTrue (pVar 1) ((⟨[a, b, c], st⟩ : Sg).wipe [1, 2]) (entP p) = some (some (.int p.1)) from rfl]
      show (lcAll _ _ _ _ (r.map entP)).bind _ = _
      rw [ih]
      rfl
def keyN (d : List (Key × PyData)) : List Int := d.filterMap fun p => match p.1 with
  | .inl i => some i
  | .inr _ => none
def AllI (d : List (Key × PyData)) : Prop := ∀ p ∈ d, ∃ i, p.1 = .inl i
theorem keysD_ints : ∀ ws : List (Int × Str), keysD (ws.map fun p => .int p.1) = some (ws.map fun p => .inl p.1)
  | [] => rfl
  | p :: r => by
    show (keysD (r.map fun p => .int p.1)).bind _ = _
    rw [keysD_ints r]
    rfl
theorem len_eq {st : List Ob} {i : Nat} {S : DkS} {ws : List (Int × Str)} (h : st[i]? = some (dkO S)) (hl : S.loose = .ownL (ws.map entP)) (hn : (dist (ws.map fun p => .inl p.1)).length + S.done.length < 16) :
    F_Disk___len__ [.at_ (.ob i)] st = some (.ok (.dat (.int (dist ((ws.map fun p => .inl p.1) ++ S.done.map (·.1))).length)), st) := by
  have e : lcAll (gmTup 2 (gmCons (gmName 1) (gmCons (gmName 2) gmNil))) pTrue (pVar 1) ⟨[some (.obj i), none, none], st⟩ (ws.map entP) = some (ws.map fun p => .int p.1) := lc_nums (sl := [some (.obj i), none, none]) (st := st) rfl ws
  simp [F_Disk___len__, m_Disk___len__, pLenOr, iOwn, fld_at h, h, hl, Sg.wipe, Sg.clr, e, keysD_ints, hn, funOf, argVs, argV, argsOf, sSeq, sIf, sBind, mBP, pTst, pFld, wVar, wVal, wFld, sRaise, endOf, sNext, pOp, pC, pVar, sRet, sRetN, mP, mW, sExpr, sAsg, sAugF, insAt, sSetF, sSetFN, eBind, mCall, callF, mMeth, clsAt, noFld, notFld, aNil, aConsV, okV, okVs, asB, asI, asBv, bAnd, bOr, bNot, mTst, mAndB, mOrB, mNotB, mIf, mAnd, mOr, mNot, pAnd, pOr, pNot, pIf, pUn, pNil, pCons, pCB, pTup, pLst, pIsi, fNotN, fIsN, isNone, fEq, fNe, fEqB, fAdd, fSub, fI, fIB, fIC, fNeg, fIx, fLen, fLt, fMax2, fMin2, fInt, contAt, lstAt, dicAt, mAppP, mLPop, Sg.put, Sg.set, pLenL, pLenD, pDGet, pDGet2, pDIn, pDNotIn, sDPutP, mDPop1, mDPop2, keyD, nLst, nDic, sAsgN, sFrz, Sg.frz, endP, pureOf, pChain, mTup, mLst, mCB, isTy, sNames, setNs, anV, anN, anNil, mMake, makeF, mMakeK, mTold, mVar, pSl, oNone, oSome, mSl, sFor, iData, mOp, mUn, lk_Disk_wide, in_Disk_wide, pt_Disk_wide, lk_Disk_settled_ones, in_Disk_settled_ones, pt_Disk_settled_ones, lk_Disk_loose, in_Disk_loose, pt_Disk_loose, lk_Disk_fuse, in_Disk_fuse, pt_Disk_fuse, lk_Disk_has_fallen, in_Disk_has_fallen, pt_Disk_has_fallen, lk_Disk_many_reads, in_Disk_many_reads, pt_Disk_many_reads, lk_Disk_many_writes, in_Disk_many_writes, pt_Disk_many_writes, lk_Disk_many_settles, in_Disk_many_settles, pt_Disk_many_settles, ln_Disk]
theorem intsD_map : ∀ ns : List Int, intsD (ns.map .int) = some ns
  | [] => rfl
  | n :: r => by
    show (intsD (r.map .int)).map _ = _
    rw [intsD_map r]
    rfl
theorem numbers_eq {st : List Ob} {i : Nat} {S : DkS} {ws : List (Int × Str)} (h : st[i]? = some (dkO S)) (hl : S.loose = .ownL (ws.map entP)) (hd : ws.length ≤ 1000) (hk : S.done.length ≤ 1000) (ha : AllI S.done) :
    F_Disk_numbers [.at_ (.ob i)] st = some (.ok (.dat (.list ((usort ltI ((ws.map (·.1)) ++ keyN S.done)).map .int))), st) := by
  have e : lcAll (gmTup 2 (gmCons (gmName 1) (gmCons (gmName 2) gmNil))) pTrue (pVar 1) ⟨[some (.obj i), none, none], st⟩ (ws.map entP) = some (ws.map fun p => .int p.1) := lc_nums (sl := [some (.obj i), none, none]) (st := st) rfl ws
  have h1 : ws.length ≤ 50000 := by omega
  have h2 : ws.length + S.done.length ≤ 100000 := by omega
  have hk2 : S.done.map (fun kv => keyV kv.1) = (keyN S.done).map .int ∧ (keyN S.done).length = S.done.length := by
    generalize S.done = d at ha
    induction d with
    | nil => exact ⟨rfl, rfl⟩
    | cons p r ih =>
      obtain ⟨i, hi⟩ := ha p List.mem_cons_self
      obtain ⟨a, b⟩ := ih (fun q hq => ha q (List.mem_cons_of_mem _ hq)) 
      have e : keyN (p :: r) = i :: keyN r := by
        unfold keyN
        rw [List.filterMap_cons_some]
        rw [hi]
      rw [e, List.map_cons, List.map_cons, a, hi, List.length_cons, List.length_cons, b]
      exact ⟨rfl, rfl⟩
  have e2 : fSortSet [.list ((ws.map fun p => .int p.1) ++ S.done.map (fun kv => keyV kv.1))] = some (.list ((usort ltI ((ws.map (·.1)) ++ keyN S.done)).map .int)) := by
    rw [hk2.1, show (ws.map fun p => PyData.int p.1) = (ws.map (·.1)).map PyData.int by rw [List.map_map]; rfl, ← List.map_append]
    show (intsD _).bind _ = _
    rw [intsD_map]
    exact if_pos (by rw [List.length_append, List.length_map, hk2.2]; omega)
  simp [F_Disk_numbers, m_Disk_numbers, pLc, iOwn, fld_at h, h, hl, Sg.wipe, Sg.clr, e, pKeys, h1, h2, e2, funOf, argVs, argV, argsOf, sSeq, sIf, sBind, mBP, pTst, pFld, wVar, wVal, wFld, sRaise, endOf, sNext, pOp, pC, pVar, sRet, sRetN, mP, mW, sExpr, sAsg, sAugF, insAt, sSetF, sSetFN, eBind, mCall, callF, mMeth, clsAt, noFld, notFld, aNil, aConsV, okV, okVs, asB, asI, asBv, bAnd, bOr, bNot, mTst, mAndB, mOrB, mNotB, mIf, mAnd, mOr, mNot, pAnd, pOr, pNot, pIf, pUn, pNil, pCons, pCB, pTup, pLst, pIsi, fNotN, fIsN, isNone, fEq, fNe, fEqB, fAdd, fSub, fI, fIB, fIC, fNeg, fIx, fLen, fLt, fMax2, fMin2, fInt, contAt, lstAt, dicAt, mAppP, mLPop, Sg.put, Sg.set, pLenL, pLenD, pDGet, pDGet2, pDIn, pDNotIn, sDPutP, mDPop1, mDPop2, keyD, nLst, nDic, sAsgN, sFrz, Sg.frz, endP, pureOf, pChain, mTup, mLst, mCB, isTy, sNames, setNs, anV, anN, anNil, mMake, makeF, mMakeK, mTold, mVar, pSl, oNone, oSome, mSl, sFor, iData, mOp, mUn, lk_Disk_wide, in_Disk_wide, pt_Disk_wide, lk_Disk_settled_ones, in_Disk_settled_ones, pt_Disk_settled_ones, lk_Disk_loose, in_Disk_loose, pt_Disk_loose, lk_Disk_fuse, in_Disk_fuse, pt_Disk_fuse, lk_Disk_has_fallen, in_Disk_has_fallen, pt_Disk_has_fallen, lk_Disk_many_reads, in_Disk_many_reads, pt_Disk_many_reads, lk_Disk_many_writes, in_Disk_many_writes, pt_Disk_many_writes, lk_Disk_many_settles, in_Disk_many_settles, pt_Disk_many_settles, ln_Disk]
end EV

/-! ### EV: a disk that no fuse burns -/
namespace EV
open PySem PySem.Spec PyProof.Rows L2 Evl L2H LamX LR
/-- calm: no fuse, not fallen, what is loose -/
structure Calm (S : DkS) (ws : List (Int × Str)) : Prop where
  fl : S.fallen = false
  fu : S.fuse = .none
  lo : S.loose = .ownL (ws.map entP)
  ok : ∀ q ∈ ws, PyData.strOk q.2 = true ∧ q.2.length ≤ 100000
  ll : ws.length ≤ 1000
  dl : S.done.length ≤ 1000
theorem calm_burn {S : DkS} {ws : List (Int × Str)} (c : Calm S ws) : burnE S = (.ok (.dat .none), S) := by
  unfold burnE
  rw [c.fl, c.fu]
  rfl
theorem write_ok {st : List Ob} {i : Nat} {S : DkS} {ws : List (Int × Str)} {n : Int} {z : Str} (h : st[i]? = some (dkO S)) (c : Calm S ws) (h0 : 0 ≤ n) (h1 : n ≤ 9999) (hz : (z.length : Int) ≤ S.wide) (hz2 : z.length ≤ 100000) :
    F_Disk_write F_look_whole F_Disk_burn [.at_ (.ob i), .dat (.int n), .dat (.str z)] st = some (.ok (.dat .none), st.set i (dkO { S with wr := S.wr + 1, loose := .ownL ((ws ++ [(n, z)]).map entP) })) := by
  refine (write_eq h (.inl c.fu) c.lo (by rw [List.length_map]; have := c.ll; omega) (fun q hq => by cases hq; exact hz2)).trans ?_
  have w : wholeB (.int n) 0 9999 = true := by
    show (decide _ && decide _) = true
    rw [decide_eq_true h0, decide_eq_true h1]
    rfl
  have t : textB (.str z) S.wide = true := decide_eq_true hz
  unfold writeE
  rw [if_pos w, if_pos t, calm_burn c]
  simp only [List.map_append]
  rfl
theorem settle_ok {st : List Ob} {i : Nat} {S : DkS} {ws : List (Int × Str)} (h : st[i]? = some (dkO S)) (c : Calm S ws) :
    F_Disk_settle F_Disk_burn [.at_ (.ob i)] st = some (.ok (.dat (.int (ws.length : Nat))), st.set i (dkO { S with st := S.st + 1, done := putWs S.done ws, loose := .ownL [] })) := by
  refine (settle_eq h (.inl c.fu) c.lo (by have := c.ll; have := c.dl; omega)).trans ?_
  unfold settleE
  rw [calm_burn c]
/-! keys -/
theorem putD_keys (d : List (Key × PyData)) (k : Key) (v : PyData) : (putD d k v).map (·.1) = if (d.any fun kv => decide (kv.1 = k)) = true then d.map (·.1) else d.map (·.1) ++ [k] := by
  unfold putD
  split
  · rw [List.map_map]
    refine List.map_congr_left fun q hq => ?_
    show (if q.1 = k then (q.1, v) else q).1 = q.1
    split <;> rfl
  · rw [List.map_append]
    rfl
theorem any_key {d : List (Key × PyData)} {k : Key} : (d.any fun kv => decide (kv.1 = k)) = true ↔ k ∈ d.map (·.1) := by
  rw [List.any_eq_true]
  constructor
  · rintro ⟨q, hq, e⟩
    rw [← of_decide_eq_true e]
    exact List.mem_map_of_mem hq
  · intro h
    obtain ⟨q, hq, rfl⟩ := List.mem_map.mp h
    exact ⟨q, hq, decide_eq_true rfl⟩
theorem putD_nodup {d : List (Key × PyData)} {k : Key} {v : PyData} (h : (d.map (·.1)).Nodup) : ((putD d k v).map (·.1)).Nodup := by
  rw [putD_keys]
  split
  · exact h
  · rename_i c
    refine List.nodup_append.mpr ⟨h, by simp, fun a ha b hb e => ?_⟩
    rw [List.mem_singleton.mp hb] at e
    exact c (any_key.mpr (e ▸ ha))
theorem putD_mem {d : List (Key × PyData)} {k j : Key} {v : PyData} : j ∈ (putD d k v).map (·.1) ↔ j = k ∨ j ∈ d.map (·.1) := by
  rw [putD_keys]
  split
  · rename_i c
    exact ⟨.inr, fun z => z.elim (fun e => e ▸ any_key.mp c) fun z => z⟩
  · rw [List.mem_append, List.mem_singleton]
    exact Or.comm
/-- whole numbers below b, each once -/
structure KeysB (d : List (Key × PyData)) (b : Int) : Prop where
  nd : (d.map (·.1)).Nodup
  rg : ∀ k ∈ d.map (·.1), ∃ i : Int, k = .inl i ∧ 0 ≤ i ∧ i < b
theorem KeysB.put {d : List (Key × PyData)} {b i : Int} {v : PyData} (h : KeysB d b) (h0 : 0 ≤ i) (h1 : i < b) : KeysB (putD d (.inl i) v) b :=
  ⟨putD_nodup h.nd, fun k hk => (putD_mem.mp hk).elim (fun e => ⟨i, e, h0, h1⟩) (h.rg k)⟩
theorem KeysB.nil (b : Int) : KeysB [] b := ⟨List.nodup_nil, fun k h => nomatch h⟩
theorem KeysB.puts {b : Int} : ∀ (ws : List (Int × Str)) {d : List (Key × PyData)}, KeysB d b → (∀ q ∈ ws, 0 ≤ q.1 ∧ q.1 < b) → KeysB (putWs d ws) b
  | [], _, h, _ => h
  | p :: r, d, h, hw => KeysB.puts r (h.put (hw p List.mem_cons_self).1 (hw p List.mem_cons_self).2) fun q hq => hw q (List.mem_cons_of_mem _ hq)
end EV

/-! ### EV: a book of texts by whole numbers -/
namespace EV
open PySem PySem.Spec PyProof.Rows L2 Evl L2H LamX LR
def ValS (d : List (Key × PyData)) : Prop := ∀ p ∈ d, ∃ z : Str, p.2 = .str z ∧ PyData.strOk z = true
theorem ValS.nil : ValS [] := fun p h => nomatch h
theorem ValS.put {d : List (Key × PyData)} {k : Key} {z : Str} (h : ValS d) (hz : PyData.strOk z = true) : ValS (putD d k (.str z)) := by
  intro p hp
  unfold putD at hp
  split at hp
  · obtain ⟨q, hq, rfl⟩ := List.mem_map.mp hp
    by_cases c : q.1 = k
    · rw [if_pos c]
      exact ⟨z, rfl, hz⟩
    · rw [if_neg c]
      exact h q hq
  · rcases List.mem_append.mp hp with hq | hq
    · exact h p hq
    · rw [List.mem_singleton.mp hq]
      exact ⟨z, rfl, hz⟩
theorem ValS.puts : ∀ (ws : List (Int × Str)) {d : List (Key × PyData)}, ValS d → (∀ q ∈ ws, PyData.strOk q.2 = true) → ValS (putWs d ws)
  | [], _, h, _ => h
  | p :: r, d, h, hw => ValS.puts r (h.put (hw p List.mem_cons_self)) fun q hq => hw q (List.mem_cons_of_mem _ hq)
theorem puts_len : ∀ (ws : List (Int × Str)) (d : List (Key × PyData)), (putWs d ws).length ≤ d.length + ws.length
  | [], d => Nat.le_refl _
  | p :: r, d => by
    have h1 := puts_len r (putD d (.inl p.1) (.str p.2))
    have h2 := putD_len d (.inl p.1) (.str p.2)
    show (putWs (putD d (.inl p.1) (.str p.2)) r).length ≤ _
    rw [List.length_cons]
    omega
theorem half_ok {z : Str} (h : PyData.strOk z = true) : PyData.strOk (halfZ z) = true := by
  unfold PyData.strOk at h ⊢
  rw [Array.all_eq_true_iff_forall_mem] at h ⊢
  intro c hc
  refine h c ?_
  have : c ∈ (halfZ z).cps.toList := Array.mem_toList_iff.mpr hc
  unfold halfZ cutS at this
  exact Array.mem_toList_iff.mp (List.mem_of_mem_drop (List.mem_of_mem_take this))
/-- the book's keys and texts -/
structure BookOk (d : List (Key × PyData)) (b : Int) : Prop where
  ky : KeysB d b
  vl : ValS d
theorem BookOk.fall1 {d : List (Key × PyData)} {b c : Int} {p : Int × Str} (h : BookOk d b) (h0 : 0 ≤ p.1) (h1 : p.1 < b) (hz : PyData.strOk p.2 = true) : BookOk (fallP d p c) b := by
  unfold fallP
  split
  · exact ⟨h.ky.put h0 h1, h.vl.put hz⟩
  · split
    · exact ⟨h.ky.put h0 h1, h.vl.put (half_ok hz)⟩
    · exact h
theorem BookOk.falls {b : Int} : ∀ (l : List ((Int × Str) × Int)) {d : List (Key × PyData)}, BookOk d b → (∀ q ∈ l, (0 ≤ q.1.1 ∧ q.1.1 < b) ∧ PyData.strOk q.1.2 = true) → BookOk (l.foldl (fun d q => fallP d q.1 q.2) d) b
  | [], _, h, _ => h
  | p :: r, d, h, hw => BookOk.falls r (h.fall1 (hw p List.mem_cons_self).1.1 (hw p List.mem_cons_self).1.2 (hw p List.mem_cons_self).2) fun q hq => hw q (List.mem_cons_of_mem _ hq)
theorem falls_len : ∀ (l : List ((Int × Str) × Int)) (d : List (Key × PyData)), (l.foldl (fun d q => fallP d q.1 q.2) d).length ≤ d.length + l.length
  | [], d => Nat.le_refl _
  | p :: r, d => by
    have h1 := falls_len r (fallP d p.1 p.2)
    have h2 := fallP_len d p.1 p.2
    rw [List.foldl_cons, List.length_cons]
    omega
theorem BookOk.all {d : List (Key × PyData)} {b : Int} (h : BookOk d b) : AllI d := fun p hp => by
  obtain ⟨i, hi, _⟩ := h.ky.rg p.1 (List.mem_map_of_mem hp)
  exact ⟨i, hi⟩
theorem keyN_cons {p : Key × PyData} {r : List (Key × PyData)} {i : Int} (hi : p.1 = .inl i) : keyN (p :: r) = i :: keyN r := by
  unfold keyN
  rw [List.filterMap_cons_some]
  rw [hi]
theorem keyN_ks : ∀ {d : List (Key × PyData)}, AllI d → intKs d = some (keyN d)
  | [], _ => rfl
  | p :: r, h => by
    obtain ⟨i, hi⟩ := h p List.mem_cons_self
    rw [keyN_cons hi]
    unfold intKs
    rw [hi]
    show (intKs r).map _ = _
    rw [keyN_ks fun q hq => h q (List.mem_cons_of_mem _ hq)]
    rfl
theorem keyN_keys {d : List (Key × PyData)} (h : AllI d) : d.map (·.1) = (keyN d).map Sum.inl := intKs_eq (keyN_ks h)
theorem keyN_len {d : List (Key × PyData)} (h : AllI d) : (keyN d).length = d.length := by
  have := congrArg List.length (keyN_keys h)
  rw [List.length_map, List.length_map] at this
  exact this.symm
theorem BookOk.nodup {d : List (Key × PyData)} {b : Int} (h : BookOk d b) : (keyN d).Nodup := by
  have n := h.ky.nd
  rw [keyN_keys h.all] at n
  exact (List.pairwise_map.mp n).imp fun hab e => hab (by rw [e])
theorem BookOk.key {d : List (Key × PyData)} {b i : Int} (h : BookOk d b) (hi : i ∈ keyN d) : 0 ≤ i ∧ i < b := by
  have : (Sum.inl i : Key) ∈ d.map (·.1) := by rw [keyN_keys h.all]; exact List.mem_map_of_mem hi
  obtain ⟨j, e, h1, h2⟩ := h.ky.rg _ this
  cases e
  exact ⟨h1, h2⟩
theorem BookOk.val {d : List (Key × PyData)} {b i : Int} (h : BookOk d b) (hi : i ∈ keyN d) : ∃ z : Str, valD d (.inl i) = some (.str z) ∧ PyData.strOk z = true := by
  have m : (Sum.inl i : Key) ∈ d.map (·.1) := by rw [keyN_keys h.all]; exact List.mem_map_of_mem hi
  obtain ⟨q, hq, e⟩ := List.mem_map.mp m
  unfold valD
  cases hf : d.find? (fun kv => decide (kv.1 = .inl i)) with
  | none => exact absurd (decide_eq_true e) (by simpa using List.find?_eq_none.mp hf q hq)
  | some y =>
    obtain ⟨z, h1, h2⟩ := h.vl y (List.mem_of_find?_eq_some hf)
    exact ⟨z, by rw [Option.map_some, h1], h2⟩
theorem book_texts {d : List (Key × PyData)} {b : Int} (h : BookOk d b) : ∀ is : List Int, (∀ i ∈ is, i ∈ keyN d) → ∃ zs : List Str, is.map (fun i => (valD d (.inl i)).getD .none) = zs.map .str ∧ ∀ z ∈ zs, PyData.strOk z = true
  | [], _ => ⟨[], rfl, fun z h => nomatch h⟩
  | i :: r, hi => by
    obtain ⟨zs, e, hz⟩ := book_texts h r fun q hq => hi q (List.mem_cons_of_mem _ hq)
    obtain ⟨z, h1, h2⟩ := h.val (hi i List.mem_cons_self)
    refine ⟨z :: zs, by rw [List.map_cons, List.map_cons, e, h1]; rfl, fun y hy => ?_⟩
    rcases List.mem_cons.mp hy with rfl | hy
    · exact h2
    · exact hz y hy
theorem shaped_ints (l : List Int) : SeqAt.shaped (.list (l.map .int)) = true := by
  unfold SeqAt.shaped
  simp only [PyData.canLay0, lay_ints, PyData.depth, depth_ints, Bool.true_and]
  rfl
theorem ne_lists {ds : List PyData} (h : SeqAt.shaped (.list ds) = true) : fNe (.list ds) (.list ds) = some (.bool false) := by
  show (fEqB (.list ds) (.list ds)).map _ = _
  have e : fEqB (.list ds) (.list ds) = some true := by
    show (if _ then _ else _) = _
    rw [if_pos ⟨h, h⟩, eqv_refl' h]
  rw [e]
  rfl
theorem eq_lists {ds : List PyData} (h : SeqAt.shaped (.list ds) = true) : fEq (.list ds) (.list ds) = some (.bool true) := by
  show (fEqB (.list ds) (.list ds)).map _ = _
  have e : fEqB (.list ds) (.list ds) = some true := by
    show (if _ then _ else _) = _
    rw [if_pos ⟨h, h⟩, eqv_refl' h]
  rw [e]
  rfl
theorem valD_put {d : List (Key × PyData)} {k : Key} {v : PyData} : valD (putD d k v) k = some v := by
  unfold valD putD
  by_cases c : (d.any fun kv => decide (kv.1 = k)) = true
  · rw [if_pos c]
    induction d with
    | nil => cases c
    | cons p r ih =>
      rw [List.map_cons]
      by_cases e : p.1 = k
      · simp [if_pos e, List.find?_cons, e]
      · rw [if_neg e, List.find?_cons_of_neg (p := fun kv : Key × PyData => decide (kv.1 = k)) (by simpa using e)]
        refine ih ?_
        rw [List.any_cons, decide_eq_false e, Bool.false_or] at c
        exact c
  · rw [if_neg c, List.find?_append]
    have : d.find? (fun kv => decide (kv.1 = k)) = none := List.find?_eq_none.mpr fun q hq e => c (List.any_eq_true.mpr ⟨q, hq, e⟩)
    rw [this]
    simp
/-- the law's own reads of the book -/
theorem lc_gets {d : List (Key × PyData)} {sl : List (Option Val)} {st : List Ob} {j v : Nat} (hj : sl[j]? = some (some (.ownD d))) (hv : v < sl.length) (hne : v ≠ j) : ∀ is : List Int, (∀ i ∈ is, (valD d (.inl i)).isSome = true) →
    lcAll (gmName v) pTrue (pDGet (wVar j) (pVar v)) ⟨sl, st⟩ (is.map .int) = some (is.map fun i => (valD d (.inl i)).getD .none)
  | [], _ => rfl
  | i :: r, hi => by
    obtain ⟨y, hy⟩ := Option.isSome_iff_exists.mp (hi i List.mem_cons_self)
    have a0 : (sl.set v (some (.dat (.int i))))[j]? = some (some (.ownD d)) := by rw [List.getElem?_set_ne hne]; exact hj
    have a1 : (sl.set v (some (.dat (.int i))))[v]? = some (some (.dat (.int i))) := List.getElem?_set_self hv
    have one : lcOne (gmName v) pTrue (pDGet (wVar j) (pVar v)) ⟨sl, st⟩ (.int i) = some (some y) := by
      simp [lcOne, gmName, pTrue, Sg.set, pVar, wVar, wVal, pDGet, dicAt, contAt, keyD, a0, a1, hy]
    show (lcOne _ _ _ _ _).bind _ = _
    rw [one]
    show (lcAll _ _ _ _ (r.map _)).bind _ = _
    rw [lc_gets hj hv hne r fun q hq => hi q (List.mem_cons_of_mem _ hq), List.map_cons, hy]
    rfl
end EV

/-! ### EV: steps of a law's body -/
namespace EV
open PySem PySem.Spec PyProof.Rows L2 Evl L2H LamX LR
theorem sSeq_nx {a b : SM} {g g1 : Sg} {r : Option (Flo × Sg)} (h1 : a g = some (.nx, g1)) (h2 : b g1 = r) : sSeq a b g = r := by
  unfold sSeq
  rw [h1]
  exact h2
theorem sRet_ok {m : EM} {g g1 : Sg} {v : Rv} (h : m g = some (.ok v, g1)) : sRet m g = some (.rt v, g1) := by
  unfold sRet sBind
  rw [h]
  rfl
theorem mAnd_tt {a b : EM} {g g1 : Sg} {r : Option (Except Str Rv × Sg)} (h1 : a g = some (.ok (.dat (.bool true)), g1)) (h2 : b g1 = r) : mAnd a b g = r := by
  unfold mAnd eBind
  rw [h1]
  exact h2
theorem lenO_ok {C : Str} {f : Fun} {m : EM} {g g1 : Sg} {n : Int} (h : mMeth C "__len__" f 1 m aNil g = some (.ok (.dat (.int n)), g1)) (h0 : 0 ≤ n) (h1 : n < 2 ^ 63) : mLenO C f m g = some (.ok (.dat (.int n)), g1) := by
  unfold mLenO eBind
  rw [h]
  exact if_pos ⟨h0, h1⟩
end EV

/-! ### texts of the law k10 -/
namespace EV
open PySem PySem.Spec PyProof.Rows L2 Evl L2H LamX LR
theorem app_ok {a b : Str} (h1 : PyData.strOk a = true) (h2 : PyData.strOk b = true) : PyData.strOk (a ++ b) = true := by
  unfold PyData.strOk at *
  show (a.cps ++ b.cps).all _ = true
  rw [Array.all_append, h1, h2]
  rfl
theorem app_len (a b : Str) : (a ++ b).length = a.length + b.length := by
  show (a.cps ++ b.cps).size = _
  rw [Array.size_append]
  rfl
theorem rep_ok : ∀ m : Nat, m < 119 → PyData.strOk (repS (Str.ofString "x") m) = true := by decide +kernel
theorem num_ok : ∀ k : Nat, k < 30 → PyData.strOk (Str.ofString (toString (k : Int))) = true := by decide +kernel
theorem rep_len : ∀ m : Nat, m < 119 → (repS (Str.ofString "x") m).length = m := by decide +kernel
theorem num_len : ∀ k : Nat, k < 30 → (Str.ofString (toString (k : Int))).length ≤ 2 := by decide +kernel
end EV

/-! ### the law k10, over the evaluator -/
namespace EV
open PySem PySem.Spec PyProof.Rows L2 Evl L2H LamX LR
abbrev FW := F_Disk_write F_look_whole F_Disk_burn
abbrev FS := F_Disk_settle F_Disk_burn
abbrev FR := F_Disk_read F_look_whole
abbrev FI := F_Disk___init__ F_look_whole
abbrev B1 := b1_law FI FW FR FS F_Disk_loose_ones F_Disk_numbers F_Disk___len__ F_Disk_counts F_Disk_fall
abbrev E2 := e2_law FI FW FR FS F_Disk_loose_ones F_Disk_numbers F_Disk___len__ F_Disk_counts F_Disk_fall
theorem val_put {d : List (Key × PyData)} {k j : Key} {v : PyData} (h : j ≠ k) : valD (putD d k v) j = valD d j := by
  unfold valD putD
  split
  · congr 1
    induction d with
    | nil => rfl
    | cons p r ih =>
      rw [List.map_cons, List.find?_cons, List.find?_cons]
      by_cases c : p.1 = k
      · have e1 : decide (p.1 = j) = false := decide_eq_false fun z => h (by rw [← z, c])
        rw [if_pos c]
        simp only [e1]
        rename_i hany
        by_cases c2 : (r.any fun kv => decide (kv.1 = k)) = true
        · exact ih c2
        · have : r.map (fun kv => if kv.1 = k then (kv.1, v) else kv) = r := by
            conv => rhs; rw [← List.map_id r]
            exact List.map_congr_left fun q hq => if_neg fun z => c2 (List.any_eq_true.mpr ⟨q, hq, decide_eq_true z⟩)
          rw [this]
      · rw [if_neg c]
        cases hd : decide (p.1 = j) with
        | true => simp only [hd]
        | false =>
          simp only [hd]
          by_cases c2 : (r.any fun kv => decide (kv.1 = k)) = true
          · exact ih c2
          · have : r.map (fun kv => if kv.1 = k then (kv.1, v) else kv) = r := by
              conv => rhs; rw [← List.map_id r]
              exact List.map_congr_left fun q hq => if_neg fun z => c2 (List.any_eq_true.mpr ⟨q, hq, decide_eq_true z⟩)
            rw [this]
  · rw [List.find?_append]
    cases hf : List.find? (fun kv => decide (kv.1 = j)) d with
    | some q => rfl
    | none =>
      have e : decide (k = j) = false := decide_eq_false fun z => h z.symm
      simp [List.find?_cons, e]
theorem last_cons (p : Int × Str) (r : List (Int × Str)) (j : Int) : lastOf (p :: r) j = match lastOf r j with
    | some z => some z
    | none => if p.1 = j then some p.2 else none := by
  unfold lastOf
  by_cases c : p.1 = j
  · rw [List.filter_cons_of_pos (by simpa using c), List.map_cons, List.getLast?_cons, if_pos c]
    cases (List.map (fun x => x.2) (List.filter (fun p => decide (p.1 = j)) r)).getLast? <;> rfl
  · rw [List.filter_cons_of_neg (by simpa using c), if_neg c]
    cases (List.map (fun x => x.2) (List.filter (fun p => decide (p.1 = j)) r)).getLast? <;> rfl
theorem val_puts {j : Int} : ∀ (ws : List (Int × Str)) (d : List (Key × PyData)), valD (putWs d ws) (.inl j) = match lastOf ws j with
    | some z => some (.str z)
    | none => valD d (.inl j)
  | [], _ => rfl
  | p :: r, d => by
    show valD (putWs (putD d (.inl p.1) (.str p.2)) r) _ = _
    rw [val_puts r, last_cons]
    cases hl : lastOf r j with
    | some z => rfl
    | none =>
      by_cases c : p.1 = j
      · rw [if_pos c, ← c]
        exact valD_put
      · rw [if_neg c]
        exact val_put fun e => c (Sum.inl.inj e).symm
theorem readV_book (S : DkS) (ws : List (Int × Str)) (j : Int) : (valD (putWs S.done ws) (.inl j)).getD .none = readV S ws j := by
  rw [val_puts]
  unfold readV
  cases lastOf ws j <;> rfl
theorem nodup_le {α : Type} [DecidableEq α] : ∀ {l m : List α}, l.Nodup → (∀ x ∈ l, x ∈ m) → l.length ≤ m.length
  | [], _, _, _ => Nat.zero_le _
  | a :: r, m, h, hs => by
    have ha := hs a List.mem_cons_self
    obtain ⟨h1, h2⟩ := List.nodup_cons.mp h
    have := nodup_le (l := r) (m := m.erase a) h2 fun x hx => (List.mem_erase_of_ne (fun (e : x = a) => h1 (e ▸ hx))).mpr (hs x (List.mem_cons_of_mem _ hx))
    rw [List.length_erase_of_mem ha] at this
    have hm : 0 < m.length := List.length_pos_of_mem ha
    rw [List.length_cons]
    omega
def six : List Key := [.inl 0, .inl 1, .inl 2, .inl 3, .inl 4, .inl 5]
theorem six_mem {i : Int} (h0 : 0 ≤ i) (h1 : i < 6) : (Sum.inl i : Key) ∈ six := by
  have e : i = 0 ∨ i = 1 ∨ i = 2 ∨ i = 3 ∨ i = 4 ∨ i = 5 := by omega
  rcases e with rfl | rfl | rfl | rfl | rfl | rfl <;> simp [six]
theorem book_len {d : List (Key × PyData)} (h : BookOk d 6) : d.length ≤ 6 := by
  have := nodup_le (m := six) h.ky.nd fun k hk => by
    obtain ⟨i, rfl, h0, h1⟩ := h.ky.rg k hk
    exact six_mem h0 h1
  rw [List.length_map] at this
  exact this
theorem puts_mem {j : Key} : ∀ (ws : List (Int × Str)) {d : List (Key × PyData)}, j ∈ (putWs d ws).map (·.1) ↔ (∃ q ∈ ws, j = .inl q.1) ∨ j ∈ d.map (·.1)
  | [], d => by
    show j ∈ d.map (·.1) ↔ _
    simp
  | p :: r, d => by
    show j ∈ (putWs (putD d (.inl p.1) (.str p.2)) r).map (·.1) ↔ _
    rw [puts_mem r, putD_mem]
    constructor
    · rintro (⟨q, hq, e⟩ | e | e)
      · exact .inl ⟨q, List.mem_cons_of_mem _ hq, e⟩
      · exact .inl ⟨p, List.mem_cons_self, e⟩
      · exact .inr e
    · rintro (⟨q, hq, e⟩ | e)
      · rcases List.mem_cons.mp hq with rfl | hq
        · exact .inr (.inl e)
        · exact .inl ⟨q, hq, e⟩
      · exact .inr (.inr e)
theorem mem_keyN {d : List (Key × PyData)} (h : AllI d) {i : Int} : i ∈ keyN d ↔ (Sum.inl i : Key) ∈ d.map (·.1) := by
  rw [keyN_keys h]
  constructor
  · exact fun z => List.mem_map_of_mem z
  · intro z
    obtain ⟨j, hj, e⟩ := List.mem_map.mp z
    cases e
    exact hj
structure K10 (S : DkS) (ws : List (Int × Str)) (n : Nat) : Prop where
  c : Calm S ws
  w0 : 120 ≤ S.wide
  sm : ∀ q ∈ ws, (0 ≤ q.1 ∧ q.1 < 6) ∧ PyData.strOk q.2 = true
  bk : BookOk S.done 6
  ln : ws.length ≤ n
theorem K10.book {S : DkS} {ws : List (Int × Str)} {n : Nat} (h : K10 S ws n) : BookOk (putWs S.done ws) 6 := ⟨KeysB.puts ws h.bk.ky fun q hq => (h.sm q hq).1, ValS.puts ws h.bk.vl fun q hq => (h.sm q hq).2⟩
theorem K10.nums {S : DkS} {ws : List (Int × Str)} {n : Nat} (h : K10 S ws n) : usort ltI ((ws.map (·.1)) ++ keyN S.done) = usort ltI (keyN (putWs S.done ws)) := by
  refine ris_eq tot_ltI (ris_usort tot_ltI _) (ris_usort tot_ltI _) fun z => ?_
  rw [mem_usort tot_ltI, mem_usort tot_ltI, mem_keyN h.book.all, puts_mem, List.mem_append, mem_keyN h.bk.all, List.mem_map]
  constructor
  · rintro (⟨q, hq, rfl⟩ | e)
    · exact .inl ⟨q, hq, rfl⟩
    · exact .inr e
  · rintro (⟨q, hq, e⟩ | e)
    · cases e
      exact .inl ⟨q, hq, rfl⟩
    · exact .inr e
abbrev sl10 (ns : List Int) (S : DkS) (ws : List (Int × Str)) (x1 x7 x8 x9 x10 : Option Val) : List (Option Val) := [some (.dat (scrD ns)), x1, some (.obj 0), some (.ownD (putWs S.done ws)), some (.ownL ((ws.map (·.1)).map .int)), some (.ownD S.done), some (.ownL [.int S.rd, .int S.wr, .int S.st]), x7, x8, x9, x10]
theorem ne_sh {d : PyData} (hs : SeqAt.shaped d = true) : fNe d d = some (.bool false) := by
  have he := eqv_refl' hs
  cases d <;> simp [fNe, fEqB, hs, he]
theorem eq_sh {d : PyData} (hs : SeqAt.shaped d = true) : fEq d d = some (.bool true) := by
  have he := eqv_refl' hs
  cases d <;> simp [fEq, fEqB, hs, he]
theorem neI (a : Int) : fNe (.int a) (.int a) = some (.bool false) := by simp [fNe, fEqB]
theorem nbD (S : DkS) : List.lookup ("write" : Str) (dkF S) = none ∧ List.lookup ("numbers" : Str) (dkF S) = none ∧ List.lookup ("read" : Str) (dkF S) = none ∧ List.lookup ("loose_ones" : Str) (dkF S) = none ∧ List.lookup ("settle" : Str) (dkF S) = none ∧ List.lookup ("__len__" : Str) (dkF S) = none ∧ List.lookup ("fall" : Str) (dkF S) = none ∧ List.lookup ("counts" : Str) (dkF S) = none := ⟨rfl, rfl, rfl, rfl, rfl, rfl, rfl, rfl⟩
theorem k10_tail1 {ns : List Int} {S : DkS} {ws : List (Int × Str)} {n : Nat} {st : List Ob} {x1 x7 x8 x9 x10 : Option Val} (hK : K10 S ws n) (hn : n ≤ 30) (h : st[0]? = some (dkO S)) :
    (sIf (mOrB (mTst (mOpW fNe (mMeth "Disk" "loose_ones" F_Disk_loose_ones 1 (mW (wVar 2)) aNil) (wVar 4))) (mOrB (mTst (mOp fNe (mMeth "Disk" "numbers" F_Disk_numbers 1 (mW (wVar 2)) aNil) (mP (pSortD (wVar 3))))) (mTst (mOp fNe (mLenO "Disk" F_Disk___len__ (mW (wVar 2))) (mP (pLenD (wVar 3))))))) (sRet (mP (pC (.bool false)))) sNext) ⟨sl10 ns S ws x1 x7 x8 x9 x10, st⟩ = some (.nx, ⟨sl10 ns S ws x1 x7 x8 x9 x10, st⟩) := by
  have wl : ws.length ≤ 30 := Nat.le_trans hK.ln hn
  have dl := book_len hK.bk
  have bl := book_len hK.book
  have lx : F_Disk_loose_ones [.at_ (.ob 0)] st = some (.ok (.dat (.list ((ws.map (·.1)).map .int))), st) := by
    rw [List.map_map]
    exact looses_eq h hK.c.lo (by omega)
  have nx := numbers_eq h hK.c.lo (by omega) (by omega) hK.bk.all
  rw [hK.nums] at nx
  have so : pSortD (wVar 3) ⟨sl10 ns S ws x1 x7 x8 x9 x10, st⟩ = some (.list ((usort ltI (keyN (putWs S.done ws))).map .int)) := by
    have inn : (keyN (putWs S.done ws)).Nodup ∧ (keyN (putWs S.done ws)).length < 64 := ⟨hK.book.nodup, by rw [keyN_len hK.book.all]; omega⟩
    simp [pSortD, wVar, wVal, dicAt, contAt, keyN_ks hK.book.all, inn]
  have dn : (dist (ws.map fun p => (.inl p.1 : Key))).length ≤ 6 := nodup_le (m := six) (dist_nodup _) fun k hk => by
    obtain ⟨q, hq, rfl⟩ := List.mem_map.mp (mem_dist.mp hk)
    exact six_mem (hK.sm q hq).1.1 (hK.sm q hq).1.2
  have le := len_eq h hK.c.lo (by omega)
  have de : (dist ((ws.map fun p => (.inl p.1 : Key)) ++ S.done.map (·.1))).length = (putWs S.done ws).length := by
    rw [dist_len (ks := (putWs S.done ws).map (·.1)) hK.book.ky.nd fun k => ?_, List.length_map]
    rw [puts_mem]
    constructor
    · rintro (⟨q, hq, rfl⟩ | e)
      · exact List.mem_append_left _ (List.mem_map.mpr ⟨q, hq, rfl⟩)
      · exact List.mem_append_right _ e
    · intro z
      rcases List.mem_append.mp z with z | z
      · obtain ⟨q, hq, rfl⟩ := List.mem_map.mp z
        exact .inl ⟨q, hq, rfl⟩
      · exact .inr z
  rw [de] at le
  have lnM : mMeth "Disk" "__len__" F_Disk___len__ 1 (mW (wVar 2)) aNil ⟨sl10 ns S ws x1 x7 x8 x9 x10, st⟩ = some (.ok (.dat (.int ((putWs S.done ws).length : Nat))), ⟨sl10 ns S ws x1 x7 x8 x9 x10, st⟩) := by
    simp [le, h, nbD, funOf, argVs, argV, argsOf, sSeq, sIf, sBind, mBP, pTst, pFld, wVar, wVal, wFld, sRaise, endOf, sNext, pOp, pC, pVar, sRet, sRetN, mP, mW, sExpr, sAsg, sAugF, insAt, sSetF, sSetFN, eBind, mCall, callF, mMeth, clsAt, noFld, notFld, aNil, aConsV, okV, okVs, asB, asI, asBv, bAnd, bOr, bNot, mTst, mAndB, mOrB, mNotB, mIf, mAnd, mOr, mNot, pAnd, pOr, pNot, pIf, pUn, pNil, pCons, pCB, pTup, pLst, pIsi, fNotN, fIsN, isNone, fAdd, fSub, fI, fIB, fIC, fNeg, fIx, fLen, fLt, fMax2, fMin2, fInt, contAt, lstAt, dicAt, mAppP, mLPop, Sg.put, Sg.set, pLenL, pLenD, pDGet, pDGet2, pDIn, pDNotIn, sDPutP, mDPop1, mDPop2, keyD, nLst, nDic, sAsgN, sFrz, Sg.frz, endP, pureOf, pChain, mTup, mLst, mCB, isTy, sNames, setNs, anV, anN, anNil, mMake, makeF, mMakeK, mTold, mVar, pSl, oNone, oSome, mSl, sFor, iData, mOp, mUn, lk_Disk_wide, in_Disk_wide, pt_Disk_wide, lk_Disk_settled_ones, in_Disk_settled_ones, pt_Disk_settled_ones, lk_Disk_loose, in_Disk_loose, pt_Disk_loose, lk_Disk_fuse, in_Disk_fuse, pt_Disk_fuse, lk_Disk_has_fallen, in_Disk_has_fallen, pt_Disk_has_fallen, lk_Disk_many_reads, in_Disk_many_reads, pt_Disk_many_reads, lk_Disk_many_writes, in_Disk_many_writes, pt_Disk_many_writes, lk_Disk_many_settles, in_Disk_many_settles, pt_Disk_many_settles, ln_Disk]
  have lnO := lenO_ok lnM (by omega) (by omega)
  have ne1 := ne_lists (shaped_ints (ws.map (·.1)))
  have ne2 := ne_lists (shaped_ints (usort ltI (keyN (putWs S.done ws))))
  generalize (usort ltI (keyN (putWs S.done ws))).map PyData.int = us at nx so ne2
  generalize hls : (ws.map (·.1)).map PyData.int = ls at lx ne1 so lnO
  simp [lx, nx, so, lnO, ne1, ne2, neI, h, hls, nbD, mOpW, funOf, argVs, argV, argsOf, sSeq, sIf, sBind, mBP, pTst, pFld, wVar, wVal, wFld, sRaise, endOf, sNext, pOp, pC, pVar, sRet, sRetN, mP, mW, sExpr, sAsg, sAugF, insAt, sSetF, sSetFN, eBind, mCall, callF, mMeth, clsAt, noFld, notFld, aNil, aConsV, okV, okVs, asB, asI, asBv, bAnd, bOr, bNot, mTst, mAndB, mOrB, mNotB, mIf, mAnd, mOr, mNot, pAnd, pOr, pNot, pIf, pUn, pNil, pCons, pCB, pTup, pLst, pIsi, fNotN, fIsN, isNone, fAdd, fSub, fI, fIB, fIC, fNeg, fIx, fLen, fLt, fMax2, fMin2, fInt, contAt, lstAt, dicAt, mAppP, mLPop, Sg.put, Sg.set, pLenL, pLenD, pDGet, pDGet2, pDIn, pDNotIn, sDPutP, mDPop1, mDPop2, keyD, nLst, nDic, sAsgN, sFrz, Sg.frz, endP, pureOf, pChain, mTup, mLst, mCB, isTy, sNames, setNs, anV, anN, anNil, mMake, makeF, mMakeK, mTold, mVar, pSl, oNone, oSome, mSl, sFor, iData, mOp, mUn, lk_Disk_wide, in_Disk_wide, pt_Disk_wide, lk_Disk_settled_ones, in_Disk_settled_ones, pt_Disk_settled_ones, lk_Disk_loose, in_Disk_loose, pt_Disk_loose, lk_Disk_fuse, in_Disk_fuse, pt_Disk_fuse, lk_Disk_has_fallen, in_Disk_has_fallen, pt_Disk_has_fallen, lk_Disk_many_reads, in_Disk_many_reads, pt_Disk_many_reads, lk_Disk_many_writes, in_Disk_many_writes, pt_Disk_many_writes, lk_Disk_many_settles, in_Disk_many_settles, pt_Disk_many_settles, ln_Disk]
theorem k10_tail2 {ns : List Int} {S : DkS} {ws : List (Int × Str)} {st : List Ob} {x1 x7 x8 x9 x10 : Option Val} (h : st[0]? = some (dkO S)) :
    (sIf (mTst (mOp fNe (mMeth "Disk" "counts" F_Disk_counts 1 (mW (wVar 2)) aNil) (mP (pTupW (wVar 6))))) (sRet (mP (pC (.bool false)))) sNext) ⟨sl10 ns S ws x1 x7 x8 x9 x10, st⟩ = some (.nx, ⟨sl10 ns S ws x1 x7 x8 x9 x10, st⟩) := by
  have cx := counts_eq h
  have eT : fNe (.tuple [.int S.rd, .int S.wr, .int S.st]) (.tuple [.int S.rd, .int S.wr, .int S.st]) = some (.bool false) := by
    have hs : SeqAt.shaped (.tuple [.int S.rd, .int S.wr, .int S.st]) = true := rfl
    exact ne_sh hs
  simp [cx, eT, h, nbD, pTupW, funOf, argVs, argV, argsOf, sSeq, sIf, sBind, mBP, pTst, pFld, wVar, wVal, wFld, sRaise, endOf, sNext, pOp, pC, pVar, sRet, sRetN, mP, mW, sExpr, sAsg, sAugF, insAt, sSetF, sSetFN, eBind, mCall, callF, mMeth, clsAt, noFld, notFld, aNil, aConsV, okV, okVs, asB, asI, asBv, bAnd, bOr, bNot, mTst, mAndB, mOrB, mNotB, mIf, mAnd, mOr, mNot, pAnd, pOr, pNot, pIf, pUn, pNil, pCons, pCB, pTup, pLst, pIsi, fNotN, fIsN, isNone, fAdd, fSub, fI, fIB, fIC, fNeg, fIx, fLen, fLt, fMax2, fMin2, fInt, contAt, lstAt, dicAt, mAppP, mLPop, Sg.put, Sg.set, pLenL, pLenD, pDGet, pDGet2, pDIn, pDNotIn, sDPutP, mDPop1, mDPop2, keyD, nLst, nDic, sAsgN, sFrz, Sg.frz, endP, pureOf, pChain, mTup, mLst, mCB, isTy, sNames, setNs, anV, anN, anNil, mMake, makeF, mMakeK, mTold, mVar, pSl, oNone, oSome, mSl, sFor, iData, mOp, mUn, lk_Disk_wide, in_Disk_wide, pt_Disk_wide, lk_Disk_settled_ones, in_Disk_settled_ones, pt_Disk_settled_ones, lk_Disk_loose, in_Disk_loose, pt_Disk_loose, lk_Disk_fuse, in_Disk_fuse, pt_Disk_fuse, lk_Disk_has_fallen, in_Disk_has_fallen, pt_Disk_has_fallen, lk_Disk_many_reads, in_Disk_many_reads, pt_Disk_many_reads, lk_Disk_many_writes, in_Disk_many_writes, pt_Disk_many_writes, lk_Disk_many_settles, in_Disk_many_settles, pt_Disk_many_settles, ln_Disk]
theorem calm_more {S : DkS} {ws : List (Int × Str)} {n : Int} {z : Str} (c : Calm S ws) (hl : ws.length < 900) (h1 : PyData.strOk z = true) (h2 : z.length ≤ 100000) : Calm { S with wr := S.wr + 1, loose := .ownL ((ws ++ [(n, z)]).map entP) } (ws ++ [(n, z)]) :=
  ⟨c.fl, c.fu, rfl, fun q hq => (List.mem_append.mp hq).elim (c.ok q) fun e => by rw [List.mem_singleton.mp e]; exact ⟨h1, h2⟩, by rw [List.length_append]; show ws.length + 1 ≤ 1000; omega, c.dl⟩
theorem addI (a b : Int) : fAdd (.int a) (.int b) = some (.int (a + b)) := rfl
theorem mulI (b : Int) : fMul (.int 10) (.int b) = some (.int (10 * b)) := by
  simp [fMul]
end EV

/-! ### the law k10: the loop, the end -/
namespace EV
open PySem PySem.Spec PyProof.Rows L2 Evl L2H LamX LR
theorem K10.read {S : DkS} {ws : List (Int × Str)} {n : Nat} {st : List Ob} (hK : K10 S ws n) (hn : n ≤ 30) (h : st[0]? = some (dkO S)) {i : Int} (h0 : 0 ≤ i) (h1 : i < 6) : FR [.at_ (.ob 0), .dat (.int i)] st = some (.ok (.dat (readV S ws i)), st.set 0 (dkO { S with rd := S.rd + 1 })) := by
  refine (read_eq h hK.c.lo (by have := hK.ln; omega) (fun q hq => (hK.sm q hq).2)).trans ?_
  have w : wholeB (.int i) 0 9999 = true := by
    show (decide _ && decide _) = true
    rw [decide_eq_true h0, decide_eq_true (by omega)]
    rfl
  unfold readE
  rw [if_pos w, hK.c.fl]
  rfl
theorem K10.readOk {S : DkS} {ws : List (Int × Str)} {n : Nat} (hK : K10 S ws n) {i : Int} : SeqAt.shaped (readV S ws i) = true := by
  unfold readV
  cases hl : lastOf ws i with
  | some z =>
    have m := List.mem_of_getLast? (show ((ws.filter fun p => decide (p.1 = i)).map (·.2)).getLast? = some z from hl)
    obtain ⟨q, hq, rfl⟩ := List.mem_map.mp m
    have := (hK.sm q (List.mem_filter.mp hq).1).2
    show SeqAt.shaped (.str q.2) = true
    unfold SeqAt.shaped
    simp only [PyData.canLay0, this, PyData.depth, Bool.true_and]
    rfl
  | none =>
    show SeqAt.shaped ((valD S.done (.inl i)).getD .none) = true
    cases hv : valD S.done (.inl i) with
    | none => rfl
    | some v =>
      unfold valD at hv
      obtain ⟨y, hy, rfl⟩ := Option.map_eq_some_iff.mp hv
      obtain ⟨z, h1, h2⟩ := hK.bk.vl y (List.mem_of_find?_eq_some hy)
      rw [h1]
      show SeqAt.shaped (.str z) = true
      unfold SeqAt.shaped
      simp only [PyData.canLay0, h2, PyData.depth, Bool.true_and]
      rfl
theorem k10_body {ns : List Int} (hns : ns.length ≤ 63) {S : DkS} {ws : List (Int × Str)} {n : Nat} {st : List Ob} {k : Nat} {x7 x8 x9 x10 : Option Val} (hk : k < 30) (hK : K10 S ws n) (hn : n < 30) (h : st[0]? = some (dkO S)) :
    ∃ S' ws' y7 y8 y9, B1 ⟨sl10 ns S ws (some (.dat (.int (k : Int)))) x7 x8 x9 x10, st⟩ = some (.nx, ⟨sl10 ns S' ws' (some (.dat (.int (k : Int)))) y7 y8 y9 x10, st.set 0 (dkO S')⟩) ∧ K10 S' ws' (n + 1) := by
  have tk := fo_pick (ns := ns) (k := 10 * (k : Int) + 1) (many := 5) hns (by omega) (by omega) (by decide)
  have t0 := pick_lo ns (10 * (k : Int) + 1) (many := 5) (by decide)
  have t1 := pick_hi ns (10 * (k : Int) + 1) (many := 5) (by decide)
  generalize pick ns (10 * (k : Int) + 1) 5 = t at tk t0 t1
  have ik := fo_pick (ns := ns) (k := 10 * (k : Int) + 2) (many := 6) hns (by omega) (by omega) (by decide)
  have i0 := pick_lo ns (10 * (k : Int) + 2) (many := 6) (by decide)
  have i1 := pick_hi ns (10 * (k : Int) + 2) (many := 6) (by decide)
  generalize pick ns (10 * (k : Int) + 2) 6 = i at ik i0 i1
  have bl := book_len hK.book
  have wl := hK.ln
  by_cases c2 : t < 2
  · have mk := fo_pick (ns := ns) (k := 10 * (k : Int) + 3) (many := 119) hns (by omega) (by omega) (by decide)
    have m0 := pick_lo ns (10 * (k : Int) + 3) (many := 119) (by decide)
    have m1 := pick_hi ns (10 * (k : Int) + 3) (many := 119) (by decide)
    generalize pick ns (10 * (k : Int) + 3) 119 = m at mk m0 m1
    have z1 := app_ok (rep_ok m.toNat (by omega)) (num_ok k hk)
    have z2 := app_len (repS (Str.ofString "x") m.toNat) (Str.ofString (toString (k : Int)))
    have mz : fMul (.str (Str.ofString "x")) (.int m) = some (.str (repS (Str.ofString "x") m.toNat)) := by
      show (if _ then _ else _) = _
      rw [if_pos ⟨by omega, by omega, by decide +kernel⟩]
    have sz : fStrI [.int (k : Int)] = some (.str (Str.ofString (toString (k : Int)))) := if_pos (by omega)
    have l1 := rep_len m.toNat (by omega)
    have l2 := num_len k hk
    generalize repS (Str.ofString "x") m.toNat = za at mz z1 z2 l1
    generalize Str.ofString (toString (k : Int)) = zb at sz z1 z2 l2
    have az : fAdd (.str za) (.str zb) = some (.str (za ++ zb)) := if_pos (by omega)
    have z2' : (za ++ zb).length ≤ 120 := by omega
    generalize za ++ zb = z at az z1 z2'
    have wx := write_ok h hK.c i0 (by omega) (z := z) (by have := hK.w0; omega) (by omega)
    generalize hS1 : ({ S with wr := S.wr + 1, loose := .ownL ((ws ++ [(i, z)]).map entP) } : DkS) = S1 at wx
    have e1 : S1.done = S.done := by rw [← hS1]
    have e2 : S1.rd = S.rd := by rw [← hS1]
    have e3 : S1.wr = S.wr + 1 := by rw [← hS1]
    have e4 : S1.st = S.st := by rw [← hS1]
    have K1 : K10 S1 (ws ++ [(i, z)]) (n + 1) := by
      refine ⟨by rw [← hS1]; exact calm_more hK.c (by omega) z1 (by omega), by rw [← hS1]; exact hK.w0, fun q hq => ?_, by rw [e1]; exact hK.bk, by rw [List.length_append, List.length_singleton]; omega⟩
      rcases List.mem_append.mp hq with hq | hq
      · exact hK.sm q hq
      · rw [List.mem_singleton.mp hq]
        exact ⟨⟨i0, i1⟩, z1⟩
    have h1 : (st.set 0 (dkO S1))[0]? = some (dkO S1) := set_at h
    have pe : putD (putWs S.done ws) (.inl i) (.str z) = putWs S.done (ws ++ [(i, z)]) := by
      unfold putWs
      rw [List.foldl_append]
      rfl
    refine ⟨S1, ws ++ [(i, z)], some (.dat (.int t)), some (.dat (.int i)), some (.dat (.str z)), ?_, K1⟩
    unfold B1 b1_law
    refine sSeq_nx (g1 := ⟨sl10 ns S ws (some (.dat (.int (k : Int)))) (some (.dat (.int t))) (some (.dat (.int i))) x9 x10, st⟩) (by simp [tk, ik, addI, mulI, funOf, argVs, argV, argsOf, sSeq, sIf, sBind, mBP, pTst, pFld, wVar, wVal, wFld, sRaise, endOf, sNext, pOp, pC, pVar, sRet, sRetN, mP, mW, sExpr, sAsg, sAugF, insAt, sSetF, sSetFN, eBind, mCall, callF, mMeth, clsAt, noFld, notFld, aNil, aConsV, okV, okVs, asB, asI, asBv, bAnd, bOr, bNot, mTst, mAndB, mOrB, mNotB, mIf, mAnd, mOr, mNot, pAnd, pOr, pNot, pIf, pUn, pNil, pCons, pCB, pTup, pLst, pIsi, fNotN, fIsN, isNone, fSub, fI, fIB, fIC, fNeg, fIx, fLen, fLt, fMax2, fMin2, fInt, contAt, lstAt, dicAt, mAppP, mLPop, Sg.put, Sg.set, pLenL, pLenD, pDGet, pDGet2, pDIn, pDNotIn, sDPutP, mDPop1, mDPop2, keyD, nLst, nDic, sAsgN, sFrz, Sg.frz, endP, pureOf, pChain, mTup, mLst, mCB, isTy, sNames, setNs, anV, anN, anNil, mMake, makeF, mMakeK, mTold, mVar, pSl, oNone, oSome, mSl, sFor, iData, mOp, mUn, lk_Disk_wide, in_Disk_wide, pt_Disk_wide, lk_Disk_settled_ones, in_Disk_settled_ones, pt_Disk_settled_ones, lk_Disk_loose, in_Disk_loose, pt_Disk_loose, lk_Disk_fuse, in_Disk_fuse, pt_Disk_fuse, lk_Disk_has_fallen, in_Disk_has_fallen, pt_Disk_has_fallen, lk_Disk_many_reads, in_Disk_many_reads, pt_Disk_many_reads, lk_Disk_many_writes, in_Disk_many_writes, pt_Disk_many_writes, lk_Disk_many_settles, in_Disk_many_settles, pt_Disk_many_settles, ln_Disk]) ?_
    refine sSeq_nx (g1 := ⟨sl10 ns S1 (ws ++ [(i, z)]) (some (.dat (.int (k : Int)))) (some (.dat (.int t))) (some (.dat (.int i))) (some (.dat (.str z))) x10, st.set 0 (dkO S1)⟩) ?_ (sSeq_nx (k10_tail1 K1 (by omega) h1) (k10_tail2 h1))
    have fl : fLt (.int t) (.int 2) = some (.bool true) := by simp [fLt, c2]
    have d1 : (putWs S.done ws).length < 100000 := by omega
    have w1 : ws.length < 100000 := by omega
    simp [fl, mk, mz, sz, az, addI, mulI, h, nbD, wx, d1, w1, pe, e1, e2, e3, e4, sLPutP, pIxL, atI, ixN, funOf, argVs, argV, argsOf, sSeq, sIf, sBind, mBP, pTst, pFld, wVar, wVal, wFld, sRaise, endOf, sNext, pOp, pC, pVar, sRet, sRetN, mP, mW, sExpr, sAsg, sAugF, insAt, sSetF, sSetFN, eBind, mCall, callF, mMeth, clsAt, noFld, notFld, aNil, aConsV, okV, okVs, asB, asI, asBv, bAnd, bOr, bNot, mTst, mAndB, mOrB, mNotB, mIf, mAnd, mOr, mNot, pAnd, pOr, pNot, pIf, pUn, pNil, pCons, pCB, pTup, pLst, pIsi, fNotN, fIsN, isNone, fSub, fI, fIB, fIC, fNeg, fIx, fLen, fMax2, fMin2, fInt, contAt, lstAt, dicAt, mAppP, mLPop, Sg.put, Sg.set, pLenL, pLenD, pDGet, pDGet2, pDIn, pDNotIn, sDPutP, mDPop1, mDPop2, keyD, nLst, nDic, sAsgN, sFrz, Sg.frz, endP, pureOf, pChain, mTup, mLst, mCB, isTy, sNames, setNs, anV, anN, anNil, mMake, makeF, mMakeK, mTold, mVar, pSl, oNone, oSome, mSl, sFor, iData, mOp, mUn, lk_Disk_wide, in_Disk_wide, pt_Disk_wide, lk_Disk_settled_ones, in_Disk_settled_ones, pt_Disk_settled_ones, lk_Disk_loose, in_Disk_loose, pt_Disk_loose, lk_Disk_fuse, in_Disk_fuse, pt_Disk_fuse, lk_Disk_has_fallen, in_Disk_has_fallen, pt_Disk_has_fallen, lk_Disk_many_reads, in_Disk_many_reads, pt_Disk_many_reads, lk_Disk_many_writes, in_Disk_many_writes, pt_Disk_many_writes, lk_Disk_many_settles, in_Disk_many_settles, pt_Disk_many_settles, ln_Disk]
  · have fl : fLt (.int t) (.int 2) = some (.bool false) := by simp [fLt, c2]
    by_cases c4 : t < 4
    · have fl4 : fLt (.int t) (.int 4) = some (.bool true) := by simp [fLt, c4]
      have rx := hK.read (by omega) h i0 i1
      have gt : (valD (putWs S.done ws) (.inl i)).getD .none = readV S ws i := readV_book S ws i
      have ne := ne_sh (hK.readOk (i := i))
      generalize readV S ws i = v at rx gt ne
      generalize hS1 : ({ S with rd := S.rd + 1 } : DkS) = S1 at rx
      have e1 : S1.done = S.done := by rw [← hS1]
      have e2 : S1.rd = S.rd + 1 := by rw [← hS1]
      have e3 : S1.wr = S.wr := by rw [← hS1]
      have e4 : S1.st = S.st := by rw [← hS1]
      have K1 : K10 S1 ws (n + 1) := by
        refine ⟨by rw [← hS1]; exact ⟨hK.c.fl, hK.c.fu, hK.c.lo, hK.c.ok, hK.c.ll, hK.c.dl⟩, by rw [← hS1]; exact hK.w0, hK.sm, by rw [e1]; exact hK.bk, by omega⟩
      have h1 : (st.set 0 (dkO S1))[0]? = some (dkO S1) := set_at h
      refine ⟨S1, ws, some (.dat (.int t)), some (.dat (.int i)), x9, ?_, K1⟩
      unfold B1 b1_law
      refine sSeq_nx (g1 := ⟨sl10 ns S ws (some (.dat (.int (k : Int)))) (some (.dat (.int t))) (some (.dat (.int i))) x9 x10, st⟩) (by simp [tk, ik, addI, mulI, funOf, argVs, argV, argsOf, sSeq, sIf, sBind, mBP, pTst, pFld, wVar, wVal, wFld, sRaise, endOf, sNext, pOp, pC, pVar, sRet, sRetN, mP, mW, sExpr, sAsg, sAugF, insAt, sSetF, sSetFN, eBind, mCall, callF, mMeth, clsAt, noFld, notFld, aNil, aConsV, okV, okVs, asB, asI, asBv, bAnd, bOr, bNot, mTst, mAndB, mOrB, mNotB, mIf, mAnd, mOr, mNot, pAnd, pOr, pNot, pIf, pUn, pNil, pCons, pCB, pTup, pLst, pIsi, fNotN, fIsN, isNone, fSub, fI, fIB, fIC, fNeg, fIx, fLen, fMax2, fMin2, fInt, contAt, lstAt, dicAt, mAppP, mLPop, Sg.put, Sg.set, pLenL, pLenD, pDGet, pDGet2, pDIn, pDNotIn, sDPutP, mDPop1, mDPop2, keyD, nLst, nDic, sAsgN, sFrz, Sg.frz, endP, pureOf, pChain, mTup, mLst, mCB, isTy, sNames, setNs, anV, anN, anNil, mMake, makeF, mMakeK, mTold, mVar, pSl, oNone, oSome, mSl, sFor, iData, mOp, mUn, lk_Disk_wide, in_Disk_wide, pt_Disk_wide, lk_Disk_settled_ones, in_Disk_settled_ones, pt_Disk_settled_ones, lk_Disk_loose, in_Disk_loose, pt_Disk_loose, lk_Disk_fuse, in_Disk_fuse, pt_Disk_fuse, lk_Disk_has_fallen, in_Disk_has_fallen, pt_Disk_has_fallen, lk_Disk_many_reads, in_Disk_many_reads, pt_Disk_many_reads, lk_Disk_many_writes, in_Disk_many_writes, pt_Disk_many_writes, lk_Disk_many_settles, in_Disk_many_settles, pt_Disk_many_settles, ln_Disk]) ?_
      refine sSeq_nx (g1 := ⟨sl10 ns S1 ws (some (.dat (.int (k : Int)))) (some (.dat (.int t))) (some (.dat (.int i))) x9 x10, st.set 0 (dkO S1)⟩) ?_ (sSeq_nx (k10_tail1 K1 (by omega) h1) (k10_tail2 h1))
      simp [fl, fl4, addI, mulI, h, nbD, rx, gt, ne, e1, e2, e3, e4, sLPutP, pIxL, atI, ixN, funOf, argVs, argV, argsOf, sSeq, sIf, sBind, mBP, pTst, pFld, wVar, wVal, wFld, sRaise, endOf, sNext, pOp, pC, pVar, sRet, sRetN, mP, mW, sExpr, sAsg, sAugF, insAt, sSetF, sSetFN, eBind, mCall, callF, mMeth, clsAt, noFld, notFld, aNil, aConsV, okV, okVs, asB, asI, asBv, bAnd, bOr, bNot, mTst, mAndB, mOrB, mNotB, mIf, mAnd, mOr, mNot, pAnd, pOr, pNot, pIf, pUn, pNil, pCons, pCB, pTup, pLst, pIsi, fNotN, fIsN, isNone, fSub, fI, fIB, fIC, fNeg, fIx, fLen, fMax2, fMin2, fInt, contAt, lstAt, dicAt, mAppP, mLPop, Sg.put, Sg.set, pLenL, pLenD, pDGet, pDGet2, pDIn, pDNotIn, sDPutP, mDPop1, mDPop2, keyD, nLst, nDic, sAsgN, sFrz, Sg.frz, endP, pureOf, pChain, mTup, mLst, mCB, isTy, sNames, setNs, anV, anN, anNil, mMake, makeF, mMakeK, mTold, mVar, pSl, oNone, oSome, mSl, sFor, iData, mOp, mUn, lk_Disk_wide, in_Disk_wide, pt_Disk_wide, lk_Disk_settled_ones, in_Disk_settled_ones, pt_Disk_settled_ones, lk_Disk_loose, in_Disk_loose, pt_Disk_loose, lk_Disk_fuse, in_Disk_fuse, pt_Disk_fuse, lk_Disk_has_fallen, in_Disk_has_fallen, pt_Disk_has_fallen, lk_Disk_many_reads, in_Disk_many_reads, pt_Disk_many_reads, lk_Disk_many_writes, in_Disk_many_writes, pt_Disk_many_writes, lk_Disk_many_settles, in_Disk_many_settles, pt_Disk_many_settles, ln_Disk]
    · have fl4 : fLt (.int t) (.int 4) = some (.bool false) := by simp [fLt, c4]
      have sx := settle_ok h hK.c
      generalize hS1 : ({ S with st := S.st + 1, done := putWs S.done ws, loose := .ownL [] } : DkS) = S1 at sx
      have e1 : S1.done = putWs S.done ws := by rw [← hS1]
      have e2 : S1.rd = S.rd := by rw [← hS1]
      have e3 : S1.wr = S.wr := by rw [← hS1]
      have e4 : S1.st = S.st + 1 := by rw [← hS1]
      have K1 : K10 S1 [] (n + 1) := by
        refine ⟨⟨by rw [← hS1]; exact hK.c.fl, by rw [← hS1]; exact hK.c.fu, by rw [← hS1]; rfl, (fun _ h => nomatch h), Nat.zero_le _, by rw [e1]; omega⟩, by rw [← hS1]; exact hK.w0, (fun _ h => nomatch h), by rw [e1]; exact hK.book, Nat.zero_le _⟩
      have h1 : (st.set 0 (dkO S1))[0]? = some (dkO S1) := set_at h
      have pe : putWs (putWs S.done ws) [] = putWs S.done ws := rfl
      have ne := neI (ws.length : Int)
      refine ⟨S1, [], some (.dat (.int t)), some (.dat (.int i)), x9, ?_, K1⟩
      unfold B1 b1_law
      refine sSeq_nx (g1 := ⟨sl10 ns S ws (some (.dat (.int (k : Int)))) (some (.dat (.int t))) (some (.dat (.int i))) x9 x10, st⟩) (by simp [tk, ik, addI, mulI, funOf, argVs, argV, argsOf, sSeq, sIf, sBind, mBP, pTst, pFld, wVar, wVal, wFld, sRaise, endOf, sNext, pOp, pC, pVar, sRet, sRetN, mP, mW, sExpr, sAsg, sAugF, insAt, sSetF, sSetFN, eBind, mCall, callF, mMeth, clsAt, noFld, notFld, aNil, aConsV, okV, okVs, asB, asI, asBv, bAnd, bOr, bNot, mTst, mAndB, mOrB, mNotB, mIf, mAnd, mOr, mNot, pAnd, pOr, pNot, pIf, pUn, pNil, pCons, pCB, pTup, pLst, pIsi, fNotN, fIsN, isNone, fSub, fI, fIB, fIC, fNeg, fIx, fLen, fMax2, fMin2, fInt, contAt, lstAt, dicAt, mAppP, mLPop, Sg.put, Sg.set, pLenL, pLenD, pDGet, pDGet2, pDIn, pDNotIn, sDPutP, mDPop1, mDPop2, keyD, nLst, nDic, sAsgN, sFrz, Sg.frz, endP, pureOf, pChain, mTup, mLst, mCB, isTy, sNames, setNs, anV, anN, anNil, mMake, makeF, mMakeK, mTold, mVar, pSl, oNone, oSome, mSl, sFor, iData, mOp, mUn, lk_Disk_wide, in_Disk_wide, pt_Disk_wide, lk_Disk_settled_ones, in_Disk_settled_ones, pt_Disk_settled_ones, lk_Disk_loose, in_Disk_loose, pt_Disk_loose, lk_Disk_fuse, in_Disk_fuse, pt_Disk_fuse, lk_Disk_has_fallen, in_Disk_has_fallen, pt_Disk_has_fallen, lk_Disk_many_reads, in_Disk_many_reads, pt_Disk_many_reads, lk_Disk_many_writes, in_Disk_many_writes, pt_Disk_many_writes, lk_Disk_many_settles, in_Disk_many_settles, pt_Disk_many_settles, ln_Disk]) ?_
      refine sSeq_nx (g1 := ⟨sl10 ns S1 [] (some (.dat (.int (k : Int)))) (some (.dat (.int t))) (some (.dat (.int i))) x9 x10, st.set 0 (dkO S1)⟩) ?_ (sSeq_nx (k10_tail1 K1 (by omega) h1) (k10_tail2 h1))
      simp [fl, fl4, addI, mulI, h, nbD, sx, ne, pe, e1, e2, e3, e4, sLPutP, pIxL, atI, ixN, nDcp, funOf, argVs, argV, argsOf, sSeq, sIf, sBind, mBP, pTst, pFld, wVar, wVal, wFld, sRaise, endOf, sNext, pOp, pC, pVar, sRet, sRetN, mP, mW, sExpr, sAsg, sAugF, insAt, sSetF, sSetFN, eBind, mCall, callF, mMeth, clsAt, noFld, notFld, aNil, aConsV, okV, okVs, asB, asI, asBv, bAnd, bOr, bNot, mTst, mAndB, mOrB, mNotB, mIf, mAnd, mOr, mNot, pAnd, pOr, pNot, pIf, pUn, pNil, pCons, pCB, pTup, pLst, pIsi, fNotN, fIsN, isNone, fSub, fI, fIB, fIC, fNeg, fIx, fLen, fMax2, fMin2, fInt, contAt, lstAt, dicAt, mAppP, mLPop, Sg.put, Sg.set, pLenL, pLenD, pDGet, pDGet2, pDIn, pDNotIn, sDPutP, mDPop1, mDPop2, keyD, nLst, nDic, sAsgN, sFrz, Sg.frz, endP, pureOf, pChain, mTup, mLst, mCB, isTy, sNames, setNs, anV, anN, anNil, mMake, makeF, mMakeK, mTold, mVar, pSl, oNone, oSome, mSl, sFor, iData, mOp, mUn, lk_Disk_wide, in_Disk_wide, pt_Disk_wide, lk_Disk_settled_ones, in_Disk_settled_ones, pt_Disk_settled_ones, lk_Disk_loose, in_Disk_loose, pt_Disk_loose, lk_Disk_fuse, in_Disk_fuse, pt_Disk_fuse, lk_Disk_has_fallen, in_Disk_has_fallen, pt_Disk_has_fallen, lk_Disk_many_reads, in_Disk_many_reads, pt_Disk_many_reads, lk_Disk_many_writes, in_Disk_many_writes, pt_Disk_many_writes, lk_Disk_many_settles, in_Disk_many_settles, pt_Disk_many_settles, ln_Disk]
theorem k10_loop {ns : List Int} (hns : ns.length ≤ 63) {x10 : Option Val} : ∀ (ks : List Nat), (∀ k ∈ ks, k < 30) → ∀ (n : Nat) (S : DkS) (ws : List (Int × Str)) (st : List Ob) (x1 x7 x8 x9 : Option Val), K10 S ws n → n + ks.length ≤ 30 → st[0]? = some (dkO S) →
    ∃ S' ws' y1 y7 y8 y9, forL (gmName 1) B1 (ks.map fun (k : Nat) => .int (k : Int)) ⟨sl10 ns S ws x1 x7 x8 x9 x10, st⟩ = some (.nx, ⟨sl10 ns S' ws' y1 y7 y8 y9 x10, st.set 0 (dkO S')⟩) ∧ K10 S' ws' 30
  | [], _, n, S, ws, st, x1, x7, x8, x9, hK, hl, h => ⟨S, ws, x1, x7, x8, x9, by rw [set_same h]; rfl, ⟨hK.c, hK.w0, hK.sm, hK.bk, by have := hK.ln; simp at hl; omega⟩⟩
  | k :: r, hk, n, S, ws, st, x1, x7, x8, x9, hK, hl, h => by
    rw [List.length_cons] at hl
    obtain ⟨S1, w1, y7, y8, y9, e1, K1⟩ := k10_body hns (x7 := x7) (x8 := x8) (x9 := x9) (x10 := x10) (hk k List.mem_cons_self) hK (by omega) h
    obtain ⟨S', ws', z1, z7, z8, z9, e2, K2⟩ := k10_loop hns (x10 := x10) r (fun q hq => hk q (List.mem_cons_of_mem _ hq)) (n + 1) S1 w1 (st.set 0 (dkO S1)) (some (.dat (.int (k : Int)))) y7 y8 y9 K1 (by omega) (set_at h)
    rw [List.set_set] at e2
    exact ⟨S', ws', z1, z7, z8, z9, forL_cons rfl e1 e2, K2⟩
theorem k10_reads {x0 x1 x3 x4 x5 x6 x7 x8 x9 x10 : Option Val} {d : List (Key × PyData)} : ∀ (ks : List Key), (∀ k ∈ ks, k ∈ d.map (·.1)) → ∀ (acc : List PyData) (st : List Ob) (S : DkS), st[0]? = some (dkO S) → S.done = d → K10 S [] 30 →
    ∃ S', lcEqA 10 E2 d ks acc ⟨[x0, x1, some (.obj 0), x3, x4, x5, x6, x7, x8, x9, x10], st⟩ = some (acc ++ ks.map (fun _ => .bool true), ⟨[x0, x1, some (.obj 0), x3, x4, x5, x6, x7, x8, x9, x10], st.set 0 (dkO S')⟩)
  | [], _, acc, st, S, h, _, _ => ⟨S, by simp [lcEqA, set_same h]⟩
  | k :: r, hk, acc, st, S, h, hd, hK => by
    obtain ⟨i, rfl, h0, h1⟩ := hK.bk.ky.rg k (by rw [hd]; exact hk k List.mem_cons_self)
    have rx := hK.read (by decide) h h0 h1
    have hm : i ∈ keyN S.done := (mem_keyN hK.bk.all).mpr (by rw [hd]; exact hk _ List.mem_cons_self)
    obtain ⟨z, hz, ho⟩ := hK.bk.val hm
    have rv : readV S [] i = .str z := by
      unfold readV
      show ((valD S.done (.inl i)).getD .none) = _
      rw [hz]
      rfl
    rw [rv] at rx
    rw [hd] at hz
    obtain ⟨S', e2⟩ := k10_reads (x0 := x0) (x1 := x1) (x3 := x3) (x4 := x4) (x5 := x5) (x6 := x6) (x7 := x7) (x8 := x8) (x9 := x9) (x10 := x10) r (fun q hq => hk q (List.mem_cons_of_mem _ hq)) (acc ++ [.bool true]) (st.set 0 (dkO { S with rd := S.rd + 1 })) { S with rd := S.rd + 1 } (set_at h) hd ⟨⟨hK.c.fl, hK.c.fu, hK.c.lo, hK.c.ok, hK.c.ll, hK.c.dl⟩, hK.w0, hK.sm, hK.bk, hK.ln⟩
    have eq : fEq (.str z) (.str z) = some (.bool true) := by simp [fEq, fEqB]
    have one : lcEq1 10 E2 d ⟨[x0, x1, some (.obj 0), x3, x4, x5, x6, x7, x8, x9, x10], st⟩ (.inl i) = some (.bool true, ⟨[x0, x1, some (.obj 0), x3, x4, x5, x6, x7, x8, x9, x10], st.set 0 (dkO { S with rd := S.rd + 1 })⟩) := by
      simp [lcEq1, gmName, keyV, E2, e2_law, Sg.inner, Sg.wipe, Sg.clr, keepV, h, nbD, rx, hz, eq, funOf, argVs, argV, argsOf, sSeq, sIf, sBind, mBP, pTst, pFld, wVar, wVal, wFld, sRaise, endOf, sNext, pOp, pC, pVar, sRet, sRetN, mP, mW, sExpr, sAsg, sAugF, insAt, sSetF, sSetFN, eBind, mCall, callF, mMeth, clsAt, noFld, notFld, aNil, aConsV, okV, okVs, asB, asI, asBv, bAnd, bOr, bNot, mTst, mAndB, mOrB, mNotB, mIf, mAnd, mOr, mNot, pAnd, pOr, pNot, pIf, pUn, pNil, pCons, pCB, pTup, pLst, pIsi, fNotN, fIsN, isNone, fSub, fI, fIB, fIC, fNeg, fIx, fLen, fMax2, fMin2, fInt, contAt, lstAt, dicAt, mAppP, mLPop, Sg.put, Sg.set, pLenL, pLenD, pDGet, pDGet2, pDIn, pDNotIn, sDPutP, mDPop1, mDPop2, keyD, nLst, nDic, sAsgN, sFrz, Sg.frz, endP, pureOf, pChain, mTup, mLst, mCB, isTy, sNames, setNs, anV, anN, anNil, mMake, makeF, mMakeK, mTold, mVar, pSl, oNone, oSome, mSl, sFor, iData, mOp, mUn, lk_Disk_wide, in_Disk_wide, pt_Disk_wide, lk_Disk_settled_ones, in_Disk_settled_ones, pt_Disk_settled_ones, lk_Disk_loose, in_Disk_loose, pt_Disk_loose, lk_Disk_fuse, in_Disk_fuse, pt_Disk_fuse, lk_Disk_has_fallen, in_Disk_has_fallen, pt_Disk_has_fallen, lk_Disk_many_reads, in_Disk_many_reads, pt_Disk_many_reads, lk_Disk_many_writes, in_Disk_many_writes, pt_Disk_many_writes, lk_Disk_many_settles, in_Disk_many_settles, pt_Disk_many_settles, ln_Disk]
    refine ⟨S', ?_⟩
    show (lcEq1 _ _ _ _ _).bind _ = _
    rw [one]
    show lcEqA _ _ _ r (acc ++ [_]) _ = _
    rw [e2, List.set_set]
    simp
theorem bools_true : ∀ ks : List Key, fAll [.list (ks.map fun _ => .bool true)] = some (.bool true) := by
  have : ∀ ks : List Key, bools (ks.map fun _ => .bool true) = some (ks.map fun _ => true) := by
    intro ks
    induction ks with
    | nil => rfl
    | cons k r ih =>
      show (bools (r.map fun _ => .bool true)).map _ = _
      rw [ih]
      rfl
  intro ks
  show (bools _).map _ = _
  rw [this]
  simp
theorem k10_law {ns : List Int} (hns : ns.length ≤ 63) : ∃ st', F_law FI FW FR FS F_Disk_loose_ones F_Disk_numbers F_Disk___len__ F_Disk_counts F_Disk_fall [.dat (scrD ns)] [] = some (.ok (.dat (.bool true)), st') := by
  have pk := fo_pick (ns := ns) (k := 0) (many := 281) hns (by decide) (by decide) (by decide)
  have p0 := pick_lo ns 0 (many := 281) (by decide)
  have p1 := pick_hi ns 0 (many := 281) (by decide)
  generalize pick ns 0 281 = p at pk p0 p1
  have i0 : FI [.at_ (.ob 0), .dat (.int (120 + p))] [.ins "Disk" []] = some (.ok (.dat .none), [dkO ⟨120 + p, [], .ownL [], .none, false, 0, 0, 0⟩]) := by
    refine (init_eq (st := [])).trans ?_
    have w : wholeB (.int (120 + p)) 120 400 = true := by
      show (decide _ && decide _) = true
      rw [decide_eq_true (by omega), decide_eq_true (by omega)]
      rfl
    rw [if_pos w]
    rfl
  have K0 : K10 ⟨120 + p, [], .ownL [], .none, false, 0, 0, 0⟩ [] 0 := ⟨⟨rfl, rfl, rfl, (fun _ h => nomatch h), Nat.zero_le _, Nat.zero_le _⟩, by show 120 ≤ 120 + p; omega, (fun _ h => nomatch h), ⟨KeysB.nil 6, ValS.nil⟩, Nat.zero_le _⟩
  obtain ⟨S, ws, y1, y7, y8, y9, e1, K1⟩ := k10_loop hns (x10 := none) (List.range 30) (fun k hk => List.mem_range.mp hk) 0 _ [] [dkO ⟨120 + p, [], .ownL [], .none, false, 0, 0, 0⟩] none none none none K0 (by simp) rfl
  have e1' : forL (gmName 1) B1 (rngL 30) ⟨[some (.dat (scrD ns)), none, some (.obj 0), some (.ownD []), some (.ownL []), some (.ownD []), some (.ownL [.int 0, .int 0, .int 0]), none, none, none, none], [dkO ⟨120 + p, [], .ownL [], .none, false, 0, 0, 0⟩]⟩ = some (.nx, ⟨sl10 ns S ws y1 y7 y8 y9 none, [dkO S]⟩) := e1
  have dl := book_len K1.bk
  have fx : F_Disk_fall [.at_ (.ob 0), .dat (.tuple [])] [dkO S] = some (.ok (.dat (.int (ws.length : Nat))), [dkO { S with loose := .ownL [], fuse := .none, fallen := false }]) := by
    refine (fall_eq (ws := ws) (st := [dkO S]) (i := 0) rfl K1.c.lo (by have := K1.ln; omega) (fun q hq => (K1.c.ok q hq).2) (fun ds hds => by cases hds; decide)).trans ?_
    have ef : fallE S (.tuple []) ws = (.ok (.dat (.int (ws.length : Nat))), { S with loose := .ownL [], fuse := .none, fallen := false }) := by
      show (Except.ok (Rv.dat (.int (ws.length : Nat))), { S with done := fallWs S.done ws [], loose := .ownL [], fuse := .none, fallen := false }) = _
      unfold fallWs
      rw [List.zip_nil_right]
      rfl
    rw [ef]
    rfl
  generalize hS2 : ({ S with loose := .ownL [], fuse := .none, fallen := false } : DkS) = S2 at fx
  have d2 : S2.done = S.done := by rw [← hS2]
  have K2 : K10 S2 [] 30 := by
    refine ⟨⟨by rw [← hS2], by rw [← hS2], by rw [← hS2]; rfl, (fun _ h => nomatch h), Nat.zero_le _, by rw [d2]; omega⟩, by rw [← hS2]; exact K1.w0, (fun _ h => nomatch h), by rw [d2]; exact K1.bk, Nat.zero_le _⟩
  have nx : F_Disk_numbers [.at_ (.ob 0)] [dkO S2] = some (.ok (.dat (.list ((usort ltI (keyN S.done)).map .int))), [dkO S2]) := by
    have := numbers_eq (ws := []) (st := [dkO S2]) (i := 0) rfl K2.c.lo (by decide) (by rw [d2]; omega) (by rw [d2]; exact K1.bk.all)
    rw [d2] at this
    exact this
  have so : ∀ st, pSortD (wVar 5) ⟨sl10 ns S ws y1 y7 y8 y9 none, st⟩ = some (.list ((usort ltI (keyN S.done)).map .int)) := fun st => by
    have inn : (keyN S.done).Nodup ∧ (keyN S.done).length < 64 := ⟨K1.bk.nodup, by rw [keyN_len K1.bk.all]; omega⟩
    simp [pSortD, wVar, wVal, dicAt, contAt, keyN_ks K1.bk.all, inn]
  have ne2 := ne_lists (shaped_ints (usort ltI (keyN S.done)))
  obtain ⟨S3, r3⟩ := k10_reads (x0 := some (.dat (scrD ns))) (x1 := y1) (x3 := some (.ownD (putWs S.done ws))) (x4 := some (.ownL ((ws.map (·.1)).map .int))) (x5 := some (.ownD S.done)) (x6 := some (.ownL [.int S.rd, .int S.wr, .int S.st])) (x7 := y7) (x8 := y8) (x9 := y9) (x10 := none) (d := S.done) (S.done.map (·.1)) (fun _ h => h) [] [dkO S2] S2 rfl d2 K2
  have r3' : lcEqA 10 E2 S.done (S.done.map (·.1)) [] ⟨sl10 ns S ws y1 y7 y8 y9 none, [dkO S2]⟩ = some ((S.done.map (·.1)).map (fun _ => .bool true), ⟨sl10 ns S ws y1 y7 y8 y9 none, [dkO S3]⟩) := r3
  have bt := bools_true (S.done.map (·.1))
  have rg : (30 : Int) < 1000000 ∧ -1000000 < (30 : Int) := by decide
  have dl2 : S.done.length ≤ 50000 := by omega
  have ne := neI (ws.length : Int)
  have main : m_law FI FW FR FS F_Disk_loose_ones F_Disk_numbers F_Disk___len__ F_Disk_counts F_Disk_fall ⟨[some (.dat (scrD ns)), none, none, none, none, none, none, none, none, none, none], []⟩ = some (.rt (.dat (.bool true)), ⟨sl10 ns S ws y1 y7 y8 y9 none, [dkO S3]⟩) := by
    unfold m_law
    refine sSeq_nx (g1 := ⟨[some (.dat (scrD ns)), none, some (.obj 0), some (.ownD []), some (.ownL []), some (.ownD []), some (.ownL [.int 0, .int 0, .int 0]), none, none, none, none], [dkO ⟨120 + p, [], .ownL [], .none, false, 0, 0, 0⟩]⟩) (by simp [pk, i0, addI, funOf, argVs, argV, argsOf, sSeq, sIf, sBind, mBP, pTst, pFld, wVar, wVal, wFld, sRaise, endOf, sNext, pOp, pC, pVar, sRet, sRetN, mP, mW, sExpr, sAsg, sAugF, insAt, sSetF, sSetFN, eBind, mCall, callF, mMeth, clsAt, noFld, notFld, aNil, aConsV, okV, okVs, asB, asI, asBv, bAnd, bOr, bNot, mTst, mAndB, mOrB, mNotB, mIf, mAnd, mOr, mNot, pAnd, pOr, pNot, pIf, pUn, pNil, pCons, pCB, pTup, pLst, pIsi, fNotN, fIsN, isNone, fSub, fI, fIB, fIC, fNeg, fIx, fLen, fMax2, fMin2, fInt, contAt, lstAt, dicAt, mAppP, mLPop, Sg.put, Sg.set, pLenL, pLenD, pDGet, pDGet2, pDIn, pDNotIn, sDPutP, mDPop1, mDPop2, keyD, nLst, nDic, sAsgN, sFrz, Sg.frz, endP, pureOf, pChain, mTup, mLst, mCB, isTy, sNames, setNs, anV, anN, anNil, mMake, makeF, mMakeK, mTold, mVar, pSl, oNone, oSome, mSl, sFor, iData, mOp, mUn, lk_Disk_wide, in_Disk_wide, pt_Disk_wide, lk_Disk_settled_ones, in_Disk_settled_ones, pt_Disk_settled_ones, lk_Disk_loose, in_Disk_loose, pt_Disk_loose, lk_Disk_fuse, in_Disk_fuse, pt_Disk_fuse, lk_Disk_has_fallen, in_Disk_has_fallen, pt_Disk_has_fallen, lk_Disk_many_reads, in_Disk_many_reads, pt_Disk_many_reads, lk_Disk_many_writes, in_Disk_many_writes, pt_Disk_many_writes, lk_Disk_many_settles, in_Disk_many_settles, pt_Disk_many_settles, ln_Disk]) ?_
    refine sSeq_nx (g1 := ⟨sl10 ns S ws y1 y7 y8 y9 none, [dkO S]⟩) (by simp [iRg, e1', funOf, argVs, argV, argsOf, sSeq, sIf, sBind, mBP, pTst, pFld, wVar, wVal, wFld, sRaise, endOf, sNext, pOp, pC, pVar, sRet, sRetN, mP, mW, sExpr, sAsg, sAugF, insAt, sSetF, sSetFN, eBind, mCall, callF, mMeth, clsAt, noFld, notFld, aNil, aConsV, okV, okVs, asB, asI, asBv, bAnd, bOr, bNot, mTst, mAndB, mOrB, mNotB, mIf, mAnd, mOr, mNot, pAnd, pOr, pNot, pIf, pUn, pNil, pCons, pCB, pTup, pLst, pIsi, fNotN, fIsN, isNone, fSub, fI, fIB, fIC, fNeg, fIx, fLen, fMax2, fMin2, fInt, contAt, lstAt, dicAt, mAppP, mLPop, Sg.put, Sg.set, pLenL, pLenD, pDGet, pDGet2, pDIn, pDNotIn, sDPutP, mDPop1, mDPop2, keyD, nLst, nDic, sAsgN, sFrz, Sg.frz, endP, pureOf, pChain, mTup, mLst, mCB, isTy, sNames, setNs, anV, anN, anNil, mMake, makeF, mMakeK, mTold, mVar, pSl, oNone, oSome, mSl, sFor, iData, mOp, mUn, lk_Disk_wide, in_Disk_wide, pt_Disk_wide, lk_Disk_settled_ones, in_Disk_settled_ones, pt_Disk_settled_ones, lk_Disk_loose, in_Disk_loose, pt_Disk_loose, lk_Disk_fuse, in_Disk_fuse, pt_Disk_fuse, lk_Disk_has_fallen, in_Disk_has_fallen, pt_Disk_has_fallen, lk_Disk_many_reads, in_Disk_many_reads, pt_Disk_many_reads, lk_Disk_many_writes, in_Disk_many_writes, pt_Disk_many_writes, lk_Disk_many_settles, in_Disk_many_settles, pt_Disk_many_settles, ln_Disk]) ?_
    refine sSeq_nx (g1 := ⟨sl10 ns S ws y1 y7 y8 y9 none, [dkO S2]⟩) (by simp [fx, ne, nbD, aDfl, funOf, argVs, argV, argsOf, sSeq, sIf, sBind, mBP, pTst, pFld, wVar, wVal, wFld, sRaise, endOf, sNext, pOp, pC, pVar, sRet, sRetN, mP, mW, sExpr, sAsg, sAugF, insAt, sSetF, sSetFN, eBind, mCall, callF, mMeth, clsAt, noFld, notFld, aNil, aConsV, okV, okVs, asB, asI, asBv, bAnd, bOr, bNot, mTst, mAndB, mOrB, mNotB, mIf, mAnd, mOr, mNot, pAnd, pOr, pNot, pIf, pUn, pNil, pCons, pCB, pTup, pLst, pIsi, fNotN, fIsN, isNone, fSub, fI, fIB, fIC, fNeg, fIx, fLen, fMax2, fMin2, fInt, contAt, lstAt, dicAt, mAppP, mLPop, Sg.put, Sg.set, pLenL, pLenD, pDGet, pDGet2, pDIn, pDNotIn, sDPutP, mDPop1, mDPop2, keyD, nLst, nDic, sAsgN, sFrz, Sg.frz, endP, pureOf, pChain, mTup, mLst, mCB, isTy, sNames, setNs, anV, anN, anNil, mMake, makeF, mMakeK, mTold, mVar, pSl, oNone, oSome, mSl, sFor, iData, mOp, mUn, lk_Disk_wide, in_Disk_wide, pt_Disk_wide, lk_Disk_settled_ones, in_Disk_settled_ones, pt_Disk_settled_ones, lk_Disk_loose, in_Disk_loose, pt_Disk_loose, lk_Disk_fuse, in_Disk_fuse, pt_Disk_fuse, lk_Disk_has_fallen, in_Disk_has_fallen, pt_Disk_has_fallen, lk_Disk_many_reads, in_Disk_many_reads, pt_Disk_many_reads, lk_Disk_many_writes, in_Disk_many_writes, pt_Disk_many_writes, lk_Disk_many_settles, in_Disk_many_settles, pt_Disk_many_settles, ln_Disk]) ?_
    refine sSeq_nx (g1 := ⟨sl10 ns S ws y1 y7 y8 y9 none, [dkO S2]⟩) (by simp [nx, so, ne2, nbD, funOf, argVs, argV, argsOf, sSeq, sIf, sBind, mBP, pTst, pFld, wVar, wVal, wFld, sRaise, endOf, sNext, pOp, pC, pVar, sRet, sRetN, mP, mW, sExpr, sAsg, sAugF, insAt, sSetF, sSetFN, eBind, mCall, callF, mMeth, clsAt, noFld, notFld, aNil, aConsV, okV, okVs, asB, asI, asBv, bAnd, bOr, bNot, mTst, mAndB, mOrB, mNotB, mIf, mAnd, mOr, mNot, pAnd, pOr, pNot, pIf, pUn, pNil, pCons, pCB, pTup, pLst, pIsi, fNotN, fIsN, isNone, fSub, fI, fIB, fIC, fNeg, fIx, fLen, fMax2, fMin2, fInt, contAt, lstAt, dicAt, mAppP, mLPop, Sg.put, Sg.set, pLenL, pLenD, pDGet, pDGet2, pDIn, pDNotIn, sDPutP, mDPop1, mDPop2, keyD, nLst, nDic, sAsgN, sFrz, Sg.frz, endP, pureOf, pChain, mTup, mLst, mCB, isTy, sNames, setNs, anV, anN, anNil, mMake, makeF, mMakeK, mTold, mVar, pSl, oNone, oSome, mSl, sFor, iData, mOp, mUn, lk_Disk_wide, in_Disk_wide, pt_Disk_wide, lk_Disk_settled_ones, in_Disk_settled_ones, pt_Disk_settled_ones, lk_Disk_loose, in_Disk_loose, pt_Disk_loose, lk_Disk_fuse, in_Disk_fuse, pt_Disk_fuse, lk_Disk_has_fallen, in_Disk_has_fallen, pt_Disk_has_fallen, lk_Disk_many_reads, in_Disk_many_reads, pt_Disk_many_reads, lk_Disk_many_writes, in_Disk_many_writes, pt_Disk_many_writes, lk_Disk_many_settles, in_Disk_many_settles, pt_Disk_many_settles, ln_Disk]) ?_
    refine sRet_ok ?_
    generalize hks : (S.done.map (·.1)).map (fun _ => PyData.bool true) = bs at r3' bt
    simp [mLcEqD, r3', bt, dl2, funOf, argVs, argV, argsOf, sSeq, sIf, sBind, mBP, pTst, pFld, wVar, wVal, wFld, sRaise, endOf, sNext, pOp, pC, pVar, sRet, sRetN, mP, mW, sExpr, sAsg, sAugF, insAt, sSetF, sSetFN, eBind, mCall, callF, mMeth, clsAt, noFld, notFld, aNil, aConsV, okV, okVs, asB, asI, asBv, bAnd, bOr, bNot, mTst, mAndB, mOrB, mNotB, mIf, mAnd, mOr, mNot, pAnd, pOr, pNot, pIf, pUn, pNil, pCons, pCB, pTup, pLst, pIsi, fNotN, fIsN, isNone, fSub, fI, fIB, fIC, fNeg, fIx, fLen, fMax2, fMin2, fInt, contAt, lstAt, dicAt, mAppP, mLPop, Sg.put, Sg.set, pLenL, pLenD, pDGet, pDGet2, pDIn, pDNotIn, sDPutP, mDPop1, mDPop2, keyD, nLst, nDic, sAsgN, sFrz, Sg.frz, endP, pureOf, pChain, mTup, mLst, mCB, isTy, sNames, setNs, anV, anN, anNil, mMake, makeF, mMakeK, mTold, mVar, pSl, oNone, oSome, mSl, sFor, iData, mOp, mUn, lk_Disk_wide, in_Disk_wide, pt_Disk_wide, lk_Disk_settled_ones, in_Disk_settled_ones, pt_Disk_settled_ones, lk_Disk_loose, in_Disk_loose, pt_Disk_loose, lk_Disk_fuse, in_Disk_fuse, pt_Disk_fuse, lk_Disk_has_fallen, in_Disk_has_fallen, pt_Disk_has_fallen, lk_Disk_many_reads, in_Disk_many_reads, pt_Disk_many_reads, lk_Disk_many_writes, in_Disk_many_writes, pt_Disk_many_writes, lk_Disk_many_settles, in_Disk_many_settles, pt_Disk_many_settles, ln_Disk]
  refine ⟨[dkO S3], ?_⟩
  simp [F_law, funOf, argsOf, argVs, argV, main, endOf]
abbrev LawF : Fun := F_law FI FW FR FS F_Disk_loose_ones F_Disk_numbers F_Disk___len__ F_Disk_counts F_Disk_fall
theorem law_true {ns : List Int} (hns : ns.length ≤ 63) : ∃ st', LawF [.dat (scrD ns)] [] = some (.ok (.dat (.bool true)), st') := k10_law hns
end EV

set_option maxHeartbeats 0
namespace EV
open PySem PySem.Spec PyProof.Rows L2 Evl L2H LamX LR
def TTk (K : PySem.W.Frag) : TbS := ⟨true, []⟩
theorem tt_mem {K : PySem.W.Frag} {p : Addr × Str} (h : p ∈ (TTk K).l) : ∃ q ∈ tf, (He.cT K q).2 = p.1 := by
  simp only [TTk, List.mem_cons, List.not_mem_nil, or_false] at h
theorem law_end {K : PySem.W.Frag} {ns : List Int} {H : Hp} {a : Addr} (hl : ns.length ≤ 63) (hS : SqL K H a (ns.map V.int)) (hT : Tabs (TTk K).l H) : spF K FLD (TTk K) 1 LawF [.ref a] H (fun v _ => v = .bl true) fun _ _ _ => False := by
  obtain ⟨st', e⟩ := law_true hl
  exact law_spF e hS hT
theorem facts {P : Program} {w : World} {K : PySem.W.Frag} {h : Heap} {mg : Str → Option Value} {f : Addr} (X : K.In h) (G : h.Ns mainGlobals mg) (hfa : mg ("law" : Str) = some (.ref f)) (c : SaysA as fa fn tf ex ts w h K) :
    ∃ fd : FuncData, (∀ (s : Shared) (v : Value), BindsTo s fd ⟨[v], []⟩ [("script", v)]) ∧ ∀ base : Heap, K.In base → base.Ns mainGlobals mg → (∀ p ∈ tf, TabB base mg (He.cT K p).1 (He.cT K p).2) → FnOk P w K mg base (CXL P w) 5 f fd ["script"] (spF K FLD (TTk K) 1 LawF) := by
  have T : Txt mg := ⟨c.free X G 4 rfl, c.free X G 5 rfl, c.free X G 6 rfl, c.free X G 7 rfl, c.free X G 8 rfl, c.free X G 9 rfl, c.free X G 10 rfl, c.free X G 11 rfl, c.free X G 12 rfl, c.free X G 13 rfl, c.free X G 14 rfl, c.free X G 15 rfl, c.free X G 16 rfl, c.free X G 17 rfl, c.free X G 18 rfl, c.int X G 19 rfl, c.int X G 20 rfl, c.int X G 21 rfl, c.int X G 22 rfl⟩
  obtain ⟨more0, more1⟩ := He.ba c.more
  have nd : (tf.map fun p => (He.cT K p).2).Nodup := of_decide_eq_true more0
  obtain ⟨xt0, more4⟩ := He.ba more1
  have tu_Disk_fall := more4
  have xt : ExT exNs K mg := exT_of X G xt0
  obtain ⟨fd_law_pick, F_law_pick⟩ := c.fnAt 12 (d := d_law_pick) rfl
  have m_law_pick := c.glo X G 2 (x := "_law_pick") rfl
  obtain ⟨fd_is_whole, F_is_whole⟩ := c.fnAt 0 (d := d_is_whole) rfl
  have m_is_whole := c.glo X G 0 (x := "is_whole") rfl
  obtain ⟨fd_look_whole, F_look_whole⟩ := c.fnAt 1 (d := d_look_whole) rfl
  have m_look_whole := c.glo X G 1 (x := "look_whole") rfl
  obtain ⟨fd_Disk___init__, F_Disk___init__⟩ := c.fnAt 2 (d := d_Disk___init__) rfl
  have mk_Disk := He.mkr_ok (c.faAt 30 (f := .mkr "Disk") rfl)
  have m_Disk := c.glo X G 28 (x := "Disk") rfl
  obtain ⟨fd_Disk___len__, F_Disk___len__⟩ := c.fnAt 3 (d := d_Disk___len__) rfl
  have m_Disk___len__ := He.meth_ok (c.faAt 39 (f := .meth "Disk" "__len__") rfl)
  obtain ⟨fd_Disk_burn, F_Disk_burn⟩ := c.fnAt 4 (d := d_Disk_burn) rfl
  have m_Disk_burn := He.meth_ok (c.faAt 40 (f := .meth "Disk" "burn") rfl)
  obtain ⟨fd_Disk_write, F_Disk_write⟩ := c.fnAt 5 (d := d_Disk_write) rfl
  have m_Disk_write := He.meth_ok (c.faAt 41 (f := .meth "Disk" "write") rfl)
  obtain ⟨fd_Disk_read, F_Disk_read⟩ := c.fnAt 6 (d := d_Disk_read) rfl
  have m_Disk_read := He.meth_ok (c.faAt 42 (f := .meth "Disk" "read") rfl)
  obtain ⟨fd_Disk_settle, F_Disk_settle⟩ := c.fnAt 7 (d := d_Disk_settle) rfl
  have m_Disk_settle := He.meth_ok (c.faAt 43 (f := .meth "Disk" "settle") rfl)
  obtain ⟨fd_Disk_fall, F_Disk_fall⟩ := c.fnAt 8 (d := d_Disk_fall) rfl
  have m_Disk_fall := He.meth_ok (c.faAt 44 (f := .meth "Disk" "fall") rfl)
  obtain ⟨fd_Disk_loose_ones, F_Disk_loose_ones⟩ := c.fnAt 9 (d := d_Disk_loose_ones) rfl
  have m_Disk_loose_ones := He.meth_ok (c.faAt 45 (f := .meth "Disk" "loose_ones") rfl)
  obtain ⟨fd_Disk_numbers, F_Disk_numbers⟩ := c.fnAt 10 (d := d_Disk_numbers) rfl
  have m_Disk_numbers := He.meth_ok (c.faAt 46 (f := .meth "Disk" "numbers") rfl)
  obtain ⟨fd_Disk_counts, F_Disk_counts⟩ := c.fnAt 11 (d := d_Disk_counts) rfl
  have m_Disk_counts := He.meth_ok (c.faAt 47 (f := .meth "Disk" "counts") rfl)
  obtain ⟨fd_law, F_law⟩ := c.fnAt 13 (d := d_law) rfl
  have m_law := c.glo X G 3 (x := "law") rfl
  have ck_Disk : ClsOk K FLD "Disk" := by
    refine ⟨He.cls_ok (c.faAt 29 (f := .cls "Disk") rfl), fun x hx => ?_⟩
    have hx2 : x ∈ [("wide" : Str), ("settled_ones" : Str), ("loose" : Str), ("fuse" : Str), ("has_fallen" : Str), ("many_reads" : Str), ("many_writes" : Str), ("many_settles" : Str)] := hx
    simp only [List.mem_cons, List.not_mem_nil, or_false] at hx2
    rcases hx2 with rfl | rfl | rfl | rfl | rfl | rfl | rfl | rfl
    · exact He.noat_ok (c.faAt 34 (f := .noat "Disk" "wide") rfl)
    · exact He.noat_ok (c.faAt 35 (f := .noat "Disk" "settled_ones") rfl)
    · exact He.noat_ok (c.faAt 36 (f := .noat "Disk" "loose") rfl)
    · exact He.noat_ok (c.faAt 37 (f := .noat "Disk" "fuse") rfl)
    · exact He.noat_ok (c.faAt 38 (f := .noat "Disk" "has_fallen") rfl)
    · exact He.noat_ok (c.faAt 32 (f := .noat "Disk" "many_reads") rfl)
    · exact He.noat_ok (c.faAt 31 (f := .noat "Disk" "many_writes") rfl)
    · exact He.noat_ok (c.faAt 33 (f := .noat "Disk" "many_settles") rfl)
  have e := hfa.symm.trans m_law
  cases e
  obtain ⟨mv_Disk, kb_Disk⟩ := FunD.kbinds0 (ps := ["self", "wide"]) F_Disk___init__ 1 ["wide"] [] (fun us _ ws => us ++ ws) (List.cons_ne_nil _ _) (fun _ z => nomatch z) (fun a _ b => a.append b) (fun _ _ _ _ _ _ us mv ws h1 h2 h3 => match us, mv, ws, h1, h2, h3 with | [_], [], [_], _, _, _ => rfl)
  have hB_Disk_fall : Binds K fd_Disk_fall ["self", "choices"] [] := by
    obtain ⟨ds, v1, v2⟩ := FunD.binds1 (ps := ["self", "choices"]) F_Disk_fall 2 1 (List.cons_ne_nil _ _) rfl (fun _ _ _ _ _ _ _ us its hl h2 => match us, its, hl, h2 with | [_, _], [_], _, _ => ⟨_, rfl, rfl⟩)
    cases v1
    exact v2
  obtain ⟨dd_Disk_fall, vv_Disk_fall, bb_Disk_fall⟩ := FunD.binds1 (ps := ["self", "choices"]) F_Disk_fall 1 0 (List.cons_ne_nil _ _) rfl (fun _ _ _ _ _ _ _ us its hl h2 => match us, its, hl, h2 with | [_], [_], _, _ => ⟨_, rfl, rfl⟩)
  have vf_Disk_fall : ∀ H, DtAll K H [.ref (He.dflAt ("Disk", some "fall") 0 K)] [.tuple []] := fun H => .cons (.tup (tupE_ok tu_Disk_fall H) .nil) .nil
  refine ⟨fd_law, fun s v => FunD.bindsA (ps := ["script"]) F_law (fun _ _ _ _ _ _ us hl => match us, hl with | [_], _ => rfl) s [v] rfl, fun base _ _ TB => ?_⟩
  have g_law_pick := fx_law_pick (P := P) (w := w) (K := K) (mg := mg) (base := base) (T := T) (F := F_law_pick) (hm := m_law_pick)
  have g_is_whole := fx_is_whole (P := P) (w := w) (K := K) (mg := mg) (base := base) (T := T) (xt := xt) (F := F_is_whole) (hm := m_is_whole)
  have g_look_whole := fx_look_whole (P := P) (w := w) (K := K) (mg := mg) (base := base) (TT := TTk K) (hT := rfl) (T := T) (xt := xt) (F := F_look_whole) (hm := m_look_whole) (g_is_whole := g_is_whole)
  have ok_Disk___init__ := ok_Disk___init__ (P := P) (w := w) (K := K) (mg := mg) (base := base) (TT := TTk K) (hT := rfl) (T := T) (xt := xt) (F := F_Disk___init__) (g_look_whole := g_look_whole)
  have g_Disk___len__ := mx_Disk___len__ (P := P) (w := w) (K := K) (mg := mg) (base := base) (TT := TTk K) (hT := rfl) (T := T) (xt := xt) (F := F_Disk___len__) (hm := m_Disk___len__)
  have g_Disk_burn := mx_Disk_burn (P := P) (w := w) (K := K) (mg := mg) (base := base) (TT := TTk K) (hT := rfl) (T := T) (xt := xt) (F := F_Disk_burn) (hm := m_Disk_burn)
  have g_Disk_write := mx_Disk_write (P := P) (w := w) (K := K) (mg := mg) (base := base) (TT := TTk K) (hT := rfl) (T := T) (xt := xt) (ck_Disk := ck_Disk) (F := F_Disk_write) (hm := m_Disk_write) (g_look_whole := g_look_whole) (g_Disk_burn := g_Disk_burn)
  have g_Disk_read := mx_Disk_read (P := P) (w := w) (K := K) (mg := mg) (base := base) (TT := TTk K) (hT := rfl) (T := T) (xt := xt) (F := F_Disk_read) (hm := m_Disk_read) (g_look_whole := g_look_whole)
  have g_Disk_settle := mx_Disk_settle (P := P) (w := w) (K := K) (mg := mg) (base := base) (TT := TTk K) (hT := rfl) (T := T) (xt := xt) (ck_Disk := ck_Disk) (F := F_Disk_settle) (hm := m_Disk_settle) (g_Disk_burn := g_Disk_burn)
  have om_Disk_fall := om_Disk_fall (P := P) (w := w) (K := K) (mg := mg) (base := base) (TT := TTk K) (hT := rfl) (T := T) (xt := xt) (F := F_Disk_fall) (g_is_whole := g_is_whole)
  have g_Disk_fall : Mx P w K (gaE K "Disk") mg base _ "fall" _ _ := ⟨_, _, om_Disk_fall, m_Disk_fall, hB_Disk_fall⟩
  have gd_Disk_fall : MxD P w K (gaE K "Disk") mg base _ "fall" _ _ [.ref (He.dflAt ("Disk", some "fall") 0 K)] := ⟨_, _, _, om_Disk_fall, m_Disk_fall, bb_Disk_fall, vv_Disk_fall⟩
  have g_Disk_loose_ones := mx_Disk_loose_ones (P := P) (w := w) (K := K) (mg := mg) (base := base) (TT := TTk K) (hT := rfl) (T := T) (xt := xt) (F := F_Disk_loose_ones) (hm := m_Disk_loose_ones)
  have g_Disk_numbers := mx_Disk_numbers (P := P) (w := w) (K := K) (mg := mg) (base := base) (TT := TTk K) (hT := rfl) (T := T) (xt := xt) (F := F_Disk_numbers) (hm := m_Disk_numbers)
  have g_Disk_counts := mx_Disk_counts (P := P) (w := w) (K := K) (mg := mg) (base := base) (TT := TTk K) (hT := rfl) (T := T) (xt := xt) (F := F_Disk_counts) (hm := m_Disk_counts)
  exact ok_law (P := P) (w := w) (K := K) (mg := mg) (base := base) (TT := TTk K) (hT := rfl) (T := T) (xt := xt) (ck_Disk := ck_Disk) (F := F_law) (g_law_pick := g_law_pick) (ok_Disk___init__ := ok_Disk___init__) (mk_Disk := mk_Disk) (m_Disk := m_Disk) (g_Disk_write := g_Disk_write) (g_Disk_read := g_Disk_read) (g_Disk_settle := g_Disk_settle) (g_Disk_loose_ones := g_Disk_loose_ones) (g_Disk_numbers := g_Disk_numbers) (g_Disk___len__ := g_Disk___len__) (g_Disk_counts := g_Disk_counts) (g_Disk_fall := g_Disk_fall) (kb_Disk := kb_Disk) (gd_Disk_fall := gd_Disk_fall) (vf_Disk_fall := vf_Disk_fall)
end EV
open PySem PySem.W PySem.Calls PyProof.Rows
theorem PySem.Challenge.cw_leafroom_k10_whole_disks_holds : PySem.Challenge.rw_leafroom_k10_whole_disks.Holds := by
  w_on; o_law
  refine HandSHeadRun.head_any (r := OpenLaw.row PySem.Challenge.rw_leafroom_k10_whole_disks) (q := LR.qv) (H := LR.hk) (ob := LR.ob) (M := 20000) (loose := LR.nms) (d := HandSHeadRun.topDef (OpenLaw.row PySem.Challenge.rw_leafroom_k10_whole_disks).prog 18) (kwd := []) LR.ob_eq
    (by kernel_rfl) (fun s => by kernel_rfl) LR.run (by kernel_rfl) (by kernel_rfl) (by kernel_rfl) (by rfl) (by first | assumption | decide +kernel) (by decide +kernel) ⟨rfl, rfl, rfl, rfl, rfl, by decide +kernel⟩ ?hw ?hc
  case hw => w_witness2
  case hc =>
    refine LamX.walk_ofTsE (l := PySem.Challenge.rw_leafroom_k10_whole_disks) (n := 63) (k := 5) (x := "script") (CX := fun w => LR.CXL (PySem.Challenge.rw_leafroom_k10_whole_disks).prog w) rfl (by decide) (by kernel_rfl) ⟨rfl, by decide, by decide⟩ ?F (fun w H s e s' z => ?cx)
    case cx =>
      obtain ⟨_, _, _, _, _, _, _, _, _, _, _, _, y⟩ := z
      exact y
    case F =>
      intro w mg fa h Y G hmg0
      obtain ⟨K, KX, c⟩ := Y
      have hmg : mg ("law" : PySem.Str) = some (.ref fa) := by
        have e : (HandSHeadRun.topDef (OpenLaw.row PySem.Challenge.rw_leafroom_k10_whole_disks).prog 18).name = ("law" : PySem.Str) := by kernel_rfl
        rw [← e]
        exact hmg0
      obtain ⟨fd, hb, hF⟩ := EV.facts (P := (PySem.Challenge.rw_leafroom_k10_whole_disks).prog) (w := w) KX G hmg c
      refine ⟨K, KX, fd, LR.tf.map (He.cT K), EV.spF K EV.FLD (EV.TTk K) 1 EV.LawF, fun p hp => ?_, fun p hp => ?_, fun p hp => ?_, hb, fun H a ns hl _ hT hS => EV.law_end hl hS (fun p hp => ?_), fun base k1 k2 k3 => hF base k1 k2 (fun p hp => k3 _ (List.mem_map_of_mem hp))⟩
      · obtain ⟨q, hq, rfl⟩ := List.mem_map.mp hp
        exact c.empty _ hq
      · obtain ⟨q, hq, rfl⟩ := List.mem_map.mp hp
        exact c.out _ hq
      · obtain ⟨q, hq, rfl⟩ := List.mem_map.mp hp
        exact PySem.W.codeHd_of_K KX (c.hd _ hq)
      · obtain ⟨q, hq, e⟩ := EV.tt_mem hp
        rw [← e]
        exact LamX.TabS.nil (hT _ (List.mem_map_of_mem hq))
